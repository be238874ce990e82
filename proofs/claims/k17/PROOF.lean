import PyProof.Rows.All
import HandS.Lambda
import HandS.ForMost
import HandS.TupAny
import HandS.Zip
import HandS.Deep
import HandS.SortInts
import HandS.Strs
import HandS.Style
import KE.KSortTupAny
import HandS.SortOrd
import HandS.SortRule
import HandS.IsInst
import HandS.Dict
import HandS.More
import KE.GoesMore
import HandS.Iter
import HandS.Head0
import HandS.Head1
import HandS.Head2
import HandS.HeadEnd
import HandS.HeadHook1
import HandS.HeadHook2
import HandS.Defaults
import HandS.WordsExc
import KE.KStateDown
import HandS.ExcOwn
import HandS.TryMany
import HandS.BoundDict
import KE.KDictPairs
import HandS.ExcIs
import HandS.Flow
import HandS.DictTup
import KE.KDictCopyH
import KE.KDictSum
import KE.SortCalls
import HandS.Conv
import HandS.ListItems
import HandS.HotCalls
import PyProof.StrLawsIn
import HandS.StrMore
import HandS.RaiseMore
import PyProof.StrBlock2
import HandS.Codes
import HandS.TupMul
import HandS.SetFor
import HandS.Replace
import HandS.NoneIn
import PyProof.ReprRoads
import HandS.EndTab
import KE.SortKeyHeap
import HandS.Nested
import PySem.Challenge.RW_parttree_k17_whole_nodes_and_elders
set_option Elab.async false
set_option linter.all false
set_option maxRecDepth 100000
/-! ML: a layer of data over HandS. D: a value as data; Mem: the objects that change. Every judgement's reading is lifted from data; what the data's side does not see of the objects (the frame) stays. -/
namespace ML
open PySem PySem.Spec PyProof.Rows L2

/-- a value as data; kt: a tuple that is known to have no dict; fls: a list that is locked; obj: an object that may change, by its address -/
inductive D where
  | non | bl (b : Bool) | int (i : Int) | str (x : Str) | tup (xs : List D) | kt (xs : List D) | lst (xs : List D) | fls (xs : List D) | obj (a : Addr)

/-- an object that may change -/
inductive MO where
  | lst (xs : List D)
  | dk (kvs : List (Key × D))
  | dt (kvs : List (List Key × D))
  | ins (C : Addr) (fs : List (Str × D))
  | hid
  | lck (o : Obj) (u : HO) (m : MO)

abbrev Mem := Addr → Option MO
def up (S : Mem) (a : Addr) (o : MO) : Mem := fun b => if b = a then some o else S b
theorem up_same {S : Mem} {a : Addr} {o : MO} : up S a o a = some o := by unfold up; rw [if_pos rfl]
theorem up_ne {S : Mem} {a b : Addr} {o : MO} (h : b ≠ a) : up S a o b = S b := by unfold up; rw [if_neg h]
theorem up_up {S : Mem} {a : Addr} {o u : MO} : up (up S a o) a u = up S a u := by
  funext b; unfold up; split <;> rfl
/-- an object forgotten -/
def rid (S : Mem) (a : Addr) : Mem := fun b => if b = a then none else S b
theorem rid_ne {S : Mem} {a b : Addr} (h : b ≠ a) : rid S a b = S b := by unfold rid; rw [if_neg h]
theorem rid_same {S : Mem} {a : Addr} : rid S a a = none := by unfold rid; rw [if_pos rfl]
theorem rid_up {S : Mem} {a : Addr} {o : MO} (h : S a = none) : rid (up S a o) a = S := by
  funext b; unfold rid up; split
  · next e => rw [e, h]
  · rfl

/-- the objects that are seen, all objects that may change, the heap -/
structure W where
  S : Mem
  M : Mem
  H : Hp

mutual
/-- what a value is, as data -/
inductive Rep (w : W) : V → D → Prop
  | non : Rep w .non .non
  | bl (b : Bool) : Rep w (.bl b) (.bl b)
  | int (i : Int) : Rep w (.int i) (.int i)
  | str (x : Str) : Rep w (.str x) (.str x)
  | tup {a : Addr} {vs : List V} {ds : List D} : w.H a = some (.tup vs) → w.M a = none → Reps w vs ds → ds.length ≤ sizeLine → Rep w (.ref a) (.tup ds)
  | kt {a : Addr} {o : Obj} {vs : List V} {ds : List D} : w.H a = some (.frz o (.tup vs)) → o.dict = none → w.M a = none → Reps w vs ds → ds.length ≤ sizeLine → Rep w (.ref a) (.kt ds)
  | lst {a : Addr} {vs : List V} {ds : List D} : w.H a = some (.lst vs) → w.M a = none → Reps w vs ds → ds.length ≤ sizeLine → Rep w (.ref a) (.lst ds)
  | fls {a : Addr} {o : Obj} {vs : List V} {ds : List D} : w.H a = some (.frz o (.lst vs)) → w.M a = none → Reps w vs ds → ds.length ≤ sizeLine → Rep w (.ref a) (.fls ds)
  | obj (a : Addr) : Rep w (.ref a) (.obj a)
inductive Reps (w : W) : List V → List D → Prop
  | nil : Reps w [] []
  | cons {v : V} {vs : List V} {d : D} {ds : List D} : Rep w v d → Reps w vs ds → Reps w (v :: vs) (d :: ds)
end

/-- a def's table of code objects: each of its lambda's is known -/
def lamQ : Str := "law.<locals>.<lambda>"
def TblG (w : W) (ps : Array Value) : Prop := TriplesOk ps.toList ∧ ∀ (pos : Pos) (cv : Value), codeAmong pos ps.toList = some cv → ∃ c, cv = .ref c ∧ w.H c = some (LamX.CodeO c lamQ) ∧ w.M c = none
/-- the objects that may change, as they stand -/
inductive RepO (w : W) : MO → HO → Prop
  | lst {vs : List V} {ds : List D} : Reps w vs ds → ds.length ≤ sizeLine → RepO w (.lst ds) (.lst vs)
  | dk {kvs : List (Key × D)} {kws : List (Key × V)} : Paired (fun (p : Key × D) (q : Key × V) => p.1 = q.1 ∧ Rep w q.2 p.2) kvs kws → RepO w (.dk kvs) (.dK kws)
  | dt {kvs : List (List Key × D)} {kws : List (List Key × V)} : Paired (fun (p : List Key × D) (q : List Key × V) => p.1 = q.1 ∧ Rep w q.2 p.2) kvs kws → RepO w (.dt kvs) (.dT kws)
  | ins {C dx : Addr} {fs : List (Str × D)} {gs : List (Str × V)} : Paired (fun (p : Str × D) (q : Str × V) => p.1 = q.1 ∧ Rep w q.2 p.2) fs gs → RepO w (.ins C fs) (.ins C dx gs)
  | hid {vs : List V} : RepO w .hid (.lst vs)
  | tbl {ps : Array Value} : TblG w ps → RepO w .hid (.tbl ps)
  | lck {o : Obj} {u : HO} {m : MO} : RepO w m u → RepO w (.lck o u m) (.frz o u)

structure Ok (w : W) : Prop where
  sub : ∀ a o, w.S a = some o → w.M a = some o
  mem : ∀ a o, w.M a = some o → ∃ u, w.H a = some u ∧ RepO w o u

/-- what is not seen stays as it is -/
def Step (w w' : W) : Prop := ∀ a o, w.H a = some o → w.S a = none → w'.H a = some o ∧ w'.M a = w.M a ∧ w'.S a = none
theorem Step.refl {w : W} : Step w w := fun _ _ h n => ⟨h, rfl, n⟩
theorem Step.trans {w w1 w2 : W} (a : Step w w1) (b : Step w1 w2) : Step w w2 := fun c o h n =>
  let ⟨h1, m1, n1⟩ := a c o h n
  let ⟨h2, m2, n2⟩ := b c o h1 n1
  ⟨h2, m2.trans m1, n2⟩
theorem Ok.unseen {w : W} (k : Ok w) {a : Addr} (h : w.M a = none) : w.S a = none := by
  cases e : w.S a with
  | none => rfl
  | some o => rw [k.sub a o e] at h; cases h
theorem Step.at {w w' : W} (s : Step w w') (k : Ok w) {a : Addr} {o : HO} (h : w.H a = some o) (n : w.M a = none) : w'.H a = some o ∧ w'.M a = none :=
  let ⟨h1, h2, _⟩ := s a o h (k.unseen n)
  ⟨h1, h2.trans n⟩

/-- data stays data -/
def Keeps (w w' : W) : Prop := ∀ a o, w.H a = some o → w.M a = none → w'.H a = some o ∧ w'.M a = none
mutual
theorem Rep.keeps {w w' : W} (s : Keeps w w') : ∀ {v : V} {d : D}, Rep w v d → Rep w' v d
  | _, _, .non => .non
  | _, _, .bl b => .bl b
  | _, _, .int i => .int i
  | _, _, .str x => .str x
  | _, _, .tup h n r z => .tup (s _ _ h n).1 (s _ _ h n).2 (Reps.keeps s r) z
  | _, _, .kt h e n r z => .kt (s _ _ h n).1 e (s _ _ h n).2 (Reps.keeps s r) z
  | _, _, .lst h n r z => .lst (s _ _ h n).1 (s _ _ h n).2 (Reps.keeps s r) z
  | _, _, .fls h n r z => .fls (s _ _ h n).1 (s _ _ h n).2 (Reps.keeps s r) z
  | _, _, .obj a => .obj a
theorem Reps.keeps {w w' : W} (s : Keeps w w') : ∀ {vs : List V} {ds : List D}, Reps w vs ds → Reps w' vs ds
  | _, _, .nil => .nil
  | _, _, .cons r t => .cons (Rep.keeps s r) (Reps.keeps s t)
end
theorem RepO.keeps {w w' : W} (s : Keeps w w') {o : MO} {u : HO} (r : RepO w o u) : RepO w' o u := by
  induction r with
  | lst r z => exact .lst (r.keeps s) z
  | dk r => exact .dk (Paired.mapP r fun _ _ z => ⟨z.1, z.2.keeps s⟩)
  | dt r => exact .dt (Paired.mapP r fun _ _ z => ⟨z.1, z.2.keeps s⟩)
  | ins r => exact .ins (Paired.mapP r fun _ _ z => ⟨z.1, z.2.keeps s⟩)
  | hid => exact .hid
  | tbl h => exact .tbl ⟨h.1, fun pos cv e => let ⟨c, e1, e2, e3⟩ := h.2 pos cv e; ⟨c, e1, (s _ _ e2 e3).1, (s _ _ e2 e3).2⟩⟩
  | lck _ ih => exact .lck ih
theorem Step.keeps {w w' : W} (s : Step w w') (k : Ok w) : Keeps w w' := fun _ _ h n => s.at k h n
theorem Rep.keep {w w' : W} (s : Step w w') (k : Ok w) {v : V} {d : D} (r : Rep w v d) : Rep w' v d := r.keeps (s.keeps k)
theorem Reps.keep {w w' : W} (s : Step w w') (k : Ok w) {vs : List V} {ds : List D} (r : Reps w vs ds) : Reps w' vs ds := r.keeps (s.keeps k)
theorem RepO.keep {w w' : W} (s : Step w w') (k : Ok w) {o : MO} {u : HO} (r : RepO w o u) : RepO w' o u := r.keeps (s.keeps k)

section
variable {w : W}
theorem Reps.length : ∀ {vs : List V} {ds : List D}, Reps w vs ds → vs.length = ds.length
  | _, _, .nil => rfl
  | _, _, .cons _ t => congrArg (· + 1) (Reps.length t)
theorem Reps.get : ∀ {vs : List V} {ds : List D} {i : Nat} {d : D}, Reps w vs ds → ds[i]? = some d → ∃ v, vs[i]? = some v ∧ Rep w v d
  | _, _, _, _, .nil, e => by simp at e
  | _, _, 0, _, .cons r _, e => by simp at e; subst e; exact ⟨_, rfl, r⟩
  | _, _, i + 1, _, .cons _ t, e => by
    obtain ⟨v, h1, h2⟩ := Reps.get (i := i) t (by simpa using e)
    exact ⟨v, by simpa using h1, h2⟩
theorem Reps.getV : ∀ {vs : List V} {ds : List D} {i : Nat} {v : V}, Reps w vs ds → vs[i]? = some v → ∃ d, ds[i]? = some d ∧ Rep w v d
  | _, _, _, _, .nil, e => by simp at e
  | _, _, 0, _, .cons r _, e => by simp at e; subst e; exact ⟨_, rfl, r⟩
  | _, _, i + 1, _, .cons _ t, e => by
    obtain ⟨v, h1, h2⟩ := Reps.getV (i := i) t (by simpa using e)
    exact ⟨v, by simpa using h1, h2⟩
theorem Reps.append : ∀ {vs ws : List V} {ds es : List D}, Reps w vs ds → Reps w ws es → Reps w (vs ++ ws) (ds ++ es)
  | _, _, _, _, .nil, s => s
  | _, _, _, _, .cons r t, s => .cons r (Reps.append t s)
theorem Reps.take : ∀ {vs : List V} {ds : List D} (n : Nat), Reps w vs ds → Reps w (vs.take n) (ds.take n)
  | _, _, 0, _ => .nil
  | _, _, _ + 1, .nil => .nil
  | _, _, n + 1, .cons r t => .cons r (Reps.take n t)
theorem Reps.drop : ∀ {vs : List V} {ds : List D} (n : Nat), Reps w vs ds → Reps w (vs.drop n) (ds.drop n)
  | _, _, 0, r => r
  | _, _, _ + 1, .nil => .nil
  | _, _, n + 1, .cons _ t => Reps.drop n t
theorem Reps.isEmpty {vs : List V} {ds : List D} (r : Reps w vs ds) : (!ds.isEmpty) = !vs.isEmpty := by cases r <;> rfl
theorem Ok.lst {a : Addr} {ds : List D} (k : Ok w) (h : w.S a = some (.lst ds)) : ∃ vs, w.H a = some (.lst vs) ∧ Reps w vs ds ∧ ds.length ≤ sizeLine := by
  obtain ⟨u, hu, r⟩ := k.mem a _ (k.sub a _ h)
  cases r with
  | lst r z => exact ⟨_, hu, r, z⟩
theorem Ok.free {p : Addr} (k : Ok w) (h : w.H p = none) : w.M p = none := by
  cases e : w.M p with
  | none => rfl
  | some o => obtain ⟨u, hu, _⟩ := k.mem p o e; rw [h] at hu; cases hu
theorem Ok.freeS {p : Addr} (k : Ok w) (h : w.H p = none) : w.S p = none := k.unseen (k.free h)
end

/-! ### the steps of a heap -/
section
variable {S M : Mem} {H : Hp} {p a : Addr} {o : HO} {x y : MO}
/-- a new thing that is data -/
theorem Step.new (h : H p = none) : Step ⟨S, M, H⟩ ⟨S, M, upd H p o⟩ := fun a u ha n =>
  ⟨by show upd H p o a = _; rw [upd_ne (ne_of_none ha h)]; exact ha, rfl, n⟩
theorem Ok.new (k : Ok ⟨S, M, H⟩) (h : H p = none) : Ok ⟨S, M, upd H p o⟩ := ⟨k.sub, fun a x hx => by
  obtain ⟨u, hu, r⟩ := k.mem a x hx
  exact ⟨u, by show upd H p o a = _; rw [upd_ne (ne_of_none hu h)]; exact hu, r.keep (.new h) k⟩⟩
/-- a new object that may change -/
theorem Step.alloc (h : H p = none) : Step ⟨S, M, H⟩ ⟨up S p x, up M p y, upd H p o⟩ := fun a u ha n => by
  have ne := ne_of_none ha h
  exact ⟨by show upd H p o a = _; rw [upd_ne ne]; exact ha, up_ne ne, (up_ne ne).trans n⟩
theorem Step.allocM (h : H p = none) : Step ⟨S, M, H⟩ ⟨S, up M p y, upd H p o⟩ := fun a u ha n => by
  have ne := ne_of_none ha h
  exact ⟨by show upd H p o a = _; rw [upd_ne ne]; exact ha, up_ne ne, n⟩
theorem Ok.alloc (k : Ok ⟨S, M, H⟩) (h : H p = none) (r : RepO ⟨S, M, H⟩ x o) : Ok ⟨up S p x, up M p x, upd H p o⟩ := by
  refine ⟨fun a z hz => ?_, fun a z hz => ?_⟩
  · by_cases e : a = p
    · subst e; exact up_same.trans (up_same.symm.trans hz)
    · exact (up_ne e).trans (k.sub a z ((up_ne e).symm.trans hz))
  · by_cases e : a = p
    · subst e
      have : x = z := Option.some.inj (up_same.symm.trans hz)
      subst this
      exact ⟨o, upd_same, r.keep (Step.alloc (x := x) h) k⟩
    · obtain ⟨u, hu, q⟩ := k.mem a z ((up_ne e).symm.trans hz)
      exact ⟨u, by show upd H p o a = _; rw [upd_ne e]; exact hu, q.keep (Step.alloc (x := x) h) k⟩
/-- an object written -/
theorem Step.write (h : S a = some x) : Step ⟨S, M, H⟩ ⟨up S a y, up M a y, upd H a o⟩ := fun b u hb n => by
  have ne : b ≠ a := fun e => by subst e; exact nomatch (show none = some x from (show S b = none from n) ▸ h)
  exact ⟨by show upd H a o b = _; rw [upd_ne ne]; exact hb, up_ne ne, (up_ne ne).trans n⟩
theorem Ok.write (k : Ok ⟨S, M, H⟩) (h : S a = some x) (r : RepO ⟨S, M, H⟩ y o) : Ok ⟨up S a y, up M a y, upd H a o⟩ := by
  refine ⟨fun b z hz => ?_, fun b z hz => ?_⟩
  · by_cases e : b = a
    · subst e; exact up_same.trans (up_same.symm.trans hz)
    · exact (up_ne e).trans (k.sub b z ((up_ne e).symm.trans hz))
  · by_cases e : b = a
    · subst e
      have : y = z := Option.some.inj (up_same.symm.trans hz)
      subst this
      exact ⟨o, upd_same, r.keep (Step.write h) k⟩
    · obtain ⟨u, hu, q⟩ := k.mem b z ((up_ne e).symm.trans hz)
      exact ⟨u, by show upd H a o b = _; rw [upd_ne e]; exact hu, q.keep (Step.write h) k⟩
end

/-! ### slots -/
abbrev En := List (Option D)
structure Rel (r : En) (w : W) (s : L2.St) : Prop where
  ok : Ok w
  len : r.length = s.length
  slot : ∀ (i : Nat) (d : D), r[i]? = some (some d) → ∃ v, s[i]? = some (some v) ∧ Rep w v d
theorem Rel.keep {r : En} {w w' : W} {s : L2.St} (x : Rel r w s) (k : Step w w') (m : Ok w') : Rel r w' s :=
  ⟨m, x.len, fun i d e => let ⟨v, h1, h2⟩ := x.slot i d e; ⟨v, h1, h2.keep k x.ok⟩⟩
theorem Rel.set {r : En} {w : W} {s : L2.St} {i : Nat} {v : V} {d : D} (x : Rel r w s) (q : Rep w v d) : Rel (r.set i (some d)) w (s.set i (some v)) := by
  refine ⟨x.ok, by rw [List.length_set, List.length_set]; exact x.len, fun j e h => ?_⟩
  by_cases hj : j = i
  · subst hj
    have hl : j < r.length := by
      have := (List.getElem?_eq_some_iff.mp h).1
      rwa [List.length_set] at this
    rw [List.getElem?_set_self hl] at h
    cases h
    exact ⟨v, by rw [List.getElem?_set_self (by rw [← x.len]; exact hl)], q⟩
  · rw [List.getElem?_set_ne (Ne.symm hj)] at h
    obtain ⟨u, h1, h2⟩ := x.slot j e h
    exact ⟨u, by rw [List.getElem?_set_ne (Ne.symm hj)]; exact h1, h2⟩

/-! ### readings lifted from data -/
abbrev WK := D → Mem → Prop
abbrev DE := En → Mem → WK → Prop
abbrev DT := En → Mem → (Bool → Mem → Prop) → Prop
abbrev DA := En → Mem → (List D → Mem → Prop) → Prop
structure Nd where
  nx : En → Mem → Prop
  rt : WK
  bk : En → Mem → Prop := fun _ _ => False
  ct : En → Mem → Prop := fun _ _ => False
  xc : Str → En → Mem → Prop := fun _ _ _ => False
/-- what is wanted of an exception, by its class's name -/
abbrev NX := Str → L2.St → Hp → Prop
abbrev DS := Nd → En → Mem → Prop

def lE (t : DE) : TE := fun s H Q => ∃ r S M Q', Rel r ⟨S, M, H⟩ s ∧ t r S Q' ∧ ∀ d (w : W) v, Q' d w.S → Step ⟨S, M, H⟩ w → Ok w → Rep w v d → Q v w.H
def lT (t : DT) : TT := fun s H Q => ∃ r S M Q', Rel r ⟨S, M, H⟩ s ∧ t r S Q' ∧ ∀ b (w : W), Q' b w.S → Step ⟨S, M, H⟩ w → Ok w → Q b w.H
def lA (t : DA) : TA := fun s H Q => ∃ r S M Q', Rel r ⟨S, M, H⟩ s ∧ t r S Q' ∧ ∀ ds (w : W) vs, Q' ds w.S → Step ⟨S, M, H⟩ w → Ok w → Reps w vs ds → Q vs w.H
structure Fits (Wn : NX) (w : W) (D' : Nd) (D : Ends) : Prop where
  nx : ∀ r' (w' : W) s', D'.nx r' w'.S → Rel r' w' s' → Step w w' → D.nx s' w'.H
  rt : ∀ d (w' : W) v, D'.rt d w'.S → Step w w' → Ok w' → Rep w' v d → D.rt v w'.H
  bk : ∀ r' (w' : W) s', D'.bk r' w'.S → Rel r' w' s' → Step w w' → D.bk s' w'.H
  ct : ∀ r' (w' : W) s', D'.ct r' w'.S → Rel r' w' s' → Step w w' → D.ct s' w'.H
  xc : ∀ x r' (w' : W) s', D'.xc x r' w'.S → Rel r' w' s' → Step w w' → Wn x s' w'.H
theorem Fits.after {Wn : NX} {w w1 : W} {D' : Nd} {D : Ends} (f : Fits Wn w D' D) (k : Step w w1) : Fits Wn w1 D' D :=
  ⟨fun r' w' s' a b c => f.nx r' w' s' a b (k.trans c), fun d w' v a b c e => f.rt d w' v a (k.trans b) c e, fun r' w' s' a b c => f.bk r' w' s' a b (k.trans c), fun r' w' s' a b c => f.ct r' w' s' a b (k.trans c), fun x r' w' s' a b c => f.xc x r' w' s' a b (k.trans c)⟩
def lSx (Wn : NX) (t : DS) : TS := fun D s H => ∃ r S M D', Rel r ⟨S, M, H⟩ s ∧ t D' r S ∧ Fits Wn ⟨S, M, H⟩ D' D
abbrev lS (t : DS) : TS := lSx (fun _ _ _ => False) t

section
variable {X : Cx}
theorem _root_.L2.PE.mi {e : Expr} {t t' : TE} (h : PE X e t) (i : ∀ s H Q, t' s H Q → t s H Q) : PE X e t' := ⟨fun pins s σ H Q I hw => h.run pins s σ H Q I (i σ H Q hw)⟩
theorem _root_.L2.PT.mi {e : Expr} {t t' : TT} (h : PT X e t) (i : ∀ s H Q, t' s H Q → t s H Q) : PT X e t' := ⟨fun pins s σ H Q I hw => h.run pins s σ H Q I (i σ H Q hw)⟩
theorem _root_.L2.PW.mi {e : Expr} {t t' : TT} (h : PW X e t) (i : ∀ s H Q, t' s H Q → t s H Q) : PW X e t' := ⟨fun wh pins s σ H Q I hw => h.run wh pins s σ H Q I (i σ H Q hw)⟩
theorem _root_.L2.PA.mi {es : List Expr} {t t' : TA} (h : PA X es t) (i : ∀ s H Q, t' s H Q → t s H Q) : PA X es t' := ⟨fun pos pins s σ H Q I hw => h.run pos pins s σ H Q I (i σ H Q hw)⟩
theorem _root_.L2.PS.mi {st : Stmt} {t t' : TS} (h : PS X st t) (i : ∀ D s H, t' D s H → t D s H) : PS X st t' := ⟨fun pins s σ H D I hw => h.run pins s σ H D I (i D σ H hw)⟩
theorem _root_.L2.PSs.mi {st : List Stmt} {t t' : TS} (h : PSs X st t) (i : ∀ D s H, t' D s H → t D s H) : PSs X st t' := ⟨fun pins s σ H D I hw => h.run pins s σ H D I (i D σ H hw)⟩
end
end ML

set_option maxRecDepth 100000
/-! ML2: expressions of data. -/
namespace ML
open PySem PySem.Spec PyProof.Rows L2

def opt {α : Type} (o : Option α) (k : α → Prop) : Prop := match o with | some d => k d | none => False
theorem opt_some {α : Type} {o : Option α} {d : α} {k : α → Prop} (e : o = some d) (h : k d) : opt o k := by subst e; exact h
theorem of_opt {α : Type} {o : Option α} {k : α → Prop} (h : opt o k) : ∃ d, o = some d ∧ k d := by
  cases o with
  | none => exact h.elim
  | some d => exact ⟨d, rfl, h⟩

def asT : D → Option (List D)
  | .tup xs => some xs
  | .kt xs => some xs
  | _ => none
/-- a list that is read -/
def asL (S : Mem) : D → Option (List D)
  | .lst xs => some xs
  | .fls xs => some xs
  | .obj a => match S a with
    | some (.lst xs) => some xs
    | _ => none
  | _ => none
/-- a list that is not the script -/
def asW (S : Mem) : D → Option (List D)
  | .lst xs => some xs
  | .obj a => match S a with
    | some (.lst xs) => some xs
    | _ => none
  | _ => none
def asQ (S : Mem) (d : D) : Option (List D) := match asT d with
  | some xs => some xs
  | none => asL S d
section
variable {K : PySem.W.Frag} {w : W} {d : D} {xs : List D} {v : V}
theorem asT_rep (h : asT d = some xs) (r : Rep w v d) : ∃ a vs, v = .ref a ∧ SqT K w.H a vs ∧ Reps w vs xs ∧ w.M a = none ∧ xs.length ≤ sizeLine := by
  cases d with
  | tup ys => cases h; cases r with | tup h n r z => exact ⟨_, _, rfl, .inl (.inl h), r, n, z⟩
  | kt ys => cases h; cases r with | kt h e n r z => exact ⟨_, _, rfl, .inl (.inr ⟨_, h⟩), r, n, z⟩
  | _ => cases h
theorem asW_rep (m : Ok w) (h : asW w.S d = some xs) (r : Rep w v d) : ∃ a vs, v = .ref a ∧ w.H a = some (.lst vs) ∧ Reps w vs xs ∧ xs.length ≤ sizeLine := by
  cases d with
  | lst ys => cases h; cases r with | lst h n r z => exact ⟨_, _, rfl, h, r, z⟩
  | obj a =>
    cases r
    unfold asW at h
    dsimp only at h
    split at h
    · next ys e =>
      cases h
      obtain ⟨vs, h1, h2, z⟩ := m.lst e
      exact ⟨a, vs, rfl, h1, h2, z⟩
    · cases h
  | _ => cases h
theorem asL_rep (m : Ok w) (h : asL w.S d = some xs) (r : Rep w v d) : ∃ a vs, v = .ref a ∧ SqL K w.H a vs ∧ Reps w vs xs ∧ xs.length ≤ sizeLine := by
  cases d with
  | lst ys => cases h; cases r with | lst h n r z => exact ⟨_, _, rfl, .inl (.inl h), r, z⟩
  | fls ys => cases h; cases r with | fls h n r z => exact ⟨_, _, rfl, .inl (.inr ⟨_, h⟩), r, z⟩
  | obj a =>
    cases r
    unfold asL at h
    dsimp only at h
    split at h
    · next ys e =>
      cases h
      obtain ⟨vs, h1, h2, z⟩ := m.lst e
      exact ⟨a, vs, rfl, .inl (.inl h1), h2, z⟩
    · cases h
  | _ => cases h
theorem asQ_rep (m : Ok w) (h : asQ w.S d = some xs) (r : Rep w v d) : ∃ a vs, v = .ref a ∧ (SqL K w.H a vs ∨ SqT K w.H a vs) ∧ Reps w vs xs ∧ xs.length ≤ sizeLine := by
  unfold asQ at h
  cases e : asT d with
  | some ys =>
    rw [e] at h; cases h
    obtain ⟨a, vs, e1, e2, e3, _, z⟩ := asT_rep (K := K) e r
    exact ⟨a, vs, e1, .inr e2, e3, z⟩
  | none =>
    rw [e] at h
    obtain ⟨a, vs, e1, e2, e3, z⟩ := asL_rep (K := K) m h r
    exact ⟨a, vs, e1, .inl e2, e3, z⟩
end

/-! ### names, constants -/
section
variable {X : Cx}
abbrev mVar (i : Nat) : DE := fun r S Q => match r[i]? with
  | some (some d) => Q d S
  | _ => False
theorem me_var (i : Nat) {x : Str} {pos : Pos} (hN : X.N[i]? = some x := by rfl) (hv : Vis X.env.scope x := by first | exact Or.inl rfl | exact Or.inr (Or.inl rfl) | exact Or.inr (Or.inr rfl)) (hd : (x == ("__debug__" : Str)) = false := by decide)
    (hcd : (x == ("__classdict__" : Str)) = false := by decide) : PE X (.Name x pos) (lE (mVar i)) := (pe_var hN hv hd hcd).mi fun s H Q ⟨r, S, M, Q', R, h, k⟩ => by
  unfold mVar at h
  split at h
  · next d e =>
    obtain ⟨v, hv, rep⟩ := R.slot i d e
    exact ⟨v, hv, k d _ v h .refl R.ok rep⟩
  · exact h.elim
abbrev mC (d : D) : DE := fun _ S Q => Q d S
theorem c_imp {v : V} {d : D} (h : ∀ w, Rep w v d) : ∀ s H Q, lE (mC d) s H Q → tC v s H Q := fun s H Q ⟨r, S, M, Q', R, q, k⟩ => k d ⟨S, M, H⟩ v q .refl R.ok (h _)
theorem me_int {i j pos} : PE X (.Constant (.int i) j pos) (lE (mC (.int i))) := pe_int.mi (c_imp fun _ => .int i)
theorem me_bl {b j pos} : PE X (.Constant (.bool b) j pos) (lE (mC (.bl b))) := pe_bl.mi (c_imp fun _ => .bl b)
theorem me_non {j pos} : PE X (.Constant .none j pos) (lE (mC .non)) := pe_non.mi (c_imp fun _ => .non)
theorem me_str {x j pos} : PE X (.Constant (.str x) j pos) (lE (mC (.str x))) := pe_str.mi (c_imp fun _ => .str x)
/-- a module's constant: an int, a text -/
def GlC (mg : Str → Option Value) (x : Str) (v : V) : Prop := ∃ u, mg x = some u ∧ RelV v u
theorem me_gint {x : Str} {i : Int} {pos : Pos} (hm : GlC X.mg x (.int i)) (hg : Gl X x := by rfl) (hd : (x == ("__debug__" : Str)) = false := by decide) : PE X (.Name x pos) (lE (mC (.int i))) :=
  let ⟨_, h1, h2⟩ := hm
  (pe_glob hg h1 h2 hd).mi (c_imp fun _ => .int i)
theorem me_gstr {x : Str} {i : Str} {pos : Pos} (hm : GlC X.mg x (.str i)) (hg : Gl X x := by rfl) (hd : (x == ("__debug__" : Str)) = false := by decide) : PE X (.Name x pos) (lE (mC (.str i))) :=
  let ⟨_, h1, h2⟩ := hm
  (pe_glob hg h1 h2 hd).mi (c_imp fun _ => .str i)
end

/-! ### two-place operators -/
abbrev O2 := D → D → Mem → WK → Prop
/-- what follows -/
abbrev Then (w : W) (Q' : WK) (Q : VK) : Prop := ∀ d (w' : W) z, Q' d w'.S → Step w w' → Ok w' → Rep w' z d → Q z w'.H
theorem Then.after {w w1 : W} {Q' : WK} {Q : VK} (k : Then w Q' Q) (s : Step w w1) : Then w1 Q' Q := fun d w' z q a b c => k d w' z q (s.trans a) b c
def Op2 (r : R2) (o : O2) : Prop := ∀ (x y : D) (v u : V) (w : W) (Q : VK) (Q' : WK), Ok w → Rep w v x → Rep w u y → o x y w.S Q' → Then w Q' Q → r v u w.H Q
abbrev mBin (o : O2) (a b : DE) : DE := fun r S Q => a r S fun x S1 => b r S1 fun y S2 => o x y S2 Q
theorem bin_imp {r : R2} {o : O2} {ta tb : DE} (h : Op2 r o) : ∀ s H Q, lE (mBin o ta tb) s H Q → tOp r (lE ta) (lE tb) s H Q := by
  rintro s H Q ⟨r, S, M, Q', R, t, k⟩
  refine ⟨r, S, M, _, R, t, fun x w1 v t1 k1 m1 r1 => ⟨r, w1.S, w1.M, _, R.keep k1 m1, t1, fun y w2 u t2 k2 m2 r2 => ?_⟩⟩
  exact h x y v u w2 Q Q' m2 (r1.keep k2 m1) r2 t2 (Then.after k (k1.trans k2))
theorem Op2.or {r r' : R2} {o o' p : O2} (h : Op2 r o) (h' : Op2 r' o') (hp : ∀ x y S Q, p x y S Q → o x y S Q ∨ o' x y S Q) : Op2 (fun x y H Q => r x y H Q ∨ r' x y H Q) p :=
  fun x y v u w Q Q' m rx ry q k => (hp x y w.S Q' q).elim (fun q => .inl (h x y v u w Q Q' m rx ry q k)) fun q => .inr (h' x y v u w Q Q' m rx ry q k)

def oI (g : Int → Int → D) : O2 := fun x y S Q => match x, y with
  | .int i, .int j => Q (g i j) S
  | _, _ => False
def oIC (C : Int → Int → Prop) (g : Int → Int → D) : O2 := fun x y S Q => match x, y with
  | .int i, .int j => C i j ∧ Q (g i j) S
  | _, _ => False
theorem op2_I {g : Int → Int → D} {gv : Int → Int → V} (hg : ∀ i j w, Rep w (gv i j) (g i j)) : Op2 (rI0 gv) (oI g) := by
  intro x y v u w Q Q' m rx ry h k
  unfold oI at h
  split at h
  · next i j =>
    cases rx; cases ry
    exact ⟨i, j, rfl, rfl, k _ w _ h .refl m (hg i j w)⟩
  · exact h.elim
theorem op2_IC {C : Int → Int → Prop} {g : Int → Int → D} {gv : Int → Int → V} (hg : ∀ i j w, Rep w (gv i j) (g i j)) : Op2 (rI C gv) (oIC C g) := by
  intro x y v u w Q Q' m rx ry h k
  unfold oIC at h
  split at h
  · next i j =>
    cases rx; cases ry
    exact ⟨i, j, rfl, rfl, h.1, k _ w _ h.2 .refl m (hg i j w)⟩
  · exact h.elim

/-- a + b: ints, texts, tuples, lists -/
def oAdd : O2 := fun x y S Q => match x, y with
  | .int i, .int j => Q (.int (i + j)) S
  | .str i, .str j => i.length + j.length ≤ sizeLine ∧ Q (.str (i ++ j)) S
  | .tup xs, .tup ys => xs.length + ys.length ≤ sizeLine ∧ Q (.tup (xs ++ ys)) S
  | x, y => (∃ xs ys, asT x = some xs ∧ asT y = some ys ∧ xs.length + ys.length ≤ sizeLine ∧ ∀ d, asT d = some (xs ++ ys) → Q d S) ∨
      ∃ xs ys, asW S x = some xs ∧ asW S y = some ys ∧ xs.length + ys.length ≤ sizeLine ∧ Q (.lst (xs ++ ys)) S
theorem catA_ok {K : PySem.W.Frag} {x y : D} {v u : V} {xs ys : List D} {w : W} {Q : VK} {Q' : WK} (m : Ok w) (rx : Rep w v x) (ry : Rep w u y) (ex : asT x = some xs) (ey : asT y = some ys) (hz : xs.length + ys.length ≤ sizeLine)
    (h0 : xs = [] → Q' y w.S) (h1 : xs ≠ [] → ys = [] → Q' x w.S) (h2 : xs ≠ [] → ys ≠ [] → Q' (.tup (xs ++ ys)) w.S)
    (k : Then w Q' Q) : rCatA K v u w.H Q := by
  obtain ⟨a, vs, rfl, hv, rv, _⟩ := asT_rep (K := K) ex rx
  obtain ⟨b, ws, rfl, hw, rw', _⟩ := asT_rep (K := K) ey ry
  have l1 := rv.length
  have l2 := rw'.length
  refine ⟨a, b, vs, ws, rfl, rfl, hv, hw, by omega, fun e => ?_, fun e1 e2 => ?_, fun e1 e2 p hp => ?_⟩
  · refine k _ w _ (h0 ?_) .refl m ry
    subst e; exact List.length_eq_zero_iff.mp l1.symm
  · refine k _ w _ (h1 (fun z => e1 ?_) ?_) .refl m rx
    · subst z; exact List.length_eq_zero_iff.mp l1
    · subst e2; exact List.length_eq_zero_iff.mp l2.symm
  · refine k _ ⟨w.S, w.M, _⟩ _ (h2 (fun z => e1 ?_) fun z => e2 ?_) (.new hp) (m.new hp) (.tup upd_same (m.free hp) ((rv.append rw').keep (.new hp) m) (by rw [List.length_append]; exact hz))
    · subst z; exact List.length_eq_zero_iff.mp l1
    · subst z; exact List.length_eq_zero_iff.mp l2
theorem catL_ok {x y : D} {v u : V} {xs ys : List D} {w : W} {Q : VK} {Q' : WK} (m : Ok w) (rx : Rep w v x) (ry : Rep w u y) (ex : asW w.S x = some xs) (ey : asW w.S y = some ys) (hz : xs.length + ys.length ≤ sizeLine)
    (h : Q' (.lst (xs ++ ys)) w.S) (k : Then w Q' Q) : rCat v u w.H Q := by
  obtain ⟨a, vs, rfl, hv, rv, _⟩ := asW_rep m ex rx
  obtain ⟨b, ws, rfl, hw, rw', _⟩ := asW_rep m ey ry
  have l1 := rv.length
  have l2 := rw'.length
  refine ⟨a, b, vs, ws, rfl, rfl, hv, hw, by omega, fun p hp => ?_⟩
  exact k _ ⟨w.S, w.M, _⟩ _ h (.new hp) (m.new hp) (.lst upd_same (m.free hp) ((rv.append rw').keep (.new hp) m) (by rw [List.length_append]; exact hz))
def rAddA (K : PySem.W.Frag) : R2 := fun x y H Q => rI0 (fun i j => .int (i + j)) x y H Q ∨ (∃ i j, x = .str i ∧ y = .str j ∧ i.length + j.length ≤ sizeLine ∧ Q (.str (i ++ j)) H) ∨ rCatA K x y H Q ∨ rCat x y H Q
theorem op2_add {K : PySem.W.Frag} : Op2 (rAddA K) oAdd := by
  intro x y v u w Q Q' m rx ry h k
  unfold oAdd at h
  split at h
  · next i j => cases rx; cases ry; exact .inl ⟨i, j, rfl, rfl, k _ w _ h .refl m (.int _)⟩
  · next i j => cases rx; cases ry; exact .inr (.inl ⟨i, j, rfl, rfl, h.1, k _ w _ h.2 .refl m (.str _)⟩)
  · next xs ys => exact .inr (.inr (.inl (catA_ok m rx ry rfl rfl h.1 (fun e => by subst e; exact h.2) (fun _ e => by subst e; rw [List.append_nil] at h; exact h.2) (fun _ _ => h.2) k)))
  · rcases h with ⟨xs, ys, ex, ey, hz, h⟩ | ⟨xs, ys, ex, ey, hz, h⟩
    · refine .inr (.inr (.inl (catA_ok m rx ry ex ey hz (fun e => ?_) (fun _ e => ?_) (fun _ _ => ?_) k)))
      · exact h _ (by rw [ey, e]; rfl)
      · exact h _ (by rw [ex, e, List.append_nil])
      · exact h _ rfl
    · exact .inr (.inr (.inr (catL_ok m rx ry ex ey hz h k)))

/-- a * b: ints; a list and an int -/
def oMul : O2 := fun x y S Q => match x, y with
  | .int i, .int j => CMul i j ∧ Q (.int (i * j)) S
  | x, .int k => ∃ xs, asW S x = some xs ∧ -(2 ^ 63) ≤ k ∧ k < 2 ^ 63 ∧ xs.length * k.toNat ≤ sizeLine ∧ Q (.lst (List.replicate k.toNat xs).flatten) S
  | _, _ => False
theorem reps_rep {w : W} {vs : List V} {ds : List D} (r : Reps w vs ds) : ∀ n : Nat, Reps w (List.replicate n vs).flatten (List.replicate n ds).flatten
  | 0 => .nil
  | n + 1 => by
    rw [List.replicate_succ, List.replicate_succ, List.flatten_cons, List.flatten_cons]
    exact r.append (reps_rep r n)
theorem rep_len (ds : List D) : ∀ n : Nat, (List.replicate n ds).flatten.length = n * ds.length
  | 0 => by simp
  | n + 1 => by rw [List.replicate_succ, List.flatten_cons, List.length_append, rep_len ds n, Nat.succ_mul, Nat.add_comm]
theorem op2_mul : Op2 (fun x y H Q => rI CMul (fun i j => .int (i * j)) x y H Q ∨ rRep x y H Q) oMul := by
  intro x y v u w Q Q' m rx ry h k
  unfold oMul at h
  split at h
  · next i j => cases rx; cases ry; exact .inl ⟨i, j, rfl, rfl, h.1, k _ w _ h.2 .refl m (.int _)⟩
  · next x n hx =>
    obtain ⟨xs, ex, h1, h2, h3, q⟩ := h
    cases ry
    obtain ⟨l, vs, rfl, hv, rv, _⟩ := asW_rep m ex rx
    have l1 := rv.length
    exact .inr ⟨l, _, vs, rfl, rfl, hv, h1, h2, by rw [l1]; exact h3, fun p hp => k _ ⟨w.S, w.M, _⟩ _ q (.new hp) (m.new hp) (.lst upd_same (m.free hp) ((reps_rep rv _).keep (.new hp) m) (by rw [rep_len]; rw [Nat.mul_comm]; exact h3))⟩
  · exact h.elim

section
variable {X : Cx} {a b c : Expr} {ta tb tc : DE} {pos : Pos}
theorem me_bin {op : Operator} {r : R2} {o : O2} (ho : OpR X (binaryOp op) r) (hh : Op2 r o) (ha : PE X a (lE ta)) (hb : PE X b (lE tb)) : PE X (.BinOp a op b pos) (lE (mBin o ta tb)) := (pe_op ho ha hb).mi (bin_imp hh)
theorem me_cmp {op : CmpOp} {r : R2} {o : O2} (ho : OpR X (compareOp op) r) (hh : Op2 r o) (ha : PE X a (lE ta)) (hb : PE X b (lE tb)) (hm : behindInMarks op b = false) : PE X (.Compare a [op] [b] pos) (lE (mBin o ta tb)) := (pe_cmpR ho ha hb hm).mi (bin_imp hh)

def oSub : O2 := fun x y S Q => match x, y with
  | .int i, .int j => Q (.int (i - j)) S
  | _, _ => False
theorem me_sub (ha : PE X a (lE ta)) (hb : PE X b (lE tb)) : PE X (.BinOp a .Sub b pos) (lE (mBin oSub ta tb)) := me_bin op_sub (show Op2 _ (oI fun i j => .int (i - j)) from op2_I fun _ _ _ => .int _) ha hb
def oMod : O2 := fun x y S Q => match x, y with
  | .int i, .int j => 0 < j ∧ Q (.int (i % j)) S
  | _, _ => False
theorem me_mod (ha : PE X a (lE ta)) (hb : PE X b (lE tb)) : PE X (.BinOp a .Mod b pos) (lE (mBin oMod ta tb)) := me_bin op_mod (show Op2 _ (oIC (fun _ j => 0 < j) fun i j => .int (i % j)) from op2_IC fun _ _ _ => .int _) ha hb
def oFdiv : O2 := fun x y S Q => match x, y with
  | .int i, .int j => (0 < j ∧ j < 1073741824) ∧ Q (.int (i / j)) S
  | _, _ => False
theorem me_fdiv (ha : PE X a (lE ta)) (hb : PE X b (lE tb)) : PE X (.BinOp a .FloorDiv b pos) (lE (mBin oFdiv ta tb)) := me_bin op_fdiv (show Op2 _ (oIC CDiv fun i j => .int (i / j)) from op2_IC fun _ _ _ => .int _) ha hb
theorem op_addA : OpR X (binaryOp .Add) (rAddA X.K) := OpR.or op_add (OpR.or op_add_str (OpR.or op_catA op_cat))
theorem me_add (ha : PE X a (lE ta)) (hb : PE X b (lE tb)) : PE X (.BinOp a .Add b pos) (lE (mBin oAdd ta tb)) := me_bin op_addA op2_add ha hb
theorem me_mul (ha : PE X a (lE ta)) (hb : PE X b (lE tb)) : PE X (.BinOp a .Mult b pos) (lE (mBin oMul ta tb)) := me_bin (OpR.or op_mul op_rep) op2_mul ha hb

def oNeg : D → Mem → WK → Prop := fun x S Q => match x with
  | .int i => Q (.int (-i)) S
  | _ => False
abbrev mUn (o : D → Mem → WK → Prop) (a : DE) : DE := fun r S Q => a r S fun x S1 => o x S1 Q
theorem me_neg (ha : PE X a (lE ta)) : PE X (.UnaryOp .USub a pos) (lE (mUn oNeg ta)) := (pe_un un_neg ha).mi fun s H Q ⟨r, S, M, Q', R, t, k⟩ => ⟨r, S, M, _, R, t, fun d w1 v h k1 m1 r1 => by
  cases d with
  | int i => cases r1; exact ⟨i, rfl, k _ w1 _ h k1 m1 (.int _)⟩
  | _ => exact False.elim h⟩

/-! ### comparisons of ints -/
def oLt : O2 := fun x y S Q => match x, y with
  | .int i, .int j => Q (.bl (decide (i < j))) S
  | _, _ => False
def oLe : O2 := fun x y S Q => match x, y with
  | .int i, .int j => Q (.bl (decide (i ≤ j))) S
  | _, _ => False
def oGt : O2 := fun x y S Q => match x, y with
  | .int i, .int j => Q (.bl (decide (j < i))) S
  | _, _ => False
def oGe : O2 := fun x y S Q => match x, y with
  | .int i, .int j => Q (.bl (decide (j ≤ i))) S
  | _, _ => False
theorem op2_lt : Op2 (rI0 fun i j => .bl (decide (i < j))) oLt := show Op2 _ (oI fun i j => .bl (decide (i < j))) from op2_I fun _ _ _ => .bl _
theorem op2_le : Op2 (rI0 fun i j => .bl (decide (i ≤ j))) oLe := show Op2 _ (oI fun i j => .bl (decide (i ≤ j))) from op2_I fun _ _ _ => .bl _
theorem op2_gt : Op2 (rI0 fun i j => .bl (decide (j < i))) oGt := show Op2 _ (oI fun i j => .bl (decide (j < i))) from op2_I fun _ _ _ => .bl _
theorem op2_ge : Op2 (rI0 fun i j => .bl (decide (j ≤ i))) oGe := show Op2 _ (oI fun i j => .bl (decide (j ≤ i))) from op2_I fun _ _ _ => .bl _
end

/-! ### tests -/
abbrev mTst (t : DE) : DT := fun r S Q => t r S fun d S1 => match d with
  | .bl b => Q b S1
  | _ => False
theorem tst_imp {t : DE} {s : L2.St} {H : Hp} {Q : Bool → Hp → Prop} (h : lT (mTst t) s H Q) : lE t s H fun x H' => ∃ k, x = .bl k ∧ Q k H' := by
  obtain ⟨r, S, M, Q', R, h, k⟩ := h
  refine ⟨r, S, M, _, R, h, fun d w1 v q k1 m1 r1 => ?_⟩
  cases d with
  | bl b => cases r1; exact ⟨b, rfl, k b w1 q k1 m1⟩
  | _ => exact False.elim q
def oTru : D → Mem → (Bool → Prop) → Prop := fun d S Q => match d with
  | .non => Q false
  | .bl b => Q b
  | .int i => Q (i != 0)
  | .str x => x.length ≤ sizeLine ∧ Q ((x.length : Int) != 0)
  | .tup xs => Q (!xs.isEmpty)
  | .kt xs => Q (!xs.isEmpty)
  | .lst xs => Q (!xs.isEmpty)
  | .fls xs => Q (!xs.isEmpty)
  | .obj a => match S a with
    | some (.lst xs) => Q (!xs.isEmpty)
    | some (.dk kvs) => Q (!kvs.isEmpty)
    | _ => False
theorem tru_rep {K : PySem.W.Frag} {w : W} {d : D} {v : V} {Q : Bool → Prop} (m : Ok w) (h : oTru d w.S Q) (r : Rep w v d) : ∃ k, TruV K v w.H k ∧ Q k := by
  cases r with
  | non => exact ⟨false, rfl, h⟩
  | bl b => exact ⟨b, rfl, h⟩
  | int i => exact ⟨_, rfl, h⟩
  | str x => exact ⟨_, ⟨h.1, rfl⟩, h.2⟩
  | tup e n r z => exact ⟨_, .inr (.inl ⟨_, .inl (.inl e), r.isEmpty⟩), h⟩
  | kt e _ n r z => exact ⟨_, .inr (.inl ⟨_, .inl (.inr ⟨_, e⟩), r.isEmpty⟩), h⟩
  | lst e n r z => exact ⟨_, .inl ⟨_, .inl (.inl e), r.isEmpty⟩, h⟩
  | fls e n r z => exact ⟨_, .inl ⟨_, .inl (.inr ⟨_, e⟩), r.isEmpty⟩, h⟩
  | obj a =>
    unfold oTru at h
    dsimp only at h
    split at h
    · next xs e =>
      obtain ⟨vs, h1, h2, _⟩ := m.lst e
      exact ⟨_, .inl ⟨vs, .inl (.inl h1), h2.isEmpty⟩, h⟩
    · next kvs e =>
      obtain ⟨u, hu, ro⟩ := m.mem a _ (m.sub a _ e)
      cases ro with
      | dk p => exact ⟨_, .inr (.inr ⟨_, hu, by cases p <;> rfl⟩), h⟩
    · exact h.elim
abbrev mTru (t : DE) : DT := fun r S Q => t r S fun d S1 => oTru d S1 fun b => Q b S1

section
variable {X : Cx} {a b c : Expr} {ta tb tc : DE} {pos : Pos}
theorem mt_cmp {op : CmpOp} {r : R2} {o : O2} (ho : OpR X (compareOp op) r) (hh : Op2 r o) (ha : PE X a (lE ta)) (hb : PE X b (lE tb)) (hm : behindInMarks op b = false) : PT X (.Compare a [op] [b] pos) (lT (mTst (mBin o ta tb))) :=
  (pt_cmpR ho ha hb hm).mi fun s H Q h => bin_imp hh _ _ _ (tst_imp h)
theorem mt_tru (ha : PE X a (lE ta)) (he : ∀ whole, isTrue a X.env whole = (do let v ← whole; standAt a.pos; holding [v] (truthy v)) := by intro _; rfl) : PT X a (lT (mTru ta)) :=
  (pt_truth ha he).mi fun s H Q ⟨r, S, M, Q', R, t, k⟩ => ⟨r, S, M, _, R, t, fun d w1 v h k1 m1 r1 => by
    obtain ⟨b, h1, h2⟩ := tru_rep (K := X.K) m1 h r1
    exact ⟨b, h1, k b w1 h2 k1 m1⟩⟩
/-- a op1 b op2 c -/
abbrev mChain (o o' : O2) (a b c : DE) : DE := fun r S Q => a r S fun x S1 => b r S1 fun y S2 => o x y S2 fun z S3 => match z with
  | .bl true => c r S3 fun w S4 => o' y w S4 Q
  | .bl false => Q (.bl false) S3
  | _ => False
theorem chain_imp {r r' : R2} {o o' : O2} (h : Op2 r o) (h' : Op2 r' o') : ∀ s H Q, lE (mChain o o' ta tb tc) s H Q → tChain r r' (lE ta) (lE tb) (lE tc) s H Q := by
  rintro s H Q ⟨r, S, M, Q', R, t, k⟩
  refine ⟨r, S, M, _, R, t, fun x w1 v t1 k1 m1 r1 => ⟨r, w1.S, w1.M, _, R.keep k1 m1, t1, fun y w2 u t2 k2 m2 r2 => ?_⟩⟩
  refine h x y v u w2 _ _ m2 (r1.keep k2 m1) r2 t2 fun d w3 z q k3 m3 r3 => ?_
  cases d with
  | bl b =>
    cases r3
    refine ⟨b, rfl, ?_⟩
    cases b with
    | true =>
      rw [if_pos rfl]
      refine ⟨r, w3.S, w3.M, _, R.keep ((k1.trans k2).trans k3) m3, q, fun z w4 u' q4 k4 m4 r4 => ?_⟩
      exact h' y z u u' w4 Q Q' m4 ((r2.keep k3 m2).keep k4 m3) r4 q4 (Then.after k (((k1.trans k2).trans k3).trans k4))
    | false =>
      rw [if_neg Bool.false_ne_true]
      exact k _ w3 _ q ((k1.trans k2).trans k3) m3 (.bl false)
  | _ => exact False.elim q
theorem me_chain {op op' : CmpOp} {r r' : R2} {o o' : O2} (ho : OpR X (compareOp op) r) (hh : Op2 r o) (ho' : OpR X (compareOp op') r') (hh' : Op2 r' o') (ha : PE X a (lE ta)) (hb : PE X b (lE tb)) (hc : PE X c (lE tc))
    (hm : lastMarks [op, op'] [b, c] = false := by with_unfolding_all rfl) : PE X (.Compare a [op, op'] [b, c] pos) (lE (mChain o o' ta tb tc)) := (pe_chain ho ho' ha hb hc hm).mi (chain_imp hh hh')
theorem mt_chain {op op' : CmpOp} {r r' : R2} {o o' : O2} (ho : OpR X (compareOp op) r) (hh : Op2 r o) (ho' : OpR X (compareOp op') r') (hh' : Op2 r' o') (ha : PE X a (lE ta)) (hb : PE X b (lE tb)) (hc : PE X c (lE tc))
    (hm : lastMarks [op, op'] [b, c] = false := by with_unfolding_all rfl) : PT X (.Compare a [op, op'] [b, c] pos) (lT (mTst (mChain o o' ta tb tc))) := (pt_chain ho ho' ha hb hc hm).mi fun s H Q h => chain_imp hh hh' _ _ _ (tst_imp h)

variable {tA tB : DT} {rest : List Expr}
abbrev mAnd (t u : DT) : DT := fun r S Q => t r S fun b S1 => match b with
  | true => u r S1 Q
  | false => Q false S1
abbrev mOr (t u : DT) : DT := fun r S Q => t r S fun b S1 => match b with
  | true => Q true S1
  | false => u r S1 Q
abbrev mNot (t : DT) : DT := fun r S Q => t r S fun b S1 => Q (!b) S1
theorem mw_and1 (ha : PT X a (lT tA)) : PW X (.BoolOp .And [a] pos) (lT tA) := pw_and1 ha
theorem mw_or1 (ha : PT X a (lT tA)) : PW X (.BoolOp .Or [a] pos) (lT tA) := pw_or1 ha
theorem mw_and (ha : PT X a (lT tA)) (hb : PW X (.BoolOp .And (b :: rest) pos) (lT tB)) : PW X (.BoolOp .And (a :: b :: rest) pos) (lT (mAnd tA tB)) := (pw_and ha hb).mi fun s H Q ⟨r, S, M, Q', R, t, k⟩ => ⟨r, S, M, _, R, t, fun d w1 h k1 m1 => by
  cases d with
  | true => rw [if_pos rfl]; exact ⟨r, w1.S, w1.M, Q', R.keep k1 m1, h, fun b w' q kk mm => k b w' q (k1.trans kk) mm⟩
  | false => rw [if_neg Bool.false_ne_true]; exact k _ w1 h k1 m1⟩
theorem mw_or (ha : PT X a (lT tA)) (hb : PW X (.BoolOp .Or (b :: rest) pos) (lT tB)) : PW X (.BoolOp .Or (a :: b :: rest) pos) (lT (mOr tA tB)) := (pw_or ha hb).mi fun s H Q ⟨r, S, M, Q', R, t, k⟩ => ⟨r, S, M, _, R, t, fun d w1 h k1 m1 => by
  cases d with
  | true => rw [if_pos rfl]; exact k _ w1 h k1 m1
  | false => rw [if_neg Bool.false_ne_true]; exact ⟨r, w1.S, w1.M, Q', R.keep k1 m1, h, fun b w' q kk mm => k b w' q (k1.trans kk) mm⟩⟩
theorem mt_not (ha : PT X a (lT tA)) : PT X (.UnaryOp .Not a pos) (lT (mNot tA)) := (pt_not ha).mi fun s H Q ⟨r, S, M, Q', R, t, k⟩ => ⟨r, S, M, _, R, t, fun d w1 h k1 m1 => k _ w1 h k1 m1⟩
/-- as values, bools all but the last -/
abbrev mAndV (t u : DE) : DE := fun r S Q => t r S fun d S1 => match d with
  | .bl true => u r S1 Q
  | .bl false => Q (.bl false) S1
  | _ => False
abbrev mOrV (t u : DE) : DE := fun r S Q => t r S fun d S1 => match d with
  | .bl true => Q (.bl true) S1
  | .bl false => u r S1 Q
  | _ => False
abbrev mNotV (t : DE) : DE := fun r S Q => t r S fun d S1 => match d with
  | .bl b => Q (.bl (!b)) S1
  | _ => False
theorem me_one {op} {t : DE} (h : PE X a (lE t)) : PE X (.BoolOp op [a] pos) (lE t) := pe_one h
theorem me_and (ha : PE X a (lE ta)) (hb : PE X (.BoolOp .And (b :: rest) pos) (lE tb)) : PE X (.BoolOp .And (a :: b :: rest) pos) (lE (mAndV ta tb)) := (pe_and ha hb).mi fun s H Q ⟨r, S, M, Q', R, t, k⟩ => ⟨r, S, M, _, R, t, fun d w1 v h k1 m1 r1 => by
  cases d with
  | bl c =>
    cases r1
    refine ⟨c, rfl, ?_⟩
    cases c with
    | true => rw [if_pos rfl]; exact ⟨r, w1.S, w1.M, Q', R.keep k1 m1, h, Then.after k k1⟩
    | false => rw [if_neg Bool.false_ne_true]; exact k _ w1 _ h k1 m1 (.bl false)
  | _ => exact False.elim h⟩
theorem me_or (ha : PE X a (lE ta)) (hb : PE X (.BoolOp .Or (b :: rest) pos) (lE tb)) : PE X (.BoolOp .Or (a :: b :: rest) pos) (lE (mOrV ta tb)) := (pe_or ha hb).mi fun s H Q ⟨r, S, M, Q', R, t, k⟩ => ⟨r, S, M, _, R, t, fun d w1 v h k1 m1 r1 => by
  cases d with
  | bl c =>
    cases r1
    refine ⟨c, rfl, ?_⟩
    cases c with
    | false => rw [if_neg Bool.false_ne_true]; exact ⟨r, w1.S, w1.M, Q', R.keep k1 m1, h, Then.after k k1⟩
    | true => rw [if_pos rfl]; exact k _ w1 _ h k1 m1 (.bl true)
  | _ => exact False.elim h⟩
theorem me_not (ha : PE X a (lE ta)) : PE X (.UnaryOp .Not a pos) (lE (mNotV ta)) := (pe_not ha).mi fun s H Q ⟨r, S, M, Q', R, t, k⟩ => ⟨r, S, M, _, R, t, fun d w1 v h k1 m1 r1 => by
  cases d with
  | bl c => cases r1; exact ⟨c, rfl, k _ w1 _ h k1 m1 (.bl _)⟩
  | _ => exact False.elim h⟩
abbrev mIfE (t : DT) (a b : DE) : DE := fun r S Q => t r S fun c S1 => match c with
  | true => a r S1 Q
  | false => b r S1 Q
theorem me_if {c : Expr} (hc : PT X c (lT tA)) (ha : PE X a (lE ta)) (hb : PE X b (lE tb)) : PE X (.IfExp c a b pos) (lE (mIfE tA ta tb)) := (pe_ifExp hc ha hb).mi fun s H Q ⟨r, S, M, Q', R, t, k⟩ => ⟨r, S, M, _, R, t, fun d w1 h k1 m1 => by
  cases d with
  | true => rw [if_pos rfl]; exact ⟨r, w1.S, w1.M, Q', R.keep k1 m1, h, Then.after k k1⟩
  | false => rw [if_neg Bool.false_ne_true]; exact ⟨r, w1.S, w1.M, Q', R.keep k1 m1, h, Then.after k k1⟩⟩

/-! ### arguments, displays -/
abbrev mNil : DA := fun _ S Q => Q [] S
abbrev mCons (a : DE) (t : DA) : DA := fun r S Q => a r S fun d S1 => t r S1 fun ds S2 => Q (d :: ds) S2
theorem ma_nil : PA X [] (lA mNil) := pa_nil.mi fun s H Q ⟨r, S, M, Q', R, t, k⟩ => k [] ⟨S, M, H⟩ [] t .refl R.ok .nil
theorem ma_cons {e : Expr} {es : List Expr} {te : DE} {t : DA} (ha : PE X e (lE te)) (hr : PA X es (lA t)) (hs : starEach (e :: es) X.env = (false, eval e X.env) :: starEach es X.env := by rfl) : PA X (e :: es) (lA (mCons te t)) :=
  (pa_cons ha hr hs).mi fun s H Q ⟨r, S, M, Q', R, t, k⟩ => ⟨r, S, M, _, R, t, fun d w1 v h k1 m1 r1 => ⟨r, w1.S, w1.M, _, R.keep k1 m1, h, fun ds w2 vs q k2 m2 r2 => k _ w2 _ q (k1.trans k2) m2 (.cons (r1.keep k2 m1) r2)⟩⟩
abbrev mTup (t : DA) : DE := fun r S Q => t r S fun ds S1 => match Nat.ble ds.length 1000 with
  | true => Q (.tup ds) S1
  | false => False
abbrev mLst (t : DA) : DE := fun r S Q => t r S fun ds S1 => match Nat.ble ds.length 1000 with
  | true => Q (.lst ds) S1
  | false => False
/-- a list that will change -/
abbrev mLstO (t : DA) : DE := fun r S Q => t r S fun ds S1 => match Nat.ble ds.length 1000 with
  | true => ∀ p, S1 p = none → Q (.obj p) (up S1 p (.lst ds))
  | false => False
theorem ble_line {n : Nat} (h : Nat.ble n 1000 = true) : n ≤ sizeLine := Nat.le_of_lt (small1000 (Nat.le_of_ble_eq_true h))
theorem me_tup {es : List Expr} {t : DA} {x1} (h : PA X es (lA t)) : PE X (.Tuple es x1 pos) (lE (mTup t)) := (pe_tup h).mi fun s H Q ⟨r, S, M, Q', R, t, k⟩ => ⟨r, S, M, _, R, t, fun ds w1 vs h k1 m1 r1 => by
  split at h
  · next e =>
    refine ⟨by rw [r1.length]; exact ble_line e, fun p hp => ?_⟩
    exact k _ ⟨w1.S, w1.M, _⟩ _ h (k1.trans (.new hp)) (m1.new hp) (.tup upd_same (m1.free hp) (r1.keep (.new hp) m1) (ble_line e))
  · exact h.elim⟩
theorem me_lst {es : List Expr} {t : DA} (h : PA X es (lA t)) : PE X (.List es pos) (lE (mLst t)) := (pe_lst h).mi fun s H Q ⟨r, S, M, Q', R, t, k⟩ => ⟨r, S, M, _, R, t, fun ds w1 vs h k1 m1 r1 => by
  split at h
  · next e =>
    refine ⟨by rw [r1.length]; exact ble_line e, fun p hp => ?_⟩
    exact k _ ⟨w1.S, w1.M, _⟩ _ h (k1.trans (.new hp)) (m1.new hp) (.lst upd_same (m1.free hp) (r1.keep (.new hp) m1) (ble_line e))
  · exact h.elim⟩
theorem me_lstO {es : List Expr} {t : DA} (h : PA X es (lA t)) : PE X (.List es pos) (lE (mLstO t)) := (pe_lst h).mi fun s H Q ⟨r, S, M, Q', R, t, k⟩ => ⟨r, S, M, _, R, t, fun ds w1 vs h k1 m1 r1 => by
  split at h
  · next e =>
    refine ⟨by rw [r1.length]; exact ble_line e, fun p hp => ?_⟩
    exact k _ ⟨up w1.S p (.lst ds), up w1.M p (.lst ds), _⟩ _ (h p (m1.freeS hp)) (k1.trans (.alloc hp)) (m1.alloc hp (.lst r1 (ble_line e))) (.obj p)
  · exact h.elim⟩

/-! ### calls of built-ins -/
abbrev OA := List D → Mem → WK → Prop
def OpA (r : List V → Hp → VK → Prop) (o : OA) : Prop := ∀ (ds : List D) (vs : List V) (w : W) (Q : VK) (Q' : WK), Ok w → Reps w vs ds → o ds w.S Q' → Then w Q' Q → r vs w.H Q
abbrev mCall (o : OA) (t : DA) : DE := fun r S Q => t r S fun ds S1 => o ds S1 Q
theorem call_imp {r : List V → Hp → VK → Prop} {o : OA} {t : DA} (h : OpA r o) : ∀ s H Q, lE (mCall o t) s H Q → tCB r (lA t) s H Q := fun s H Q ⟨r, S, M, Q', R, t, k⟩ => ⟨r, S, M, _, R, t, fun ds w1 vs q k1 m1 r1 =>
  h ds vs w1 Q Q' m1 r1 q (Then.after k k1)⟩
theorem me_callB {x : Str} {p : Pos} {e : Expr} {es : List Expr} {t : DA} {id : String} {r : List V → Hp → VK → Prop} {o : OA} (hc : CallR X (.builtin id) r) (hh : OpA r o) (hm : X.mg x = none) (ha : PA X (e :: es) (lA t)) (hv : bootBuiltins x = some (.builtin id)) (hg : Gl X x := by rfl)
    (hn : x ≠ "__name__" := by decide) (hdb : (x == ("__debug__" : Str)) = false := by decide)
    (he : starEach (e :: es) X.env = (false, eval e X.env) :: starEach es X.env := by rfl) (hpl : (backTo pos (starEach es X.env)).any (·.1) = false := by rfl) : PE X (.Call (.Name x p) (e :: es) [] pos) (lE (mCall o t)) :=
  (pe_callB hc hg hm hv ha hn hdb he hpl).mi (call_imp hh)
theorem me_callTy {x : Str} {p : Pos} {e : Expr} {es : List Expr} {t : DA} {T : String} {r : List V → Hp → VK → Prop} {o : OA} (hc : CallR X (.type T) r) (hh : OpA r o) (hm : X.mg x = none) (ha : PA X (e :: es) (lA t)) (hv : bootBuiltins x = some (.type T)) (hg : Gl X x := by rfl)
    (hn : x ≠ "__name__" := by decide) (hdb : (x == ("__debug__" : Str)) = false := by decide)
    (he : starEach (e :: es) X.env = (false, eval e X.env) :: starEach es X.env := by rfl) (hpl : (backTo pos (starEach es X.env)).any (·.1) = false := by rfl) : PE X (.Call (.Name x p) (e :: es) [] pos) (lE (mCall o t)) :=
  (pe_callTy hc hg hm hv ha hn hdb he hpl).mi (call_imp hh)
theorem reps1 {w : W} {vs : List V} {d : D} (r : Reps w vs [d]) : ∃ v, vs = [v] ∧ Rep w v d := by
  cases r with
  | cons a b => cases b; exact ⟨_, rfl, a⟩
theorem reps2 {w : W} {vs : List V} {d e : D} (r : Reps w vs [d, e]) : ∃ v u, vs = [v, u] ∧ Rep w v d ∧ Rep w u e := by
  cases r with
  | cons a b =>
    obtain ⟨u, rfl, q⟩ := reps1 b
    exact ⟨_, _, rfl, a, q⟩
end
end ML

set_option maxRecDepth 100000
/-! ML3: statements, targets, loops, comprehensions, calls of defs. -/
namespace ML
open PySem PySem.Spec PyProof.Rows L2

/-! ### blocks -/
abbrev mNx : DS := fun D r S => D.nx r S
abbrev mSeq (t u : DS) : DS := fun D r S => t { D with nx := u D } r S
section
variable {Wn : NX} {X : Cx} {st : Stmt} {rest : List Stmt} {t u : DS} {e : Expr} {te : DE} {pos : Pos}
theorem mss_nil : PSs X [] (lSx Wn mNx) := pss_nil.mi fun D s H ⟨r, S, M, D', R, h, f⟩ => f.nx r ⟨S, M, H⟩ s h R .refl
theorem mss_cons (h1 : PS X st (lSx Wn t)) (h2 : PSs X rest (lSx Wn u)) : PSs X (st :: rest) (lSx Wn (mSeq t u)) := (pss_cons h1 h2).mi fun D s H ⟨r, S, M, D', R, h, f⟩ =>
  ⟨r, S, M, { D' with nx := u D' }, R, h, ⟨fun r' w' s' q R' k => ⟨r', w'.S, w'.M, D', R', q, f.after k⟩, f.rt, f.bk, f.ct, f.xc⟩⟩
theorem mss_one (h1 : PS X st (lSx Wn t)) : PSs X [st] (lSx Wn t) := pss_one h1
theorem ms_pass : PS X (.Pass pos) (lSx Wn mNx) := ps_pass.mi fun D s H ⟨r, S, M, D', R, h, f⟩ => f.nx r ⟨S, M, H⟩ s h R .refl
abbrev mCt : DS := fun D r S => D.ct r S
abbrev mBk : DS := fun D r S => D.bk r S
theorem ms_continue : PS X (.Continue pos) (lSx Wn mCt) := ps_continue.mi fun D s H ⟨r, S, M, D', R, h, f⟩ => f.ct r ⟨S, M, H⟩ s h R .refl
theorem ms_break : PS X (.Break pos) (lSx Wn mBk) := ps_break.mi fun D s H ⟨r, S, M, D', R, h, f⟩ => f.bk r ⟨S, M, H⟩ s h R .refl
abbrev mDrop (te : DE) : DS := fun D r S => te r S fun _ S1 => D.nx r S1
theorem ms_expr (he : PE X e (lE te)) (hs : swapsWith e none pos.line X.env = pure false := by rfl) : PS X (.Expr e pos) (lSx Wn (mDrop te)) := (ps_expr he hs).mi fun D s H ⟨r, S, M, D', R, h, f⟩ =>
  ⟨r, S, M, _, R, h, fun d w1 v q k m _ => f.nx r w1 s q (R.keep k m) k⟩
abbrev mRet (te : DE) : DS := fun D r S => te r S D.rt
theorem ms_ret (he : PE X e (lE te)) : PS X (.Return (some e) pos) (lSx Wn (mRet te)) := (ps_ret he).mi fun D s H ⟨r, S, M, D', R, h, f⟩ => ⟨r, S, M, _, R, h, fun d w1 v q k m rr => f.rt d w1 v q k m rr⟩
abbrev mRetN : DS := fun D _ S => D.rt .non S
theorem ms_retN : PS X (.Return none pos) (lSx Wn mRetN) := ps_retN.mi fun D s H ⟨r, S, M, D', R, h, f⟩ => f.rt .non ⟨S, M, H⟩ .non h .refl R.ok .non
abbrev mIfS (c : DT) (t u : DS) : DS := fun D r S => c r S fun b S1 => match b with
  | true => t D r S1
  | false => u D r S1
theorem ms_if {c : Expr} {a b : List Stmt} {tc : DT} (hc : PT X c (lT tc)) (ha : PSs X a (lSx Wn t)) (hb : PSs X b (lSx Wn u)) : PS X (.If c a b pos) (lSx Wn (mIfS tc t u)) := (ps_if hc ha hb).mi fun D s H ⟨r, S, M, D', R, h, f⟩ =>
  ⟨r, S, M, _, R, h, fun b w1 q k m => by
    cases b with
    | true => rw [if_pos rfl]; exact ⟨r, w1.S, w1.M, D', R.keep k m, q, f.after k⟩
    | false => rw [if_neg Bool.false_ne_true]; exact ⟨r, w1.S, w1.M, D', R.keep k m, q, f.after k⟩⟩
end

/-! ### targets -/
abbrev DG := D → En → Mem → (En → Mem → Prop) → Prop
abbrev DGs := List D → En → Mem → (En → Mem → Prop) → Prop
/-- all slots but those of vs are as they were -/
def But (vs : List Nat) (s s' : L2.St) : Prop := s'.length = s.length ∧ ∀ i, i ∉ vs → s'[i]? = s[i]?
theorem But.trans {vs : List Nat} {s s1 s2 : L2.St} (a : But vs s s1) (b : But vs s1 s2) : But vs s s2 := ⟨b.1.trans a.1, fun i h => (b.2 i h).trans (a.2 i h)⟩
theorem But.mono {vs ws : List Nat} {s s1 : L2.St} (a : But vs s s1) (h : ∀ i ∈ vs, i ∈ ws) : But ws s s1 := ⟨a.1, fun i hi => a.2 i fun z => hi (h i z)⟩
def lG (vs : List Nat) (g : DG) : TG := fun v s H Q => ∃ d r S M Q', Rel r ⟨S, M, H⟩ s ∧ Rep ⟨S, M, H⟩ v d ∧ g d r S Q' ∧ ∀ r' (w' : W) s', Q' r' w'.S → Rel r' w' s' → Step ⟨S, M, H⟩ w' → But vs s s' → Q s' w'.H
def lGs (vs : List Nat) (g : DGs) : TGs := fun ws s H Q => ∃ ds r S M Q', Rel r ⟨S, M, H⟩ s ∧ Reps ⟨S, M, H⟩ ws ds ∧ g ds r S Q' ∧ ∀ r' (w' : W) s', Q' r' w'.S → Rel r' w' s' → Step ⟨S, M, H⟩ w' → But vs s s' → Q s' w'.H
section
variable {Wn : NX} {X : Cx} {pos : Pos}
theorem _root_.L2.PG.mi {tg : Expr} {t t' : TG} (h : PG X tg t) (i : ∀ v s H Q, t' v s H Q → t v s H Q) : PG X tg t' := ⟨fun pins s σ H v u Q I r hw => h.run pins s σ H v u Q I r (i v σ H Q hw)⟩
theorem _root_.L2.PGs.mi {ts : List Expr} {t t' : TGs} (h : PGs X ts t) (i : ∀ v s H Q, t' v s H Q → t v s H Q) : PGs X ts t' := ⟨fun pins s σ H v u Q I r hw => h.run pins s σ H v u Q I r (i v σ H Q hw)⟩
abbrev bName (i : Nat) : DG := fun d r S Q => Q (r.set i (some d)) S
theorem mg_name {i : Nat} {x : Str} (hN : X.N.Nodup) (hi : X.N[i]? = some x) (hx : Loc X.env.scope x) (hf : X.fn x = true ∨ X.env.scope.names.lookup x = some .local := by first | exact .inl rfl | exact .inr rfl | assumption) : PG X (.Name x pos) (lG [i] (bName i)) :=
  (pg_name hN hi hx hf).mi fun v s H Q ⟨d, r, S, M, Q', R, rp, h, k⟩ => k _ ⟨S, M, H⟩ _ h (R.set rp) .refl ⟨by rw [List.length_set], fun j hj => by rw [List.getElem?_set_ne (fun e => hj (by simp [e]))]⟩
abbrev bNil : DGs := fun ds r S Q => match ds with
  | [] => Q r S
  | _ => False
abbrev bCons (g : DG) (gs : DGs) : DGs := fun ds r S Q => match ds with
  | d :: ds => g d r S fun r1 S1 => gs ds r1 S1 Q
  | [] => False
theorem mgs_nil : PGs X [] (lGs [] bNil) := pgs_nil.mi fun vs s H Q ⟨ds, r, S, M, Q', R, rp, h, k⟩ => by
  cases ds with
  | nil => cases rp; exact ⟨rfl, k r ⟨S, M, H⟩ s h R .refl ⟨rfl, fun _ _ => rfl⟩⟩
  | cons => exact h.elim
theorem mgs_cons {e : Expr} {es : List Expr} {g : DG} {gs : DGs} {is js : List Nat} (h1 : PG X e (lG is g)) (h2 : PGs X es (lGs js gs))
    (hs : (assignEach (e :: es) X.env).map (·.2) = assign e X.env :: (assignEach es X.env).map (·.2) := by rfl) : PGs X (e :: es) (lGs (is ++ js) (bCons g gs)) := (pgs_cons h1 h2 hs).mi fun vs s H Q ⟨ds, r, S, M, Q', R, rp, h, k⟩ => by
  cases ds with
  | nil => exact h.elim
  | cons d ds =>
    cases rp with
    | cons r1 r2 =>
      refine ⟨_, _, rfl, d, r, S, M, _, R, r1, h, fun r' w' s' q R' kk bt => ⟨ds, r', w'.S, w'.M, Q', R', r2.keep kk R.ok, q, fun r2 w2 s2 q2 R2 k2 b2 => ?_⟩⟩
      exact k r2 w2 s2 q2 R2 (kk.trans k2) ((bt.mono fun i hi => List.mem_append_left _ hi).trans (b2.mono fun i hi => List.mem_append_right _ hi))
/-- (a, b, ..) = a tuple -/
abbrev bTup (n : Nat) (gs : DGs) : DG := fun d r S Q => match asT d with
  | some ds => match Nat.beq ds.length n with
    | true => gs ds r S Q
    | false => False
  | none => False
theorem mg_tup {es : List Expr} {k : Nat} {gs : DGs} {is : List Nat} {n : Nat} (hc : X.calm = true) (h : PGs X es (lGs is gs)) (hn : (assignEach es X.env).length = n := by rfl) (hst : (assignEach es X.env).findIdx? (·.1) = none := by rfl) :
    PG X (.Tuple es k pos) (lG is (bTup n gs)) := (pg_tup hc h hn hst).mi fun v s H Q ⟨d, r, S, M, Q', R, rp, h, kk⟩ => by
  unfold bTup at h
  split at h
  · next ds e =>
    split at h
    · next e2 =>
      obtain ⟨a, vs, rfl, h1, h2, _, _⟩ := asT_rep (K := X.K) e rp
      exact ⟨a, vs, rfl, h1, by rw [h2.length]; exact Nat.eq_of_beq_eq_true e2, ds, r, S, M, Q', R, h2, h, kk⟩
    · exact h.elim
  · exact h.elim
/-- target = value -/
abbrev mAsg (te : DE) (g : DG) : DS := fun D r S => te r S fun d S1 => g d r S1 D.nx
theorem ms_asg {tg e : Expr} {te : DE} {g : DG} {is : List Nat} (he : PE X e (lE te)) (hg : PG X tg (lG is g)) (hs : swapsWithSole [tg] e pos.line X.env = pure false := by rfl) (hw : swappedStores [tg] e X.env = pure none := by rfl)
    (h1 : (assignEach [tg] X.env).map (·.2) = [assign tg X.env] := by rfl) : PS X (.Assign [tg] e pos) (lSx Wn (mAsg te g)) := (ps_asg he hg hs hw h1).mi fun D s H ⟨r, S, M, D', R, h, f⟩ =>
  ⟨r, S, M, _, R, h, fun d w1 v q k m rr => ⟨d, r, w1.S, w1.M, D'.nx, R.keep k m, rr, q, fun r' w' s' qq R' kk _ => f.nx r' w' s' qq R' (k.trans kk)⟩⟩
/-- name = value -/
abbrev mSet (i : Nat) (te : DE) : DS := fun D r S => te r S fun d S1 => D.nx (r.set i (some d)) S1
theorem ms_set {i : Nat} {x : Str} {e : Expr} {te : DE} {pos' : Pos} (hN : X.N.Nodup) (hi : X.N[i]? = some x) (hx : Loc X.env.scope x) (he : PE X e (lE te)) (hs : swapsWith e (some (.Name x pos')) pos.line X.env = pure false := by rfl) (hf : X.fn x = true ∨ X.env.scope.names.lookup x = some .local := by first | exact .inl rfl | exact .inr rfl | assumption) :
    PS X (.Assign [.Name x pos'] e pos) (lSx Wn (mSet i te)) := (ps_set hN hi hx he hs hf).mi fun D s H ⟨r, S, M, D', R, h, f⟩ => ⟨r, S, M, _, R, h, fun d w1 v q k m rr => f.nx _ w1 _ q ((R.keep k m).set rr) k⟩
/-- a, b = x, y -/
abbrev mPar (i j : Nat) (ta : DA) : DS := fun D r S => ta r S fun ds S1 => match ds with
  | [d, e] => D.nx ((r.set i (some d)).set j (some e)) S1
  | _ => False
theorem ms_par {i j : Nat} {x y : Str} {a b : Expr} {ta : DA} {px py pt : Pos} {kt k2 pt2} (hc : X.calm = true) (hN : X.N.Nodup) (hi : X.N[i]? = some x) (hj : X.N[j]? = some y) (hij : i ≠ j)
    (hx : X.env.scope.names.lookup x = some .local) (hy : X.env.scope.names.lookup y = some .local) (ha : PA X [a, b] (lA ta))
    (hw : swappedStores [.Tuple [.Name x px, .Name y py] kt pt] (.Tuple [a, b] k2 pt2) X.env = pure (some [x, y]) := by rfl)
    (hs : swapsWithSole [.Tuple [.Name x px, .Name y py] kt pt] (.Tuple [a, b] k2 pt2) pos.line X.env = pure false := by rfl) :
    PS X (.Assign [.Tuple [.Name x px, .Name y py] kt pt] (.Tuple [a, b] k2 pt2) pos) (lSx Wn (mPar i j ta)) := (ps_par hc hN hi hj hij hx hy ha hw hs).mi fun D s H ⟨r, S, M, D', R, h, f⟩ =>
  ⟨r, S, M, _, R, h, fun ds w1 vs q k m rr => by
    split at q
    · next d e =>
      obtain ⟨v, u, rfl, r1, r2⟩ := reps2 rr
      exact ⟨v, u, rfl, f.nx _ w1 _ q (((R.keep k m).set r1).set r2) k⟩
    · exact q.elim⟩
end

/-! ### what is walked -/
abbrev CK := Option (Addr × MO)
def wck (ck : CK) (S : Mem) (P : Prop) : Prop := match ck with
  | none => P
  | some (a, m) => S a = some m ∧ P
def ckOk (ck : CK) (S : Mem) : Prop := match ck with
  | none => True
  | some (a, m) => S a = some m
theorem wck_iff {ck : CK} {S : Mem} {P : Prop} (h : wck ck S P) : ckOk ck S ∧ P := by
  cases ck with
  | none => exact ⟨trivial, h⟩
  | some p => exact h
structure Wk (J : It) (ds : List D) (ck : CK) (w0 : W) : Prop where
  go : ∀ i (w : W) d, Keeps w0 w → Ok w → ckOk ck w.S → ds[i]? = some d → J.go i w.H ∧ ∀ x H', J.yld i w.H x H' → Step w ⟨w.S, w.M, H'⟩ ∧ Ok ⟨w.S, w.M, H'⟩ ∧ Rep ⟨w.S, w.M, H'⟩ x d
  stop : ∀ i (w : W), Keeps w0 w → Ok w → ckOk ck w.S → ds.length ≤ i → J.stop i w.H
  len : ds.length ≤ sizeLine
abbrev DI := En → Mem → (List D → CK → Mem → Prop) → Prop
def lI (i : DI) : TI := fun s H R => ∃ r S M R', Rel r ⟨S, M, H⟩ s ∧ i r S R' ∧ ∀ ds ck (w' : W) J, R' ds ck w'.S → Step ⟨S, M, H⟩ w' → Ok w' → Wk J ds ck w' → R J w'.H

def forL0 (ck : CK) (b : DG) (body : DS) (N : Nd) : List D → En → Mem → Prop
  | [], r, S => wck ck S (N.nx r S)
  | d :: ds, r, S => wck ck S (b d r S fun r1 S1 => body { N with nx := forL0 ck b body N ds, ct := forL0 ck b body N ds, bk := N.nx } r1 S1)
@[irreducible] def forL (ck : CK) (b : DG) (body : DS) (N : Nd) (ds : List D) : En → Mem → Prop := forL0 ck b body N ds
theorem forL_is (ck : CK) (b : DG) (body : DS) (N : Nd) (ds : List D) : forL ck b body N ds = forL0 ck b body N ds := by unfold forL; rfl
theorem forL_nil {ck : CK} {b : DG} {body : DS} {N : Nd} {r : En} {S : Mem} : forL ck b body N [] r S = wck ck S (N.nx r S) := by rw [forL_is]; rfl
theorem forL_cons {ck : CK} {b : DG} {body : DS} {N : Nd} {d : D} {ds : List D} {r : En} {S : Mem} :
    forL ck b body N (d :: ds) r S = wck ck S (b d r S fun r1 S1 => body { N with nx := forL ck b body N ds, ct := forL ck b body N ds, bk := N.nx } r1 S1) := by rw [forL_is, forL_is]; rfl
abbrev mFor (i : DI) (b : DG) (body : DS) : DS := fun N r S => i r S fun ds ck S1 => forL ck b body N ds r S1
def wipeD (r : En) : List Nat → En
  | [] => r
  | v :: vs => (wipeD r vs).set v none
def lcL0 (ck : CK) (vs : List Nat) (b : DG) (t : DT) (e : DE) (r : En) (Q : WK) : List D → List D → Mem → Prop
  | [], acc, S => wck ck S (Q (.lst acc) S)
  | d :: ds, acc, S => wck ck S (b d (wipeD r vs) S fun r1 S1 => t r1 S1 fun c S2 => match c with
      | true => e r1 S2 fun y S3 => lcL0 ck vs b t e r Q ds (acc ++ [y]) S3
      | false => lcL0 ck vs b t e r Q ds acc S2)
@[irreducible] def lcL (ck : CK) (vs : List Nat) (b : DG) (t : DT) (e : DE) (r : En) (Q : WK) (ds acc : List D) : Mem → Prop := lcL0 ck vs b t e r Q ds acc
theorem lcL_is (ck : CK) (vs : List Nat) (b : DG) (t : DT) (e : DE) (r : En) (Q : WK) (ds acc : List D) : lcL ck vs b t e r Q ds acc = lcL0 ck vs b t e r Q ds acc := by unfold lcL; rfl
theorem lcL_nil {ck : CK} {vs : List Nat} {b : DG} {t : DT} {e : DE} {r : En} {Q : WK} {acc : List D} {S : Mem} : lcL ck vs b t e r Q [] acc S = wck ck S (Q (.lst acc) S) := by rw [lcL_is]; rfl
theorem lcL_cons {ck : CK} {vs : List Nat} {b : DG} {t : DT} {e : DE} {r : En} {Q : WK} {d : D} {ds acc : List D} {S : Mem} :
    lcL ck vs b t e r Q (d :: ds) acc S = wck ck S (b d (wipeD r vs) S fun r1 S1 => t r1 S1 fun c S2 => match c with
      | true => e r1 S2 fun y S3 => lcL ck vs b t e r Q ds (acc ++ [y]) S3
      | false => lcL ck vs b t e r Q ds acc S2) := by simp only [lcL_is]; rfl
abbrev mLc (i : DI) (vs : List Nat) (b : DG) (t : DT) (e : DE) : DE := fun r S Q => i r S fun ds ck S1 => lcL ck vs b t e r Q ds [] S1
theorem drop_cons {α : Type} {ds : List α} {i : Nat} {d : α} (h : ds[i]? = some d) : ds.drop i = d :: ds.drop (i + 1) := by
  obtain ⟨hi, e⟩ := List.getElem?_eq_some_iff.mp h
  rw [List.drop_eq_getElem_cons hi, e]
theorem wipeD_length (r : En) : ∀ vs : List Nat, (wipeD r vs).length = r.length
  | [] => rfl
  | v :: vs => by unfold wipeD; rw [List.length_set, wipeD_length r vs]
theorem set_none_get {α : Type} {l : List (Option α)} {v i : Nat} {d : α} (h : (l.set v none)[i]? = some (some d)) : i ≠ v ∧ l[i]? = some (some d) := by
  by_cases e : i = v
  · subst e
    by_cases hl : i < l.length
    · rw [List.getElem?_set_self hl] at h; cases h
    · rw [List.getElem?_eq_none (by rw [List.length_set]; omega)] at h; cases h
  · exact ⟨e, by rw [List.getElem?_set_ne (Ne.symm e)] at h; exact h⟩
theorem rel_wipe {r : En} {w : W} {s : L2.St} (R : Rel r w s) : ∀ vs : List Nat, Rel (wipeD r vs) w (wipe s vs)
  | [] => R
  | v :: vs => by
    have ih := rel_wipe R vs
    refine ⟨R.ok, ?_, fun i d h => ?_⟩
    · rw [wipeD_length, wipe_length]; exact R.len
    · obtain ⟨ne, h⟩ := set_none_get (l := wipeD r vs) h
      obtain ⟨u, h1, h2⟩ := ih.slot i d h
      exact ⟨u, by unfold wipe; rw [List.getElem?_set_ne (Ne.symm ne)]; exact h1, h2⟩
theorem wipe_get (s : L2.St) : ∀ (vs : List Nat) (i : Nat), (wipe s vs)[i]? = if i ∈ vs ∧ i < s.length then some none else s[i]?
  | [], i => by simp [wipe]
  | v :: vs, i => by
    unfold wipe
    by_cases e : i = v
    · subst e
      by_cases hl : i < s.length
      · rw [List.getElem?_set_self (by rw [wipe_length]; exact hl), if_pos ⟨by simp, hl⟩]
      · rw [List.getElem?_eq_none (by rw [List.length_set, wipe_length]; omega), if_neg (fun z => hl z.2), List.getElem?_eq_none (by omega)]
    · rw [List.getElem?_set_ne (Ne.symm e), wipe_get s vs i]
      simp [e]
theorem wipe_but {vs : List Nat} {s s' : L2.St} (b : But vs (wipe s vs) s') : wipe s' vs = wipe s vs := by
  have hl : s'.length = s.length := by rw [b.1, wipe_length]
  apply List.ext_getElem?
  intro i
  rw [wipe_get s' vs i, wipe_get s vs i, hl]
  by_cases h : i ∈ vs ∧ i < s.length
  · rw [if_pos h, if_pos h]
  · rw [if_neg h, if_neg h]
    by_cases hv : i ∈ vs
    · have : ¬ i < s.length := fun z => h ⟨hv, z⟩
      rw [List.getElem?_eq_none (by omega), List.getElem?_eq_none (by omega)]
    · rw [b.2 i hv, wipe_get s vs i, if_neg h]

section
variable {Wn : NX} {X : Cx} {tg : Expr}
theorem _root_.L2.PI.mi {iter : Expr} {t t' : TI} (h : PI X tg iter t) (i : ∀ s H R, t' s H R → t s H R) : PI X tg iter t' := ⟨fun pins s σ H R I hw => h.run pins s σ H R I (i σ H R hw)⟩
theorem ms_for {iter : Expr} {body : List Stmt} {i : DI} {g : DG} {is : List Nat} {tb : DS} {pos : Pos} (hp : PassesOwn (model X.prog X.w) X.A X.env X.xe) (hc : X.calm = true) (hi : PI X tg iter (lI i)) (hg : PG X tg (lG is g)) (hb : PSs X body (lSx Wn tb))
    (hs : ∀ x, foldedSetIterable iter X.env x = pure x := by intro _; rfl) : PS X (.For tg iter body [] pos) (lSx Wn (mFor i g tb)) := (ps_for hp hc hi hg hb hs).mi fun D s H ⟨r, S, M, D', R, h, f⟩ =>
  ⟨r, S, M, _, R, h, fun ds ck w1 J q k1 m1 wk => by
    refine ⟨fun i m s2 H2 => ∃ r2 S2 M2, m = ds.length - i ∧ i ≤ ds.length ∧ Rel r2 ⟨S2, M2, H2⟩ s2 ∧ Step w1 ⟨S2, M2, H2⟩ ∧ forL ck g tb D' (ds.drop i) r2 S2, ⟨ds.length, r, w1.S, w1.M, by omega, by omega, R.keep k1 m1, .refl, q⟩, ?_⟩
    rintro i m s2 H2 ⟨r2, S2, M2, rfl, hi, R2, k2, q2⟩
    cases e : ds[i]? with
    | none =>
      have hl : ds.length ≤ i := List.getElem?_eq_none_iff.mp e
      rw [List.drop_eq_nil_of_le hl, forL_nil] at q2
      obtain ⟨c, q3⟩ := wck_iff q2
      exact .inl ⟨wk.stop i ⟨S2, M2, H2⟩ (k2.keeps m1) R2.ok c hl, f.nx r2 ⟨S2, M2, H2⟩ s2 q3 R2 (k1.trans k2)⟩
    | some d =>
      have hl : i < ds.length := (List.getElem?_eq_some_iff.mp e).1
      rw [drop_cons e, forL_cons] at q2
      obtain ⟨c, q3⟩ := wck_iff q2
      obtain ⟨go, yld⟩ := wk.go i ⟨S2, M2, H2⟩ d (k2.keeps m1) R2.ok c e
      refine .inr ⟨go, fun s3 H3 => ∃ r3 S3 M3, Rel r3 ⟨S3, M3, H3⟩ s3 ∧ Step w1 ⟨S3, M3, H3⟩ ∧ forL ck g tb D' (ds.drop (i + 1)) r3 S3, fun s3 H3 ⟨r3, S3, M3, R3, k3, q4⟩ => ⟨_, by omega, r3, S3, M3, rfl, hl, R3, k3, q4⟩, fun x H' hy => ?_⟩
      obtain ⟨ky, my, ry⟩ := yld x H' hy
      refine ⟨d, r2, S2, M2, _, R2.keep ky my, ry, q3, fun r3 w3 s3 q4 R3 k3 _ => ⟨r3, w3.S, w3.M, _, R3, q4, ?_⟩⟩
      have kk : Step w1 w3 := k2.trans (ky.trans k3)
      exact ⟨fun r' w' s' a b c => ⟨r', w'.S, w'.M, b, kk.trans c, a⟩, fun d w' v a b c e => f.rt d w' v a ((k1.trans kk).trans b) c e, fun r' w' s' a b c => f.nx r' w' s' a b ((k1.trans kk).trans c), fun r' w' s' a b c => ⟨r', w'.S, w'.M, b, kk.trans c, a⟩, fun x r' w' s' a b c => f.xc x r' w' s' a b ((k1.trans kk).trans c)⟩⟩

/-- the reading of a comprehension -/
theorem lc_imp {i : DI} {g : DG} {is vs : List Nat} {tt : DT} {te : DE} (hiv : ∀ i ∈ is, i ∈ vs) : ∀ s H Q, lE (mLc i vs g tt te) s H Q → tLc (lI i) (lG is g) (lT tt) (lE te) vs s H Q := by
  rintro s H Q ⟨r, S, M, Q', R, h, k⟩
  refine ⟨r, S, M, _, R, h, fun ds ck w1 J q k1 m1 wk => ?_⟩
  intro L hL
  have k0 : Step w1 ⟨w1.S, up w1.M L .hid, upd w1.H L (.lst [])⟩ := Step.allocM hL
  have m0 : Ok ⟨w1.S, up w1.M L .hid, upd w1.H L (.lst [])⟩ := by
    refine ⟨fun a o ha => ?_, fun a o ha => ?_⟩
    · have ne : a ≠ L := fun z => by subst z; rw [m1.freeS hL] at ha; cases ha
      exact (up_ne ne).trans (m1.sub a o ha)
    · by_cases e : a = L
      · subst e
        have e2 : MO.hid = o := Option.some.inj (up_same.symm.trans ha)
        subst e2
        exact ⟨_, upd_same, .hid⟩
      · obtain ⟨u, hu, ro⟩ := m1.mem a o ((up_ne e).symm.trans ha)
        exact ⟨u, by show upd _ _ _ a = _; rw [upd_ne e]; exact hu, ro.keep k0 m1⟩
  refine ⟨fun i m H2 => ∃ acc accV S2 M2, m = ds.length - i ∧ i ≤ ds.length ∧ Ok ⟨S2, M2, H2⟩ ∧ H2 L = some (.lst accV) ∧ M2 L = some .hid ∧ S2 L = none ∧ Reps ⟨S2, M2, H2⟩ accV acc ∧ acc.length ≤ i ∧ Step w1 ⟨S2, M2, H2⟩ ∧ lcL ck vs g tt te r Q' (ds.drop i) acc S2,
    ⟨ds.length, [], [], w1.S, up w1.M L .hid, by omega, by omega, m0, upd_same, up_same, m1.freeS hL, .nil, Nat.le_refl _, k0, q⟩, ?_⟩
  rintro i m H2 ⟨acc, accV, S2, M2, rfl, hi, m2, hD, hM, nD, ra, la, k2, q2⟩
  have wl := wk.len
  cases e : ds[i]? with
  | none =>
    have hl : ds.length ≤ i := List.getElem?_eq_none_iff.mp e
    rw [List.drop_eq_nil_of_le hl, lcL_nil] at q2
    obtain ⟨c, q3⟩ := wck_iff q2
    refine .inl ⟨wk.stop i ⟨S2, M2, H2⟩ (k2.keeps m1) m2 c hl, ?_⟩
    have kk : Keeps ⟨S2, M2, H2⟩ ⟨S2, rid M2 L, H2⟩ := fun a o ha na => ⟨ha, by
      by_cases ea : a = L
      · subst ea; exact rid_same
      · exact (rid_ne ea).trans na⟩
    have me : Ok ⟨S2, rid M2 L, H2⟩ := by
      refine ⟨fun a o ha => ?_, fun a o ha => ?_⟩
      · have ne : a ≠ L := fun z => by subst z; exact nomatch (show none = some o from nD ▸ ha)
        exact (rid_ne ne).trans (m2.sub a o ha)
      · have ne : a ≠ L := fun z => by subst z; exact nomatch (show none = some o from rid_same (S := M2) ▸ ha)
        obtain ⟨u, hu, ro⟩ := m2.mem a o ((rid_ne ne).symm.trans ha)
        exact ⟨u, hu, ro.keeps kk⟩
    have se : Step w1 ⟨S2, rid M2 L, H2⟩ := fun a o ha na => by
      obtain ⟨h1, h2, h3⟩ := k2 a o ha na
      have ne : a ≠ L := ne_of_none ha hL
      exact ⟨h1, (rid_ne ne).trans h2, h3⟩
    exact k _ ⟨S2, rid M2 L, H2⟩ _ q3 (k1.trans se) me (.lst hD rid_same (ra.keeps kk) (by omega))
  | some d =>
    have hl : i < ds.length := (List.getElem?_eq_some_iff.mp e).1
    rw [drop_cons e, lcL_cons] at q2
    obtain ⟨c, q3⟩ := wck_iff q2
    obtain ⟨go, yld⟩ := wk.go i ⟨S2, M2, H2⟩ d (k2.keeps m1) m2 c e
    refine .inr ⟨go, fun H3 => ∃ acc accV S3 M3, Ok ⟨S3, M3, H3⟩ ∧ H3 L = some (.lst accV) ∧ M3 L = some .hid ∧ S3 L = none ∧ Reps ⟨S3, M3, H3⟩ accV acc ∧ acc.length ≤ i + 1 ∧ Step w1 ⟨S3, M3, H3⟩ ∧ lcL ck vs g tt te r Q' (ds.drop (i + 1)) acc S3,
      fun H3 ⟨acc, accV, S3, M3, a1, a2, a3, a4, a5, a6, a7, a8⟩ => ⟨ds.length - (i + 1), by omega, acc, accV, S3, M3, rfl, hl, a1, a2, a3, a4, a5, a6, a7, a8⟩, fun x H' hy => ?_⟩
    obtain ⟨ky, my, ry⟩ := yld x H' hy
    have R2 : Rel r ⟨S2, M2, H'⟩ s := (R.keep (k1.trans k2) m2).keep ky my
    refine ⟨d, wipeD r vs, S2, M2, _, rel_wipe R2 vs, ry, q3, fun r3 w3 s3 q4 R3 k3 b3 => ⟨wipe_but (b3.mono hiv), r3, w3.S, w3.M, _, R3, q4, fun b w4 q5 k4 m4 => ?_⟩⟩
    have hk : Step ⟨S2, M2, H2⟩ w4 := (ky.trans k3).trans k4
    obtain ⟨hD4, hM4, nD4⟩ := hk L _ hD nD
    cases b with
    | true =>
      show if true = true then _ else _
      rw [if_pos rfl]
      refine ⟨r3, w4.S, w4.M, _, R3.keep k4 m4, q5, fun y w5 v q6 k5 m5 r5 => ?_⟩
      obtain ⟨hD5, hM5, nD5⟩ := k5 L _ hD4 nD4
      have hh : w5.M L = some .hid := hM5.trans (hM4.trans hM)
      have lv := ra.length
      have gr : Keeps w5 ⟨w5.S, w5.M, upd w5.H L (.lst (accV ++ [v]))⟩ := fun a o ha na => by
        have ne : a ≠ L := fun z => by subst z; rw [hh] at na; cases na
        exact ⟨by show upd _ _ _ a = _; rw [upd_ne ne]; exact ha, na⟩
      refine ⟨accV, hD5, by omega, acc ++ [y], accV ++ [v], w5.S, w5.M, ⟨m5.sub, fun a o ha => ?_⟩, upd_same, hh, nD5, ?_, by rw [List.length_append, List.length_singleton]; omega, ?_, q6⟩
      · by_cases ea : a = L
        · subst ea
          have e2 : MO.hid = o := Option.some.inj (hh.symm.trans ha)
          subst e2
          exact ⟨_, upd_same, .hid⟩
        · obtain ⟨u, hu, ro⟩ := m5.mem a o ha
          exact ⟨u, by show upd _ _ _ a = _; rw [upd_ne ea]; exact hu, ro.keeps gr⟩
      · exact (((ra.keep hk m2).keep k5 m4).append (.cons r5 .nil)).keeps gr
      · intro a o ha na
        obtain ⟨h1, h2, h3⟩ := (k2.trans (hk.trans k5)) a o ha na
        have ne : a ≠ L := ne_of_none ha hL
        exact ⟨by show upd _ _ _ a = _; rw [upd_ne ne]; exact h1, h2, h3⟩
    | false =>
      show if false = true then _ else _
      rw [if_neg Bool.false_ne_true]
      exact ⟨acc, accV, w4.S, w4.M, m4, hD4, hM4.trans hM, nD4, ra.keep hk m2, by omega, k2.trans hk, q5⟩
/-- the tests of a comprehension -/
abbrev mYes : DT := fun _ S Q => Q true S
theorem _root_.L2.PTs.mi {ifs : List Expr} {t t' : TT} (h : PTs X ifs t) (i : ∀ s H Q, t' s H Q → t s H Q) : PTs X ifs t' := ⟨fun pins s σ H Q I hw => h.run pins s σ H Q I (i σ H Q hw)⟩
theorem mts_nil : PTs X [] (lT mYes) := pts_nil.mi fun s H Q ⟨r, S, M, Q', R, t, k⟩ => k true ⟨S, M, H⟩ t .refl R.ok
theorem mts_one {c : Expr} {t : DT} (h : PT X c (lT t)) : PTs X [c] (lT t) := pts_one h
theorem me_lc {elt iter : Expr} {ifs : List Expr} {scope : Scope} {own : List (Str × Nat)} {pos : Pos} {i : DI} {g : DG} {is : List Nat} {tt : DT} {te : DE} (hc : X.calm = true) (hN : X.N.Nodup) (hi : PI X tg iter (lI i)) (ok : BlkOk X.N X.env.scope scope own)
    (hg : ∀ (s : Shared) (H : Hp) (C : Addr) (cl : List (Str × Addr)) (fp : List Addr), PG (X.blk s H scope (compEnvC scope cl C X.env) fp) tg (lG is g)) (ht : ∀ (s : Shared) (H : Hp) (C : Addr) (cl : List (Str × Addr)) (fp : List Addr), PTs (X.blk s H scope (compEnvC scope cl C X.env) fp) ifs (lT tt))
    (he : ∀ (s : Shared) (H : Hp) (C : Addr) (cl : List (Str × Addr)) (fp : List Addr), PE (X.blk s H scope (compEnvC scope cl C X.env) fp) elt (lE te)) (hiv : ∀ i ∈ is, i ∈ own.map (·.2) := by decide) (hs : ∀ x, foldedSetIterable iter X.env x = pure x := by intro _; rfl) :
    PE X (.ListComp elt [⟨tg, iter, ifs, 0⟩] scope pos) (lE (mLc i (own.map (·.2)) g tt te)) := (pe_lc hc hN hi ok hg ht he hs).mi (lc_imp hiv)
end
end ML

set_option maxRecDepth 100000
/-! ML4: data that is compared, subscripts, slices, built-ins, what is walked. -/
namespace ML
open PySem PySem.Spec PyProof.Rows L2

/-! ### data as the library's data -/
mutual
def toPy : D → Option PyData
  | .non => some .none
  | .bl b => some (.bool b)
  | .int i => some (.int i)
  | .str x => some (.str x)
  | .tup xs => (toPys xs).map .tuple
  | .kt xs => (toPys xs).map .tuple
  | .lst xs => (toPys xs).map .list
  | .fls xs => (toPys xs).map .list
  | .obj _ => none
def toPys : List D → Option (List PyData)
  | [] => some []
  | d :: ds => match toPy d, toPys ds with
    | some p, some ps => some (p :: ps)
    | _, _ => none
end
/-- .. an object's list too -/
def toPyM (S : Mem) : D → Option PyData
  | .obj a => match S a with
    | some (.lst xs) => (toPys xs).map .list
    | _ => none
  | d => toPy d
mutual
theorem rep_dp {K : PySem.W.Frag} {w : W} : ∀ (d : D) (v : V) (p : PyData), toPy d = some p → Rep w v d → Dp K w.H v p
  | .non, _, _, h, r => by cases r; cases h; exact .non
  | .bl b, _, _, h, r => by cases r; cases h; exact .bl b
  | .int i, _, _, h, r => by cases r; cases h; exact .int i
  | .str x, _, _, h, r => by cases r; cases h; exact .str x
  | .tup xs, _, _, h, r => by
    cases r with
    | tup e n rr z =>
      obtain ⟨ps, h1, h2⟩ := Option.map_eq_some_iff.mp h
      subst h2
      exact .tup (.inl (.inl e)) (reps_dp xs _ ps h1 rr)
  | .kt xs, _, _, h, r => by
    cases r with
    | kt e _ n rr z =>
      obtain ⟨ps, h1, h2⟩ := Option.map_eq_some_iff.mp h
      subst h2
      exact .tup (.inl (.inr ⟨_, e⟩)) (reps_dp xs _ ps h1 rr)
  | .lst xs, _, _, h, r => by
    cases r with
    | lst e n rr z =>
      obtain ⟨ps, h1, h2⟩ := Option.map_eq_some_iff.mp h
      subst h2
      exact .lst (.inl (.inl e)) (reps_dp xs _ ps h1 rr)
  | .fls xs, _, _, h, r => by
    cases r with
    | fls e n rr z =>
      obtain ⟨ps, h1, h2⟩ := Option.map_eq_some_iff.mp h
      subst h2
      exact .lst (.inl (.inr ⟨_, e⟩)) (reps_dp xs _ ps h1 rr)
  | .obj a, _, _, h, _ => by cases h
theorem reps_dp {K : PySem.W.Frag} {w : W} : ∀ (ds : List D) (vs : List V) (ps : List PyData), toPys ds = some ps → Reps w vs ds → DpAll K w.H vs ps
  | [], _, _, h, r => by cases r; cases h; exact .nil
  | d :: ds, _, ps, h, r => by
    cases r with
    | cons r1 r2 =>
      have h : (match toPy d, toPys ds with | some p, some ps => some (p :: ps) | _, _ => none) = some ps := h
      cases e1 : toPy d with
      | none => rw [e1] at h; cases h
      | some p =>
        cases e2 : toPys ds with
        | none => rw [e1, e2] at h; cases h
        | some qs => rw [e1, e2] at h; cases h; exact .cons (rep_dp d _ p e1 r1) (reps_dp ds _ qs e2 r2)
end
theorem rep_dpM {K : PySem.W.Frag} {w : W} {d : D} {v : V} {p : PyData} (m : Ok w) (h : toPyM w.S d = some p) (r : Rep w v d) : Dp K w.H v p := by
  cases d with
  | obj a =>
    cases r
    unfold toPyM at h
    dsimp only at h
    split at h
    · next xs e =>
      obtain ⟨ps, h1, h2⟩ := Option.map_eq_some_iff.mp h
      subst h2
      obtain ⟨vs, e1, e2, _⟩ := m.lst e
      exact .lst (.inl (.inl e1)) (reps_dp xs _ ps h1 e2)
    · cases h
  | _ => exact rep_dp _ _ _ h r

/-- x == y, x != y -/
def oEqG (neg : Bool) : O2 := fun x y S Q => ∃ p q, toPyM S x = some p ∧ toPyM S y = some q ∧ SeqAt.shaped p = true ∧ SeqAt.shaped q = true ∧ Q (.bl (if neg then !PyData.eqv p q else PyData.eqv p q)) S
def oEq : O2 := fun x y S Q => match x, y with
  | .int i, .int j => Q (.bl (decide (i = j))) S
  | .str i, .str j => Q (.bl (decide (i = j))) S
  | .bl i, .bl j => Q (.bl (decide (i = j))) S
  | x, y => oEqG false x y S Q
def oNe : O2 := fun x y S Q => match x, y with
  | .int i, .int j => Q (.bl (!decide (i = j))) S
  | .str i, .str j => Q (.bl (!decide (i = j))) S
  | .bl i, .bl j => Q (.bl (!decide (i = j))) S
  | x, y => oEqG true x y S Q
def rEqA (K : PySem.W.Frag) : R2 := fun x y H Q => rEq x y H Q ∨ rEqD K x y H Q
def rNeA (K : PySem.W.Frag) : R2 := fun x y H Q => rNe x y H Q ∨ rNeD K x y H Q
theorem dec_congr {p q : Prop} [Decidable p] [Decidable q] (h : p ↔ q) : decide p = decide q := by
  by_cases hp : p
  · rw [decide_eq_true hp, decide_eq_true (h.mp hp)]
  · rw [decide_eq_false hp, decide_eq_false fun z => hp (h.mpr z)]
theorem op2_eq {K : PySem.W.Frag} : Op2 (rEqA K) oEq := fun x y v u w Q Q' m rx ry h k => by
  unfold oEq at h
  split at h
  · next i j => cases rx; cases ry; refine .inl ⟨rfl, ?_⟩; rw [dec_congr (show V.int i = V.int j ↔ i = j from ⟨fun e => V.int.inj e, fun e => by rw [e]⟩)]; exact k _ w _ h .refl m (.bl _)
  · next i j => cases rx; cases ry; refine .inl ⟨rfl, ?_⟩; rw [dec_congr (show V.str i = V.str j ↔ i = j from ⟨fun e => V.str.inj e, fun e => by rw [e]⟩)]; exact k _ w _ h .refl m (.bl _)
  · next i j => cases rx; cases ry; refine .inl ⟨rfl, ?_⟩; rw [dec_congr (show V.bl i = V.bl j ↔ i = j from ⟨fun e => V.bl.inj e, fun e => by rw [e]⟩)]; exact k _ w _ h .refl m (.bl _)
  · obtain ⟨p, q, h1, h2, h3, h4, h⟩ := h
    exact .inr ⟨p, q, rep_dpM m h1 rx, rep_dpM m h2 ry, h3, h4, k _ w _ h .refl m (.bl _)⟩
theorem op2_ne {K : PySem.W.Frag} : Op2 (rNeA K) oNe := fun x y v u w Q Q' m rx ry h k => by
  unfold oNe at h
  split at h
  · next i j => cases rx; cases ry; refine .inl ⟨rfl, ?_⟩; rw [dec_congr (show V.int i = V.int j ↔ i = j from ⟨fun e => V.int.inj e, fun e => by rw [e]⟩)]; exact k _ w _ h .refl m (.bl _)
  · next i j => cases rx; cases ry; refine .inl ⟨rfl, ?_⟩; rw [dec_congr (show V.str i = V.str j ↔ i = j from ⟨fun e => V.str.inj e, fun e => by rw [e]⟩)]; exact k _ w _ h .refl m (.bl _)
  · next i j => cases rx; cases ry; refine .inl ⟨rfl, ?_⟩; rw [dec_congr (show V.bl i = V.bl j ↔ i = j from ⟨fun e => V.bl.inj e, fun e => by rw [e]⟩)]; exact k _ w _ h .refl m (.bl _)
  · obtain ⟨p, q, h1, h2, h3, h4, h⟩ := h
    exact .inr ⟨p, q, rep_dpM m h1 rx, rep_dpM m h2 ry, h3, h4, k _ w _ h .refl m (.bl _)⟩

/-- x in y: a list or a tuple of data; a text in a text; a key of a dict -/
def pyItems : PyData → Option (List PyData)
  | .list xs => some xs
  | .tuple xs => some xs
  | _ => none
def rInA (K : PySem.W.Frag) (neg : Bool) : R2 := fun x y H Q => ∃ d ds e, Dp K H x d ∧ Dp K H y e ∧ pyItems e = some ds ∧ SeqAt.shaped d = true ∧ SeqAt.shaped e = true ∧ Q (.bl (if neg then !ds.any fun z => PyData.eqv z d else ds.any fun z => PyData.eqv z d)) H
def rInS (neg : Bool) : R2 := fun x y H Q => ∃ i j, x = .str i ∧ y = .str j ∧ Q (.bl (if neg then !(!(Builtin.Str.occurrences j i 0 j.length 1).isEmpty) else !(Builtin.Str.occurrences j i 0 j.length 1).isEmpty)) H
def rInDi (neg : Bool) : R2 := fun y x H Q => ∃ a o, x = .ref a ∧ DGet H a y o ∧ Q (.bl (if neg then !o.isSome else o.isSome)) H
section
variable {X : Cx}
theorem op_inA (hu : X.A.units + 65 < cLine) : OpR X (compareOp .In) (rInA X.K false) := by
  intro pins s σ H x y v u Q I rx ry h
  obtain ⟨d, ds, e, hd, he, hi, sd, se, q⟩ := h
  obtain ⟨as, r1⟩ := Dp.reads I d x v hd rx
  obtain ⟨bs, r2⟩ := Dp.reads I e y u he ry
  cases e with
  | list xs => cases hi; exact SeqAt.in_list_reads r2 r1 (SeqAt.canLay_of_shaped se) (SeqAt.canLay_of_shaped sd) (room_in_shaped sd hu) ⟨.bl _, H, I, rfl, q⟩
  | tuple xs => cases hi; exact SeqAt.in_tuple_reads r2 r1 (SeqAt.canLay_of_shaped se) (SeqAt.canLay_of_shaped sd) (room_in_shaped sd hu) ⟨.bl _, H, I, rfl, q⟩
  | _ => cases hi
theorem op_notInA (hu : X.A.units + 65 < cLine) : OpR X (compareOp .NotIn) (rInA X.K true) := by
  intro pins s σ H x y v u Q I rx ry h
  obtain ⟨d, ds, e, hd, he, hi, sd, se, q⟩ := h
  obtain ⟨as, r1⟩ := Dp.reads I d x v hd rx
  obtain ⟨bs, r2⟩ := Dp.reads I e y u he ry
  cases e with
  | list xs => cases hi; exact SeqAt.notIn_list_reads r2 r1 (SeqAt.canLay_of_shaped se) (SeqAt.canLay_of_shaped sd) (room_in_shaped sd hu) ⟨.bl _, H, I, rfl, q⟩
  | tuple xs => cases hi; exact SeqAt.notIn_tuple_reads r2 r1 (SeqAt.canLay_of_shaped se) (SeqAt.canLay_of_shaped sd) (room_in_shaped sd hu) ⟨.bl _, H, I, rfl, q⟩
  | _ => cases hi
theorem op_inDi (hu : X.A.units + 1 < cLine) : OpR X (compareOp .In) (rInDi false) := by
  intro pins s σ H y x v u Q I ry rx h
  obtain ⟨a, o, rfl, g, q⟩ := h
  cases rx
  exact d_in hu I g ry fun s3 I3 => ⟨.bl o.isSome, H, I3, rfl, q⟩
theorem op_notInDi (hu : X.A.units + 1 < cLine) : OpR X (compareOp .NotIn) (rInDi true) := by
  intro pins s σ H y x v u Q I ry rx h
  obtain ⟨a, o, rfl, g, q⟩ := h
  cases rx
  exact d_notIn hu I g ry fun s3 I3 => ⟨.bl (!o.isSome), H, I3, rfl, q⟩
end
/-- a dict's key as data -/
def keyOf : D → Option Key
  | .int i => some (.inl i)
  | .str x => some (.inr x)
  | _ => none
def keysOf : List D → Option (List Key)
  | [] => some []
  | d :: ds => match keyOf d, keysOf ds with
    | some k, some ks => some (k :: ks)
    | _, _ => none
def lookD {κ : Type} [DecidableEq κ] (kvs : List (κ × D)) (k : κ) : Option D := (kvs.find? fun kv => decide (kv.1 = k)).map (·.2)
/-- what a dict holds at a key; none where it is no dict or no key -/
def getD (S : Mem) (a : Addr) (y : D) : Option (Option D) := match S a, y with
  | some (.dk kvs), y => (keyOf y).map fun k => lookD kvs k
  | some (.dt kvs), .tup ds => (keysOf ds).map fun k => lookD kvs k
  | some (.lck _ _ (.dk kvs)), y => (keyOf y).map fun k => lookD kvs k
  | some (.lck _ _ (.dt kvs)), .tup ds => (keysOf ds).map fun k => lookD kvs k
  | _, _ => none
theorem keyOf_rep {w : W} {d : D} {k : Key} {v : V} (h : keyOf d = some k) (r : Rep w v d) : v = kV k := by
  cases d with
  | int i => cases h; cases r; rfl
  | str x => cases h; cases r; rfl
  | _ => cases h
theorem keysOf_rep {w : W} : ∀ {ds : List D} {ks : List Key} {vs : List V}, keysOf ds = some ks → Reps w vs ds → vs = ks.map kV
  | [], _, _, h, r => by cases h; cases r; rfl
  | d :: ds, ks, _, h, r => by
    cases r with
    | cons r1 r2 =>
      have h : (match keyOf d, keysOf ds with | some k, some ks => some (k :: ks) | _, _ => none) = some ks := h
      cases e1 : keyOf d with
      | none => rw [e1] at h; cases h
      | some k =>
        cases e2 : keysOf ds with
        | none => rw [e1, e2] at h; cases h
        | some ls => rw [e1, e2] at h; cases h; rw [keyOf_rep e1 r1, keysOf_rep e2 r2]; rfl
def RepP (w : W) : Option D → Option V → Prop
  | some d, some v => Rep w v d
  | none, none => True
  | _, _ => False
theorem look_rep {κ : Type} [DecidableEq κ] {w : W} {k : κ} : ∀ {kvs : List (κ × D)} {kws : List (κ × V)}, Paired (fun (p : κ × D) (q : κ × V) => p.1 = q.1 ∧ Rep w q.2 p.2) kvs kws → RepP w (lookD kvs k) (valV kws k)
  | [], [], .nil => trivial
  | (k1, d1) :: kvs, (k2, v2) :: kws, .cons ⟨e, r⟩ t => by
    have e : k1 = k2 := e
    subst e
    by_cases h : k1 = k
    · subst h
      have e1 : lookD ((k1, d1) :: kvs) k1 = some d1 := by simp [lookD]
      have e2 : valV ((k1, v2) :: kws) k1 = some v2 := valV_pos rfl
      rw [e1, e2]; exact r
    · have e1 : lookD ((k1, d1) :: kvs) k = lookD kvs k := by simp [lookD, h]
      have e2 : valV ((k1, v2) :: kws) k = valV kws k := valV_neg h
      rw [e1, e2]; exact look_rep t
theorem getD_rep {w : W} {a : Addr} {y : D} {o : Option D} {v : V} (m : Ok w) (h : getD w.S a y = some o) (r : Rep w v y) : ∃ ov, DGet w.H a v ov ∧ RepP w o ov := by
  unfold getD at h
  cases e : w.S a with
  | none => simp only [e] at h; cases h
  | some ob =>
    obtain ⟨u, hu, ro⟩ := m.mem a _ (m.sub a _ e)
    cases ob with
    | dk kvs =>
      simp only [e] at h
      obtain ⟨k, h1, h2⟩ := Option.map_eq_some_iff.mp h
      subst h2
      cases ro with
      | @dk _ kws p =>
        have ev := keyOf_rep h1 r
        subst ev
        exact ⟨valV kws k, .inl ⟨kws, k, .inl hu, rfl, rfl⟩, look_rep p⟩
    | dt kvs =>
      cases y with
      | tup ds =>
        simp only [e] at h
        obtain ⟨k, h1, h2⟩ := Option.map_eq_some_iff.mp h
        subst h2
        cases ro with
        | @dt _ kws p =>
          cases r with
          | tup e1 n rr z =>
            have ev := keysOf_rep h1 rr
            subst ev
            exact ⟨valV kws k, .inr ⟨kws, k, _, .inl hu, rfl, e1, rfl⟩, look_rep p⟩
      | _ => simp only [e] at h; cases h
    | lck o0 u0 m0 =>
      cases ro with
      | lck ro =>
        cases m0 with
        | dk kvs =>
          simp only [e] at h
          obtain ⟨k, h1, h2⟩ := Option.map_eq_some_iff.mp h
          subst h2
          cases ro with
          | @dk _ kws p =>
            have ev := keyOf_rep h1 r
            subst ev
            exact ⟨valV kws k, .inl ⟨kws, k, .inr ⟨o0, hu⟩, rfl, rfl⟩, look_rep p⟩
        | dt kvs =>
          cases y with
          | tup ds =>
            simp only [e] at h
            obtain ⟨k, h1, h2⟩ := Option.map_eq_some_iff.mp h
            subst h2
            cases ro with
            | @dt _ kws p =>
              cases r with
              | tup e1 n rr z =>
                have ev := keysOf_rep h1 rr
                subst ev
                exact ⟨valV kws k, .inr ⟨kws, k, _, .inr ⟨o0, hu⟩, rfl, e1, rfl⟩, look_rep p⟩
          | _ => simp only [e] at h; cases h
        | _ => simp only [e] at h; cases h
    | _ => simp only [e] at h; cases h
def oIn (neg : Bool) : O2 := fun x y S Q => match y with
  | .str j => match x with
    | .str i => Q (.bl (if neg then !(!(Builtin.Str.occurrences j i 0 j.length 1).isEmpty) else !(Builtin.Str.occurrences j i 0 j.length 1).isEmpty)) S
    | _ => False
  | .obj a => (∃ o, getD S a x = some o ∧ Q (.bl (if neg then !o.isSome else o.isSome)) S) ∨
      ∃ d xs ds, S a = some (.lst xs) ∧ toPyM S x = some d ∧ toPys xs = some ds ∧ SeqAt.shaped d = true ∧ SeqAt.shaped (.list ds) = true ∧ Q (.bl (if neg then !ds.any fun z => PyData.eqv z d else ds.any fun z => PyData.eqv z d)) S
  | y => ∃ d e ds, toPyM S x = some d ∧ toPy y = some e ∧ pyItems e = some ds ∧ SeqAt.shaped d = true ∧ SeqAt.shaped e = true ∧ Q (.bl (if neg then !ds.any fun z => PyData.eqv z d else ds.any fun z => PyData.eqv z d)) S
theorem op2_in {K : PySem.W.Frag} {neg : Bool} : Op2 (fun x y H Q => rInA K neg x y H Q ∨ rInS neg x y H Q ∨ rInDi neg x y H Q) (oIn neg) := by
  intro x y v u w Q Q' m rx ry h k
  unfold oIn at h
  split at h
  · next j =>
    split at h
    · next i => cases rx; cases ry; exact .inr (.inl ⟨i, j, rfl, rfl, k _ w _ h .refl m (.bl _)⟩)
    · exact h.elim
  · next a =>
    rcases h with ⟨o, h1, h2⟩ | ⟨d, xs, ds, h1, h2, h3, h4, h5, h6⟩
    · cases ry
      obtain ⟨ov, g, hm⟩ := getD_rep m h1 rx
      have e : o.isSome = ov.isSome := by
        cases o <;> cases ov <;> first | rfl | exact hm.elim
      rw [e] at h2
      exact .inr (.inr ⟨a, ov, rfl, g, k _ w _ h2 .refl m (.bl _)⟩)
    · cases ry
      obtain ⟨vs, e1, e2, _⟩ := m.lst h1
      exact .inl ⟨d, ds, .list ds, rep_dpM m h2 rx, .lst (.inl (.inl e1)) (reps_dp xs _ ds h3 e2), rfl, h4, h5, k _ w _ h6 .refl m (.bl _)⟩
  · obtain ⟨d, e, ds, h1, h2, h3, h4, h5, h6⟩ := h
    exact .inl ⟨d, ds, e, rep_dpM m h1 rx, rep_dp _ _ _ h2 ry, h3, h4, h5, k _ w _ h6 .refl m (.bl _)⟩
section
variable {X : Cx} {a b : Expr} {ta tb : DE} {pos : Pos}
theorem op_in (hu : X.A.units + 65 < cLine) : OpR X (compareOp .In) (fun x y H Q => rInA X.K false x y H Q ∨ rInS false x y H Q ∨ rInDi false x y H Q) :=
  OpR.or (op_inA hu) (OpR.or op_in_str (op_inDi (by omega)))
theorem op_notIn (hu : X.A.units + 65 < cLine) : OpR X (compareOp .NotIn) (fun x y H Q => rInA X.K true x y H Q ∨ rInS true x y H Q ∨ rInDi true x y H Q) :=
  OpR.or (op_notInA hu) (OpR.or op_notin_str (op_notInDi (by omega)))
theorem hu65 {A : Around} {k : Nat} (hr : Room k A) : A.units + 65 < cLine := by have := hr.un; omega
theorem hu64 {A : Around} {k : Nat} (hr : Room k A) : A.units + 64 < cLine := by have := hr.un; omega
end

/-! ### is None, is True -/
def rIsA (neg : Bool) : R2 := fun x y H Q => (y = .non ∧ Q (.bl (if neg then !decide (x = .non) else decide (x = .non))) H) ∨ ∃ a b : Bool, x = .bl a ∧ y = .bl b ∧ Q (.bl (if neg then !decide (a = b) else decide (a = b))) H
def isN : D → Bool
  | .non => true
  | _ => false
def oIs (neg : Bool) : O2 := fun x y S Q => match y with
  | .non => Q (.bl (if neg then !isN x else isN x)) S
  | .bl b => match x with
    | .bl a => Q (.bl (if neg then !decide (a = b) else decide (a = b))) S
    | _ => False
  | _ => False
theorem isN_rep {w : W} {v : V} {d : D} (r : Rep w v d) : isN d = decide (v = .non) := by
  cases r <;> first | rfl | exact (decide_eq_false (fun z => by cases z)).symm
theorem op2_is {neg : Bool} : Op2 (rIsA neg) (oIs neg) := by
  intro x y v u w Q Q' m rx ry h k
  unfold oIs at h
  split at h
  · rw [isN_rep rx] at h; cases ry; exact .inl ⟨rfl, k _ w _ h .refl m (.bl _)⟩
  · next b =>
    split at h
    · next a => cases rx; cases ry; exact .inr ⟨a, b, rfl, rfl, k _ w _ h .refl m (.bl _)⟩
    · exact h.elim
  · exact h.elim

/-! ### subscripts and slices -/
def oIx : O2 := fun x y S Q => match y with
  | .int i => match x with
    | .tup xs => opt (atI xs i) fun d => Q d S
    | .kt xs => opt (atI xs i) fun d => Q d S
    | .lst xs => opt (atI xs i) fun d => Q d S
    | .fls xs => opt (atI xs i) fun d => Q d S
    | .str z => z.length ≤ sizeLine ∧ opt (atI z.cps.toList i) fun c => Q (.str ⟨#[c]⟩) S
    | .obj a => match S a with
      | some (.lst xs) => opt (atI xs i) fun d => Q d S
      | _ => opt (getD S a (.int i)) fun o => opt o fun d => Q d S
    | _ => False
  | y => match x with
    | .obj a => opt (getD S a y) fun o => opt o fun d => Q d S
    | _ => False
def rIxA (K : PySem.W.Frag) : R2 := fun x y H Q => rIx K x y H Q ∨ ∃ a v, x = .ref a ∧ DGet H a y (some v) ∧ Q v H
theorem atI_rep {w : W} {vs : List V} {xs : List D} {i : Int} {d : D} (r : Reps w vs xs) (h : atI xs i = some d) : ∃ v, atI vs i = some v ∧ Rep w v d := by
  unfold atI at h ⊢
  rw [r.length]
  cases e : ixN xs.length i with
  | none => rw [e] at h; cases h
  | some j =>
    rw [e] at h
    obtain ⟨v, h1, h2⟩ := r.get (show xs[j]? = some d from h)
    exact ⟨v, h1, h2⟩
theorem op2_ix {K : PySem.W.Frag} : Op2 (rIxA K) oIx := by
  intro x y v u w Q Q' m rx ry h k
  have dict : ∀ (a : Addr) (y : D) (u : V), Rep w u y → (opt (getD w.S a y) fun o => opt o fun d => Q' d w.S) → rIxA K (.ref a) u w.H Q := by
    intro a y u ry h
    obtain ⟨o, h1, h2⟩ := of_opt h
    obtain ⟨d, h3, h4⟩ := of_opt h2
    subst h3
    obtain ⟨ov, g, hm⟩ := getD_rep m h1 ry
    cases ov with
    | none => exact hm.elim
    | some z => exact .inr ⟨a, z, rfl, g, k d w z h4 .refl m hm⟩
  unfold oIx at h
  split at h
  · next i =>
    cases ry
    split at h
    · next xs =>
      obtain ⟨d, h1, h2⟩ := of_opt h
      cases rx with | tup e n rr z => obtain ⟨z, hz, rz⟩ := atI_rep rr h1; exact .inl (.inr (.inl ⟨_, _, i, z, rfl, rfl, .inl (.inl e), hz, k d w z h2 .refl m rz⟩))
    · next xs =>
      obtain ⟨d, h1, h2⟩ := of_opt h
      cases rx with | kt e _ n rr z => obtain ⟨z, hz, rz⟩ := atI_rep rr h1; exact .inl (.inr (.inl ⟨_, _, i, z, rfl, rfl, .inl (.inr ⟨_, e⟩), hz, k d w z h2 .refl m rz⟩))
    · next xs =>
      obtain ⟨d, h1, h2⟩ := of_opt h
      cases rx with | lst e n rr z => obtain ⟨z, hz, rz⟩ := atI_rep rr h1; exact .inl (.inl ⟨_, _, i, z, rfl, rfl, .inl (.inl e), hz, k d w z h2 .refl m rz⟩)
    · next xs =>
      obtain ⟨d, h1, h2⟩ := of_opt h
      cases rx with | fls e n rr z => obtain ⟨z, hz, rz⟩ := atI_rep rr h1; exact .inl (.inl ⟨_, _, i, z, rfl, rfl, .inl (.inr ⟨_, e⟩), hz, k d w z h2 .refl m rz⟩)
    · next z =>
      obtain ⟨hz, h⟩ := h
      obtain ⟨c, h1, h2⟩ := of_opt h
      cases rx
      exact .inl (.inr (.inr ⟨z, i, c, rfl, rfl, hz, h1, k _ w _ h2 .refl m (.str _)⟩))
    · next a =>
      cases rx
      split at h
      · next xs e =>
        obtain ⟨d, h1, h2⟩ := of_opt h
        obtain ⟨vs, e1, e2, _⟩ := m.lst e
        obtain ⟨z, hz, rz⟩ := atI_rep e2 h1
        exact .inl (.inl ⟨_, _, i, z, rfl, rfl, .inl (.inl e1), hz, k d w z h2 .refl m rz⟩)
      · exact dict a (.int i) (.int i) (.int i) h
    · exact h.elim
  · split at h
    · next a => cases rx; exact dict a y u ry h
    · exact h.elim
section
variable {X : Cx} {a b : Expr} {ta tb : DE} {pos : Pos}
theorem ix_dict (hu : X.A.units + 1 < cLine) : IxR X (fun x y H Q => ∃ a v, x = .ref a ∧ DGet H a y (some v) ∧ Q v H) := by
  intro value slice pins s σ H x y v u Q I rx ry h hs
  obtain ⟨a, z, rfl, g, q⟩ := h
  cases rx
  exact tail_any (dict_typeIs I g) PySem.F.slot_dict_getitem.lookup (d_getItem hu I g ry fun w' s3 I3 rw' => ⟨z, H, I3, rw', q⟩) hs
end
end ML

set_option maxRecDepth 100000
/-! ML5: built-ins, methods, what is walked, while, calls of defs, a def's promise. -/
namespace ML
open PySem PySem.Spec PyProof.Rows L2

section
variable {X : Cx} {a b c : Expr} {ta tb tc : DE} {pos : Pos} {n : Nat}
theorem op_eqA (hr : Room n X.A) : OpR X (compareOp .Eq) (rEqA X.K) := OpR.or op_eq (op_eqD (hu64 hr))
theorem op_neA (hr : Room n X.A) : OpR X (compareOp .NotEq) (rNeA X.K) := OpR.or op_ne (op_neD (hu64 hr))
theorem me_eq (hr : Room n X.A) (ha : PE X a (lE ta)) (hb : PE X b (lE tb)) : PE X (.Compare a [.Eq] [b] pos) (lE (mBin oEq ta tb)) := me_cmp (op_eqA hr) op2_eq ha hb (nomark _)
theorem me_ne (hr : Room n X.A) (ha : PE X a (lE ta)) (hb : PE X b (lE tb)) : PE X (.Compare a [.NotEq] [b] pos) (lE (mBin oNe ta tb)) := me_cmp (op_neA hr) op2_ne ha hb (nomark _)
theorem mt_eq (hr : Room n X.A) (ha : PE X a (lE ta)) (hb : PE X b (lE tb)) : PT X (.Compare a [.Eq] [b] pos) (lT (mTst (mBin oEq ta tb))) := mt_cmp (op_eqA hr) op2_eq ha hb (nomark _)
theorem mt_ne (hr : Room n X.A) (ha : PE X a (lE ta)) (hb : PE X b (lE tb)) : PT X (.Compare a [.NotEq] [b] pos) (lT (mTst (mBin oNe ta tb))) := mt_cmp (op_neA hr) op2_ne ha hb (nomark _)
theorem me_in (hr : Room n X.A) (ha : PE X a (lE ta)) (hb : PE X b (lE tb)) (hm : behindInMarks .In b = false := by rfl) : PE X (.Compare a [.In] [b] pos) (lE (mBin (oIn false) ta tb)) := me_cmp (op_in (hu65 hr)) op2_in ha hb hm
theorem me_notIn (hr : Room n X.A) (ha : PE X a (lE ta)) (hb : PE X b (lE tb)) (hm : behindInMarks .NotIn b = false := by rfl) : PE X (.Compare a [.NotIn] [b] pos) (lE (mBin (oIn true) ta tb)) := me_cmp (op_notIn (hu65 hr)) op2_in ha hb hm
theorem mt_in (hr : Room n X.A) (ha : PE X a (lE ta)) (hb : PE X b (lE tb)) (hm : behindInMarks .In b = false := by rfl) : PT X (.Compare a [.In] [b] pos) (lT (mTst (mBin (oIn false) ta tb))) := mt_cmp (op_in (hu65 hr)) op2_in ha hb hm
theorem mt_notIn (hr : Room n X.A) (ha : PE X a (lE ta)) (hb : PE X b (lE tb)) (hm : behindInMarks .NotIn b = false := by rfl) : PT X (.Compare a [.NotIn] [b] pos) (lT (mTst (mBin (oIn true) ta tb))) := mt_cmp (op_notIn (hu65 hr)) op2_in ha hb hm
theorem op_isA : OpR X (compareOp .Is) (rIsA false) := OpR.or op_isN op_isBl
theorem op_isNotA : OpR X (compareOp .IsNot) (rIsA true) := OpR.or op_notN op_notBl
theorem me_is (ha : PE X a (lE ta)) (hb : PE X b (lE tb)) : PE X (.Compare a [.Is] [b] pos) (lE (mBin (oIs false) ta tb)) := me_cmp op_isA op2_is ha hb (nomark _)
theorem mt_is (ha : PE X a (lE ta)) (hb : PE X b (lE tb)) : PT X (.Compare a [.Is] [b] pos) (lT (mTst (mBin (oIs false) ta tb))) := mt_cmp op_isA op2_is ha hb (nomark _)
theorem me_isNot (ha : PE X a (lE ta)) (hb : PE X b (lE tb)) : PE X (.Compare a [.IsNot] [b] pos) (lE (mBin (oIs true) ta tb)) := me_cmp op_isNotA op2_is ha hb (nomark _)
theorem mt_isNot (ha : PE X a (lE ta)) (hb : PE X b (lE tb)) : PT X (.Compare a [.IsNot] [b] pos) (lT (mTst (mBin (oIs true) ta tb))) := mt_cmp op_isNotA op2_is ha hb (nomark _)
theorem me_lt (ha : PE X a (lE ta)) (hb : PE X b (lE tb)) : PE X (.Compare a [.Lt] [b] pos) (lE (mBin oLt ta tb)) := me_cmp op_lt op2_lt ha hb (nomark _)
theorem me_le (ha : PE X a (lE ta)) (hb : PE X b (lE tb)) : PE X (.Compare a [.LtE] [b] pos) (lE (mBin oLe ta tb)) := me_cmp op_le op2_le ha hb (nomark _)
theorem me_gt (ha : PE X a (lE ta)) (hb : PE X b (lE tb)) : PE X (.Compare a [.Gt] [b] pos) (lE (mBin oGt ta tb)) := me_cmp op_gt op2_gt ha hb (nomark _)
theorem me_ge (ha : PE X a (lE ta)) (hb : PE X b (lE tb)) : PE X (.Compare a [.GtE] [b] pos) (lE (mBin oGe ta tb)) := me_cmp op_ge op2_ge ha hb (nomark _)
theorem mt_lt (ha : PE X a (lE ta)) (hb : PE X b (lE tb)) : PT X (.Compare a [.Lt] [b] pos) (lT (mTst (mBin oLt ta tb))) := mt_cmp op_lt op2_lt ha hb (nomark _)
theorem mt_le (ha : PE X a (lE ta)) (hb : PE X b (lE tb)) : PT X (.Compare a [.LtE] [b] pos) (lT (mTst (mBin oLe ta tb))) := mt_cmp op_le op2_le ha hb (nomark _)
theorem mt_gt (ha : PE X a (lE ta)) (hb : PE X b (lE tb)) : PT X (.Compare a [.Gt] [b] pos) (lT (mTst (mBin oGt ta tb))) := mt_cmp op_gt op2_gt ha hb (nomark _)
theorem mt_ge (ha : PE X a (lE ta)) (hb : PE X b (lE tb)) : PT X (.Compare a [.GtE] [b] pos) (lT (mTst (mBin oGe ta tb))) := mt_cmp op_ge op2_ge ha hb (nomark _)

/-! ### subscripts, slices -/
theorem me_ixU (hu : X.A.units + 65 < cLine) (ha : PE X a (lE ta)) (hb : PE X b (lE tb)) (hs : PlainIx b := by exact fun _ _ => rfl) : PE X (.Subscript a b pos) (lE (mBin oIx ta tb)) :=
  (pe_ix (IxR.or ix_seq (ix_dict (by omega))) ha hb hs).mi (bin_imp op2_ix)
theorem me_ix (hr : Room n X.A) (ha : PE X a (lE ta)) (hb : PE X b (lE tb)) (hs : PlainIx b := by exact fun _ _ => rfl) : PE X (.Subscript a b pos) (lE (mBin oIx ta tb)) :=
  (pe_ix (IxR.or ix_seq (ix_dict (by have := hr.un; omega))) ha hb hs).mi (bin_imp op2_ix)
abbrev DO := En → Mem → (Option Int → Mem → Prop) → Prop
def lO (t : DO) : TO := fun s H Q => ∃ r S M Q', Rel r ⟨S, M, H⟩ s ∧ t r S Q' ∧ ∀ o (w : W), Q' o w.S → Step ⟨S, M, H⟩ w → Ok w → Q o w.H
theorem _root_.L2.PO.mi {e : Option Expr} {t t' : TO} (h : PO X e t) (i : ∀ s H Q, t' s H Q → t s H Q) : PO X e t' := ⟨fun pins s σ H Q I hw => h.run pins s σ H Q I (i σ H Q hw)⟩
abbrev mNoPart : DO := fun _ S Q => Q none S
abbrev mPart (t : DE) : DO := fun r S Q => t r S fun d S1 => match d with
  | .int i => Q (some i) S1
  | _ => False
theorem mo_none : PO X none (lO mNoPart) := po_none.mi fun s H Q ⟨r, S, M, Q', R, t, k⟩ => k none ⟨S, M, H⟩ t .refl R.ok
theorem mo_some (h : PE X a (lE ta)) : PO X (some a) (lO (mPart ta)) := (po_some h).mi fun s H Q ⟨r, S, M, Q', R, t, k⟩ => ⟨r, S, M, _, R, t, fun d w1 v q k1 m1 r1 => by
  cases d with
  | int i => cases r1; exact ⟨i, rfl, k _ w1 q k1 m1⟩
  | _ => exact False.elim q⟩
/-- the items of xs[lo:hi] -/
def cutX {α : Type} (xs : List α) (lo hi : Option Int) : List α := (xs.drop (HT.sIx xs.length 0 lo)).take (HT.sIx xs.length xs.length hi - HT.sIx xs.length 0 lo)
abbrev cutQ (xs : List D) (lo hi : Option Int) : List D := cutX xs lo hi
theorem cut_rep {w : W} {vs : List V} {xs : List D} (r : Reps w vs xs) (lo hi : Option Int) : Reps w (cutV vs lo hi) (cutQ xs lo hi) := by
  unfold cutV cutQ cutX
  rw [r.length]
  exact (r.drop _).take _
theorem cutQ_len (xs : List D) (lo hi : Option Int) : (cutQ xs lo hi).length ≤ xs.length := by
  unfold cutQ cutX
  rw [List.length_take, List.length_drop]
  omega
theorem cutQ_whole {xs : List D} {lo hi : Option Int} (h : HT.sIx xs.length 0 lo = 0 ∧ HT.sIx xs.length xs.length hi = xs.length) : cutQ xs lo hi = xs := by
  unfold cutQ cutX
  rw [h.1, h.2, List.drop_zero, Nat.sub_zero]
  exact List.take_length
def oSl : D → Option Int → Option Int → Mem → WK → Prop := fun x lo hi S Q => match x with
  | .tup xs => Q (.tup (cutQ xs lo hi)) S
  | .kt xs => ∀ d, asT d = some (cutQ xs lo hi) → Q d S
  | .str z => z.length ≤ sizeLine ∧ Q (.str (cutS z lo hi)) S
  | x => opt (asL S x) fun xs => Q (.lst (cutQ xs lo hi)) S
abbrev mSl (te : DE) (tl th : DO) : DE := fun r S Q => te r S fun x S1 => tl r S1 fun l S2 => th r S2 fun u S3 => oSl x l u S3 Q
theorem sl_ok {K : PySem.W.Frag} {x : D} {v : V} {lo hi : Option Int} {w : W} {Q : VK} {Q' : WK} (m : Ok w) (rx : Rep w v x) (h : oSl x lo hi w.S Q') (k : Then w Q' Q) : rSlA K v lo hi w.H Q ∨ rSlL K v lo hi w.H Q ∨ rSlS v lo hi w.H Q := by
  unfold oSl at h
  split at h
  · next xs =>
    cases rx with
    | @tup a vs _ e n rr z =>
      refine .inl ⟨a, vs, rfl, .inl (.inl e), fun hw => ?_, fun _ p hp => ?_⟩
      · rw [rr.length] at hw
        rw [cutQ_whole hw] at h
        exact k _ w _ h .refl m (.tup e n rr z)
      · exact k _ ⟨w.S, w.M, _⟩ _ h (.new hp) (m.new hp) (.tup upd_same (m.free hp) ((cut_rep rr lo hi).keep (.new hp) m) (Nat.le_trans (cutQ_len _ _ _) z))
  · next xs =>
    cases rx with
    | @kt a o vs _ e eo n rr z =>
      refine .inl ⟨a, vs, rfl, .inl (.inr ⟨_, e⟩), fun hw => ?_, fun _ p hp => ?_⟩
      · rw [rr.length] at hw
        exact k _ w _ (h (.kt xs) (by rw [cutQ_whole hw]; rfl)) .refl m (.kt e eo n rr z)
      · exact k _ ⟨w.S, w.M, _⟩ _ (h _ rfl) (.new hp) (m.new hp) (.tup upd_same (m.free hp) ((cut_rep rr lo hi).keep (.new hp) m) (Nat.le_trans (cutQ_len _ _ _) z))
  · next z => cases rx; exact .inr (.inr ⟨z, rfl, h.1, k _ w _ h.2 .refl m (.str _)⟩)
  · obtain ⟨xs, h1, h2⟩ := of_opt h
    obtain ⟨a, vs, rfl, e1, e2, z⟩ := asL_rep (K := K) m h1 rx
    exact .inr (.inl ⟨a, vs, rfl, e1, fun p hp => k _ ⟨w.S, w.M, _⟩ _ h2 (.new hp) (m.new hp) (.lst upd_same (m.free hp) ((cut_rep e2 lo hi).keep (.new hp) m) (Nat.le_trans (cutQ_len _ _ _) z))⟩)
theorem me_slice {lo hi : Option Expr} {tl th : DO} {p2 : Pos} (he : PE X a (lE ta)) (hl : PO X lo (lO tl)) (hu : PO X hi (lO th)) : PE X (.Subscript a (.Slice lo hi none p2) pos) (lE (mSl ta tl th)) :=
  (pe_slice (SlR.or sl_tupA (SlR.or sl_list sl_str)) he hl hu).mi fun s H Q ⟨r, S, M, Q', R, t, k⟩ => ⟨r, S, M, _, R, t, fun x w1 v q k1 m1 r1 => ⟨r, w1.S, w1.M, _, R.keep k1 m1, q, fun l w2 q2 k2 m2 => ⟨r, w2.S, w2.M, _, R.keep (k1.trans k2) m2, q2, fun u w3 q3 k3 m3 =>
    sl_ok m3 ((r1.keep k2 m1).keep k3 m2) q3 (Then.after k ((k1.trans k2).trans k3))⟩⟩⟩

/-! ### built-in functions -/
def oLen : OA := fun ds S Q => match ds with
  | [.tup xs] => Q (.int xs.length) S
  | [.kt xs] => Q (.int xs.length) S
  | [.str z] => z.length ≤ sizeLine ∧ Q (.int z.length) S
  | [.obj a] => match S a with
    | some (.lst xs) => Q (.int xs.length) S
    | some (.dk kvs) => Q (.int kvs.length) S
    | _ => False
  | [d] => opt (asL S d) fun xs => Q (.int xs.length) S
  | _ => False
def rLenA (K : PySem.W.Frag) : List V → Hp → VK → Prop := fun xs H Q => (∃ x n, xs = [x] ∧ LenV K x H n ∧ Q (.int n) H) ∨ ∃ a kvs, xs = [.ref a] ∧ H a = some (.dK kvs) ∧ Q (.int kvs.length) H
theorem paired_len {α β : Type} {P : α → β → Prop} : ∀ {xs : List α} {ys : List β}, Paired P xs ys → xs.length = ys.length
  | _, _, .nil => rfl
  | _, _, .cons _ t => congrArg (· + 1) (paired_len t)
theorem opA_len {K : PySem.W.Frag} : OpA (rLenA K) oLen := by
  intro ds vs w Q Q' m rr h k
  unfold oLen at h
  split at h
  · obtain ⟨v, rfl, r⟩ := reps1 rr
    cases r with | tup e n r z => exact .inl ⟨_, _, rfl, .inr ⟨_, .inl (.inl e), r.length.symm⟩, k _ w _ h .refl m (.int _)⟩
  · obtain ⟨v, rfl, r⟩ := reps1 rr
    cases r with | kt e _ n r z => exact .inl ⟨_, _, rfl, .inr ⟨_, .inl (.inr ⟨_, e⟩), r.length.symm⟩, k _ w _ h .refl m (.int _)⟩
  · obtain ⟨v, rfl, r⟩ := reps1 rr
    cases r
    exact .inl ⟨_, _, rfl, ⟨h.1, rfl⟩, k _ w _ h.2 .refl m (.int _)⟩
  · next a =>
    obtain ⟨v, rfl, r⟩ := reps1 rr
    cases r
    split at h
    · next xs e =>
      obtain ⟨vs, e1, e2, _⟩ := m.lst e
      exact .inl ⟨_, _, rfl, .inl ⟨_, .inl (.inl e1), e2.length.symm⟩, k _ w _ h .refl m (.int _)⟩
    · next kvs e =>
      obtain ⟨u, hu, ro⟩ := m.mem a _ (m.sub a _ e)
      cases ro with
      | dk p => exact .inr ⟨a, _, rfl, hu, by rw [← paired_len p]; exact k _ w _ h .refl m (.int _)⟩
    · exact h.elim
  · obtain ⟨v, rfl, r⟩ := reps1 rr
    obtain ⟨xs, h1, h2⟩ := of_opt h
    obtain ⟨a, vs, rfl, e1, e2, z⟩ := asL_rep (K := K) m h1 r
    exact .inl ⟨_, _, rfl, .inl ⟨_, e1, e2.length.symm⟩, k _ w _ h2 .refl m (.int _)⟩
  · exact h.elim
theorem me_len {e : Expr} {p : Pos} {t : DA} (hm : X.mg "len" = none) (ha : PA X [e] (lA t)) (hg : Gl X "len" := by rfl) (hs : starEach [e] X.env = (false, eval e X.env) :: starEach [] X.env := by rfl) : PE X (.Call (.Name "len" p) [e] [] pos) (lE (mCall oLen t)) :=
  me_callB (CallR.or call_len call_lenD) opA_len hm ha PySem.boot_len hg (by decide) (by decide) hs
def oMax2 : OA := fun ds S Q => match ds with
  | [.int i, .int j] => Q (.int (if j > i then j else i)) S
  | _ => False
def oMin2 : OA := fun ds S Q => match ds with
  | [.int i, .int j] => Q (.int (if j < i then j else i)) S
  | _ => False
theorem opA_max2 : OpA (fun xs H Q => ∃ i j, xs = [.int i, .int j] ∧ Q (.int (if j > i then j else i)) H) oMax2 := by
  intro ds vs w Q Q' m rr h k
  unfold oMax2 at h
  split at h
  · obtain ⟨v, u, rfl, r1, r2⟩ := reps2 rr
    cases r1; cases r2
    exact ⟨_, _, rfl, k _ w _ h .refl m (.int _)⟩
  · exact h.elim
theorem opA_min2 : OpA (fun xs H Q => ∃ i j, xs = [.int i, .int j] ∧ Q (.int (if j < i then j else i)) H) oMin2 := by
  intro ds vs w Q Q' m rr h k
  unfold oMin2 at h
  split at h
  · obtain ⟨v, u, rfl, r1, r2⟩ := reps2 rr
    cases r1; cases r2
    exact ⟨_, _, rfl, k _ w _ h .refl m (.int _)⟩
  · exact h.elim
theorem me_max2 {e f : Expr} {p : Pos} {t : DA} (hc : X.calm = true) (hm : X.mg "max" = none) (ha : PA X [e, f] (lA t)) (hg : Gl X "max" := by rfl) (hs : starEach [e, f] X.env = (false, eval e X.env) :: starEach [f] X.env := by rfl) (hp : (backTo pos (starEach [f] X.env)).any (·.1) = false := by rfl) : PE X (.Call (.Name "max" p) [e, f] [] pos) (lE (mCall oMax2 t)) :=
  me_callB (call_max2 hc) opA_max2 hm ha (by decide +kernel) hg (by decide) (by decide) hs hp
theorem me_min2 {e f : Expr} {p : Pos} {t : DA} (hc : X.calm = true) (hm : X.mg "min" = none) (ha : PA X [e, f] (lA t)) (hg : Gl X "min" := by rfl) (hs : starEach [e, f] X.env = (false, eval e X.env) :: starEach [f] X.env := by rfl) (hp : (backTo pos (starEach [f] X.env)).any (·.1) = false := by rfl) : PE X (.Call (.Name "min" p) [e, f] [] pos) (lE (mCall oMin2 t)) :=
  me_callB (call_min2 hc) opA_min2 hm ha (by decide +kernel) hg (by decide) (by decide) hs hp

/-- tuple(list): a new tuple; tuple(tuple): itself -/
def oTuple : OA := fun ds S Q => match ds with
  | [d] => match asT d with
    | some _ => Q d S
    | none => opt (asL S d) fun xs => Q (.tup xs) S
  | _ => False
theorem opA_tuple {K : PySem.W.Frag} : OpA (fun xs H Q => ∃ p ys, xs = [.ref p] ∧ ((SqL K H p ys ∧ ∀ l, H l = none → Q (.ref l) (upd H l (.tup ys))) ∨ (SqT K H p ys ∧ Q (.ref p) H))) oTuple := by
  intro ds vs w Q Q' m rr h k
  unfold oTuple at h
  split at h
  · next d =>
    obtain ⟨v, rfl, r⟩ := reps1 rr
    split at h
    · next xs e =>
      obtain ⟨a, vs, rfl, e1, _⟩ := asT_rep (K := K) e r
      exact ⟨a, vs, rfl, .inr ⟨e1, k _ w _ h .refl m r⟩⟩
    · obtain ⟨xs, h1, h2⟩ := of_opt h
      obtain ⟨a, vs, rfl, e1, e2, z⟩ := asL_rep (K := K) m h1 r
      exact ⟨a, vs, rfl, .inl ⟨e1, fun p hp => k _ ⟨w.S, w.M, _⟩ _ h2 (.new hp) (m.new hp) (.tup upd_same (m.free hp) (e2.keep (.new hp) m) z)⟩⟩
  · exact h.elim
theorem me_tuple {e : Expr} {p : Pos} {t : DA} (hm : X.mg "tuple" = none) (ha : PA X [e] (lA t)) (hg : Gl X "tuple" := by rfl) (hs : starEach [e] X.env = (false, eval e X.env) :: starEach [] X.env := by rfl) : PE X (.Call (.Name "tuple" p) [e] [] pos) (lE (mCall oTuple t)) :=
  me_callTy call_tuple_of opA_tuple hm ha (by decide +kernel) hg (by decide) (by decide) hs
/-- tuple(list), the tuple known to have no dict -/
def oTupleK : OA := fun ds S Q => match ds with
  | [d] => opt (asL S d) fun xs => Q (.kt xs) S
  | _ => False
def rTupK (K : PySem.W.Frag) : List V → Hp → VK → Prop := fun xs H Q => ∃ p ys, xs = [.ref p] ∧ SqL K H p ys ∧ ∀ l o, H l = none → o.dict = none → Q (.ref l) (upd H l (.frz o (.tup ys)))
theorem call_tupK : CallR X (.type "tuple") (rTupK X.K) := by
  intro pins s σ H xs us Q I r h
  obtain ⟨p, ys, rfl, hq, q⟩ := h
  obtain ⟨u, rfl, rx⟩ := vals1 r
  cases rx
  obtain ⟨its, r', pl, hz⟩ := I.list hq
  have hlen := r'.length
  refine call_tuple_list pl.isList (fun h' kp => ?_) (by simp only [List.size_toArray] <;> omega)
  have I1 : Inv X pins σ H { s with heap := h' } := I.kept (t' := s.toks) kp
  have I2 : Inv X pins σ (upd H h'.objs.size (.frz { cls := .type "tuple", data := .seq its.toArray } (.tup ys))) { s with heap := h'.push { cls := .type "tuple", data := .seq its.toArray } } :=
    I1.laid (t' := s.toks) (fun b o e => Heap.get?_push_of_some _ e) (Nat.le_refl _) (show ObjOk X.prog X.w _ _ _ (.frz _ (.tup ys)) from ⟨Heap.get?_push_size _ rfl, hz, its, r', IsTup.new _ _⟩)
  exact ⟨.ref h'.objs.size, _, I2, rfl, q _ _ (I1.hok.fresh (Nat.le_refl _)) rfl⟩
theorem opA_tupK {K : PySem.W.Frag} : OpA (rTupK K) oTupleK := by
  intro ds vs w Q Q' m rr h k
  unfold oTupleK at h
  split at h
  · next d =>
    obtain ⟨v, rfl, r⟩ := reps1 rr
    obtain ⟨xs, h1, h2⟩ := of_opt h
    obtain ⟨a, vs, rfl, e1, e2, z⟩ := asL_rep (K := K) m h1 r
    exact ⟨a, vs, rfl, e1, fun p o hp ho => k _ ⟨w.S, w.M, _⟩ _ h2 (.new hp) (m.new hp) (.kt upd_same ho (m.free hp) (e2.keep (.new hp) m) z)⟩
  · exact h.elim
theorem me_tupleK {e : Expr} {p : Pos} {t : DA} (hm : X.mg "tuple" = none) (ha : PA X [e] (lA t)) (hg : Gl X "tuple" := by rfl) (hs : starEach [e] X.env = (false, eval e X.env) :: starEach [] X.env := by rfl) : PE X (.Call (.Name "tuple" p) [e] [] pos) (lE (mCall oTupleK t)) :=
  me_callTy call_tupK opA_tupK hm ha (by decide +kernel) hg (by decide) (by decide) hs
/-- list(list), list(tuple) -/
def oList : OA := fun ds S Q => match ds with
  | [d] => opt (asQ S d) fun xs => Q (.lst xs) S
  | _ => False
theorem opA_list {K : PySem.W.Frag} : OpA (fun xs H Q => ∃ p ys, xs = [.ref p] ∧ (SqL K H p ys ∨ SqT K H p ys) ∧ ∀ l, H l = none → Q (.ref l) (upd H l (.lst ys))) oList := by
  intro ds vs w Q Q' m rr h k
  unfold oList at h
  split at h
  · next d =>
    obtain ⟨v, rfl, r⟩ := reps1 rr
    obtain ⟨xs, h1, h2⟩ := of_opt h
    obtain ⟨a, vs, rfl, e1, e2, z⟩ := asQ_rep (K := K) m h1 r
    exact ⟨a, vs, rfl, e1, fun p hp => k _ ⟨w.S, w.M, _⟩ _ h2 (.new hp) (m.new hp) (.lst upd_same (m.free hp) (e2.keep (.new hp) m) z)⟩
  · exact h.elim
theorem me_list {e : Expr} {p : Pos} {t : DA} (hm : X.mg "list" = none) (ha : PA X [e] (lA t)) (hg : Gl X "list" := by rfl) (hs : starEach [e] X.env = (false, eval e X.env) :: starEach [] X.env := by rfl) : PE X (.Call (.Name "list" p) [e] [] pos) (lE (mCall oList t)) :=
  me_callTy call_list_of opA_list hm ha (by decide +kernel) hg (by decide) (by decide) hs

theorem reps_bls {w : W} : ∀ {bs : List Bool} {vs : List V}, Reps w vs (bs.map D.bl) → vs = bs.map V.bl
  | [], _, r => by cases r; rfl
  | b :: bs, _, r => by
    cases r with
    | cons r1 r2 => cases r1; rw [reps_bls r2]; rfl
theorem reps_ints {w : W} : ∀ {bs : List Int} {vs : List V}, Reps w vs (bs.map D.int) → vs = bs.map V.int
  | [], _, r => by cases r; rfl
  | b :: bs, _, r => by
    cases r with
    | cons r1 r2 => cases r1; rw [reps_ints r2]; rfl
theorem ints_reps {w : W} : ∀ (bs : List Int), Reps w (bs.map V.int) (bs.map D.int)
  | [] => .nil
  | b :: bs => .cons (.int b) (ints_reps bs)
def oAny : OA := fun ds S Q => match ds with
  | [d] => ∃ bs : List Bool, asL S d = some (bs.map D.bl) ∧ Q (.bl (bs.any id)) S
  | _ => False
def oAll : OA := fun ds S Q => match ds with
  | [d] => ∃ bs : List Bool, asL S d = some (bs.map D.bl) ∧ Q (.bl (bs.all id)) S
  | _ => False
theorem opA_any {K : PySem.W.Frag} : OpA (rAny K) oAny := by
  intro ds vs w Q Q' m rr h k
  unfold oAny at h
  split at h
  · obtain ⟨v, rfl, r⟩ := reps1 rr
    obtain ⟨bs, h1, h2⟩ := h
    obtain ⟨a, vs, rfl, e1, e2, z⟩ := asL_rep (K := K) m h1 r
    rw [reps_bls e2] at e1
    exact ⟨a, bs, rfl, e1, k _ w _ h2 .refl m (.bl _)⟩
  · exact h.elim
theorem opA_all {K : PySem.W.Frag} : OpA (rAll K) oAll := by
  intro ds vs w Q Q' m rr h k
  unfold oAll at h
  split at h
  · obtain ⟨v, rfl, r⟩ := reps1 rr
    obtain ⟨bs, h1, h2⟩ := h
    obtain ⟨a, vs, rfl, e1, e2, z⟩ := asL_rep (K := K) m h1 r
    rw [reps_bls e2] at e1
    exact ⟨a, bs, rfl, e1, k _ w _ h2 .refl m (.bl _)⟩
  · exact h.elim
theorem me_any {e : Expr} {p : Pos} {t : DA} (hc : X.calm = true) (hm : X.mg "any" = none) (ha : PA X [e] (lA t)) (hg : Gl X "any" := by rfl) (hs : starEach [e] X.env = (false, eval e X.env) :: starEach [] X.env := by rfl) : PE X (.Call (.Name "any" p) [e] [] pos) (lE (mCall oAny t)) :=
  me_callB (cr_any hc) opA_any hm ha (by decide +kernel) hg (by decide) (by decide) hs
theorem me_all {e : Expr} {p : Pos} {t : DA} (hc : X.calm = true) (hm : X.mg "all" = none) (ha : PA X [e] (lA t)) (hg : Gl X "all" := by rfl) (hs : starEach [e] X.env = (false, eval e X.env) :: starEach [] X.env := by rfl) : PE X (.Call (.Name "all" p) [e] [] pos) (lE (mCall oAll t)) :=
  me_callB (cr_all hc) opA_all hm ha (by decide +kernel) hg (by decide) (by decide) hs

/-- sorted(list of ints): the one list that rises and has the same items -/
def oSortI : OA := fun ds S Q => match ds with
  | [d] => ∃ ns : List Int, asL S d = some (ns.map D.int) ∧ ∀ ns' : List Int, ns'.Perm ns → ns'.Pairwise (· ≤ ·) → Q (.lst (ns'.map D.int)) S
  | _ => False
theorem opA_sortI {K : PySem.W.Frag} : OpA (rSortedI K) oSortI := by
  intro ds vs w Q Q' m rr h k
  unfold oSortI at h
  split at h
  · obtain ⟨v, rfl, r⟩ := reps1 rr
    obtain ⟨ns, h1, h2⟩ := h
    obtain ⟨a, vs, rfl, e1, e2, z⟩ := asL_rep (K := K) m h1 r
    rw [reps_ints e2] at e1
    refine ⟨a, ns, rfl, e1, fun ns' p hp hs hn => k _ ⟨w.S, w.M, _⟩ _ (h2 ns' hp hs) (.new hn) (m.new hn) (.lst upd_same (m.free hn) (ints_reps ns') ?_)⟩
    rw [List.length_map] at z ⊢
    rw [hp.length_eq]; exact z
  · exact h.elim
theorem me_sortI {e : Expr} {p : Pos} {t : DA} (hm : X.mg "sorted" = none) (ha : PA X [e] (lA t)) (hg : Gl X "sorted" := by rfl) (hs : starEach [e] X.env = (false, eval e X.env) :: starEach [] X.env := by rfl) : PE X (.Call (.Name "sorted" p) [e] [] pos) (lE (mCall oSortI t)) :=
  me_callB cr_sortedI opA_sortI hm ha (by decide +kernel) hg (by decide) (by decide) hs

/-! ### methods of lists and tuples -/
abbrev OM := D → List D → Mem → WK → Prop
abbrev mMeth (o : OM) (te : DE) (t : DA) : DE := fun r S Q => te r S fun d S1 => t r S1 fun ds S2 => o d ds S2 Q
/-- x.append(y) -/
def isLst (S : Mem) : D → Prop := fun d => match d with
  | .obj a => match S a with
    | some (.lst _) => True
    | _ => False
  | _ => False
abbrev mAppend (te : DE) (t : DA) : DE := fun r S Q => te r S fun d S1 => isLst S1 d ∧ t r S1 fun ds S2 => match d, ds with
  | .obj a, [y] => ∃ xs, S2 a = some (.lst xs) ∧ xs.length < sizeLine ∧ Q .non (up S2 a (.lst (xs ++ [y])))
  | _, _ => False
theorem me_append {o e : Expr} {apos : Pos} {to : DE} {t : DA} (ho : PE X o (lE to)) (ha : PA X [e] (lA t)) (hbase : attributeBase o "append" X.env (eval o X.env) = eval o X.env := by rfl)
    (hfew : ((backTo pos (starEach [e] X.env)).all (fun x => !x.1) && (backToKw pos (keywordEach [] X.env)).all (fun x => x.1.isSome) && decide ([e].length + ([] : List Keyword).length + (if ([] : List Keyword).isEmpty then 0 else 1) < 30)) = true := by rfl)
    (hline : (apos.endLine == pos.line) = true := by rfl) (hs : starEach [e] X.env = (false, eval e X.env) :: starEach [] X.env := by rfl) (hpl : (backTo pos (starEach [] X.env)).any (·.1) = false := by rfl) : PE X (.Call (.Attribute o "append" apos) [e] [] pos) (lE (mAppend to t)) :=
  (pe_bm PySem.F.plainAttrs_list PySem.F.slot_list_append PySem.F.type_list_append mt_append ho ha hbase hfew hline hs hpl).mi fun s H Q ⟨r, S, M, Q', R, t, k⟩ => ⟨r, S, M, _, R, t, fun d w1 v q k1 m1 r1 => by
    obtain ⟨hd, q⟩ := q
    cases d with
    | obj a =>
      cases r1
      refine ⟨?_, r, w1.S, w1.M, _, R.keep k1 m1, q, fun ds w2 vs q2 k2 m2 r2 => ?_⟩
      · unfold isLst at hd
        dsimp only at hd
        split at hd
        · next xs e =>
          obtain ⟨vs, e1, _, _⟩ := m1.lst e
          exact .inl ⟨rfl, vs, .inl (.inl e1)⟩
        · exact hd.elim
      · split at q2
        · next a y eq =>
          cases eq
          obtain ⟨xs, h1, h2, h3⟩ := q2
          obtain ⟨vy, rfl, ry⟩ := reps1 r2
          obtain ⟨vs, e1, e2, z⟩ := m2.lst h1
          have hl := e2.length
          refine ⟨a, vs, vy, rfl, rfl, e1, by omega, k _ ⟨up w2.S a (.lst (xs ++ [y])), up w2.M a (.lst (xs ++ [y])), _⟩ _ h3 ((k1.trans k2).trans (.write h1)) (m2.write h1 (.lst (e2.append (.cons ry .nil)) ?_)) .non⟩
          rw [List.length_append, List.length_singleton]; omega
        · exact q2.elim
    | _ => exact hd.elim⟩
end
end ML

set_option maxRecDepth 100000
/-! ML6: what is walked, while, more statements, calls of defs, a def's promise. -/
namespace ML
open PySem PySem.Spec PyProof.Rows L2

/-! ### what is walked -/
/-- a list, a tuple, a text -/
def iSeq (K : PySem.W.Frag) (tl : TE) : TI := fun s H R => tl s H fun x H1 => (∃ a, x = .ref a ∧ (∃ xs, SqL K H1 a xs) ∧ R (Itl K a) H1) ∨ (∃ a, x = .ref a ∧ (∃ xs, SqT K H1 a xs) ∧ R (Itt K a) H1) ∨ ∃ z, x = .str z ∧ R (Its z) H1
section
variable {X : Cx} {tg : Expr}
theorem pi_seq {l : Expr} {tl : TE} (hl : PE X l tl) : PI X tg l (iSeq X.K tl) := by
  refine ⟨fun pins s0 sg H R I h => thn (hl.run pins s0 sg H _ I h) fun v s1 ⟨x, H1, I1, r1, q1⟩ => ?_⟩
  rcases q1 with ⟨a, ex, ⟨xs, hq⟩, q⟩ | ⟨a, ex, ⟨xs, hq⟩, q⟩ | ⟨z, ex, q⟩
  · subst ex; cases r1
    obtain ⟨_, _, pl, _⟩ := I1.list hq
    exact wpAny_pyIter_list pl.isList (pi_one (tk := s1.toks) I1 _ (turn_list a _) ⟨_, Heap.get?_push_size _ rfl, rfl, rfl⟩ q)
  · subst ex; cases r1
    obtain ⟨its, _, pl, _⟩ := I1.tuple hq
    exact wpAny_pyIter_tuple (show s1.heap.IsTuple a its.toArray from pl) (pi_one (tk := s1.toks) I1 _ (turn_tuple a _) ⟨_, Heap.get?_push_size _ rfl, rfl, rfl⟩ q)
  · subst ex
    obtain ⟨t, rfl⟩ := r1
    cases hz : z.cps.all (· < 128)
    · exact wpAny_pyIter_wide hz (pi_one (tk := s1.toks) I1 _ (turn_str _ z t "str_iterator" (.inr rfl)) ⟨_, Heap.get?_push_size _ rfl, rfl, rfl⟩ q)
    · exact wpAny_pyIter_ascii hz (pi_one (tk := s1.toks) I1 _ (turn_str _ z t "str_ascii_iterator" (.inl rfl)) ⟨_, Heap.get?_push_size _ rfl, rfl, rfl⟩ q)
end
/-- a text's signs -/
def signs (z : Str) : List D := z.cps.toList.map fun c => D.str ⟨#[c]⟩
abbrev wSeq (te : DE) : DI := fun r S R => te r S fun d S1 => match d with
  | .tup xs => R xs none S1
  | .kt xs => R xs none S1
  | .lst xs => R xs none S1
  | .fls xs => R xs none S1
  | .str z => z.length ≤ sizeLine ∧ R (signs z) none S1
  | .obj a => match S1 a with
    | some (.lst xs) => R xs (some (a, .lst xs)) S1
    | _ => False
  | _ => False
section
variable {X : Cx} {tg : Expr}
/-- facts about a walk of a list in data -/
theorem wk_list' {K : PySem.W.Frag} {w : W} {a : Addr} {xs : List D} {ck : CK} (hr : ∀ w', Keeps w w' → Ok w' → ckOk ck w'.S → ∃ vs, Rd w'.H a (.lst vs) ∧ Reps w' vs xs) (hz : xs.length ≤ sizeLine) : Wk (Itl K a) xs ck w := by
  refine ⟨fun i w' d kk m c e => ?_, fun i w' kk m c e => ?_, hz⟩
  · obtain ⟨vs, h1, h2⟩ := hr w' kk m c
    obtain ⟨v, e1, e2⟩ := h2.get e
    refine ⟨⟨vs, v, .inl h1, e1⟩, fun x H' ⟨eH, y⟩ => ?_⟩
    subst eH
    have := y vs (.inl h1)
    rw [e1] at this; cases this
    exact ⟨.refl, m, e2⟩
  · obtain ⟨vs, h1, h2⟩ := hr w' kk m c
    exact ⟨vs, .inl h1, by rw [h2.length]; exact e⟩
theorem wk_tup {K : PySem.W.Frag} {w : W} {a : Addr} {xs : List D} (hr : ∀ w', Keeps w w' → ∃ vs, Rd w'.H a (.tup vs) ∧ Reps w' vs xs) (hz : xs.length ≤ sizeLine) : Wk (Itt K a) xs none w := by
  refine ⟨fun i w' d kk m c e => ?_, fun i w' kk m c e => ?_, hz⟩
  · obtain ⟨vs, h1, h2⟩ := hr w' kk
    obtain ⟨v, e1, e2⟩ := h2.get e
    refine ⟨⟨vs, v, .inl h1, e1⟩, fun x H' ⟨eH, y⟩ => ?_⟩
    subst eH
    have := y vs (.inl h1)
    rw [e1] at this; cases this
    exact ⟨.refl, m, e2⟩
  · obtain ⟨vs, h1, h2⟩ := hr w' kk
    exact ⟨vs, .inl h1, by rw [h2.length]; exact e⟩
theorem wk_str {w : W} {z : Str} (hz : z.length ≤ sizeLine) : Wk (Its z) (signs z) none w := by
  refine ⟨fun i w' d kk m c e => ?_, fun i w' kk m c e => ?_, ?_⟩
  · unfold signs at e
    rw [List.getElem?_map] at e
    obtain ⟨ch, h1, h2⟩ := Option.map_eq_some_iff.mp e
    subst h2
    have hi : i < z.cps.size := by
      have := (List.getElem?_eq_some_iff.mp h1).1
      simpa using this
    refine ⟨hi, fun x H' ⟨eH, c', hc, ex⟩ => ?_⟩
    subst eH; subst ex
    have : c' = ch := by
      rw [Array.getElem?_toList] at h1
      rw [hc] at h1; exact Option.some.inj h1
    subst this
    exact ⟨.refl, m, .str _⟩
  · unfold signs at e
    rw [List.length_map] at e
    show z.cps.size ≤ i
    simpa using e
  · unfold signs
    rw [List.length_map, Array.length_toList]
    exact hz
theorem mi_seq {l : Expr} {te : DE} (hl : PE X l (lE te)) : PI X tg l (lI (wSeq te)) := (pi_seq hl).mi fun s H Rr ⟨r, S, M, R', R, t, k⟩ => ⟨r, S, M, _, R, t, fun d w1 v q k1 m1 r1 => by
  cases r1 with
  | @tup a vs ds e n rr z => exact .inr (.inl ⟨a, rfl, ⟨_, .inl (.inl e)⟩, k _ _ w1 _ q k1 m1 (wk_tup (fun w' kk => ⟨vs, .inl (kk _ _ e n).1, rr.keeps kk⟩) z)⟩)
  | @kt a o vs ds e _ n rr z => exact .inr (.inl ⟨a, rfl, ⟨_, .inl (.inr ⟨_, e⟩)⟩, k _ _ w1 _ q k1 m1 (wk_tup (fun w' kk => ⟨vs, .inr ⟨_, (kk _ _ e n).1⟩, rr.keeps kk⟩) z)⟩)
  | @lst a vs ds e n rr z => exact .inl ⟨a, rfl, ⟨_, .inl (.inl e)⟩, k _ _ w1 _ q k1 m1 (wk_list' (fun w' kk _ _ => ⟨vs, .inl (kk _ _ e n).1, rr.keeps kk⟩) z)⟩
  | @fls a o vs ds e n rr z => exact .inl ⟨a, rfl, ⟨_, .inl (.inr ⟨_, e⟩)⟩, k _ _ w1 _ q k1 m1 (wk_list' (fun w' kk _ _ => ⟨vs, .inr ⟨_, (kk _ _ e n).1⟩, rr.keeps kk⟩) z)⟩
  | str z => exact .inr (.inr ⟨z, rfl, k _ _ w1 _ q.2 k1 m1 (wk_str q.1)⟩)
  | obj a =>
    dsimp only at q
    split at q
    · next xs e =>
      obtain ⟨vs, e1, e2, z⟩ := m1.lst e
      exact .inl ⟨a, rfl, ⟨vs, .inl (.inl e1)⟩, k _ _ w1 _ q k1 m1 (wk_list' (ck := some (a, .lst xs)) (fun w' kk m' c => by
        obtain ⟨vs', f1, f2, _⟩ := m'.lst c
        exact ⟨vs', .inl f1, f2⟩) z)⟩
    · exact q.elim
  | _ => exact False.elim q⟩

/-- range(n), range(a, b), range(a, b, -1) -/
def intsD (lo : Int) (n : Nat) : List D := (List.range n).map fun i => D.int (lo + (i : Nat))
theorem wk_rng {w : W} {lo : Int} {n : Nat} (hz : n ≤ sizeLine) : Wk (Itr lo n) (intsD lo n) none w := by
  refine ⟨fun i w' d kk m c e => ?_, fun i w' kk m c e => ?_, by unfold intsD; rw [List.length_map, List.length_range]; exact hz⟩
  · unfold intsD at e
    rw [List.getElem?_map] at e
    obtain ⟨j, h1, h2⟩ := Option.map_eq_some_iff.mp e
    subst h2
    obtain ⟨hi, ej⟩ := List.getElem?_eq_some_iff.mp h1
    rw [List.length_range] at hi
    rw [List.getElem_range] at ej
    subst ej
    exact ⟨hi, fun x H' ⟨eH, ex⟩ => by subst eH; subst ex; exact ⟨.refl, m, .int _⟩⟩
  · unfold intsD at e
    rw [List.length_map, List.length_range] at e
    exact e
abbrev wRng1 (t : DA) : DI := fun r S R => t r S fun ds S1 => match ds with
  | [.int j] => (-16777216 ≤ j ∧ j ≤ 16777216) ∧ R (intsD 0 j.toNat) none S1
  | _ => False
abbrev wRng2 (t : DA) : DI := fun r S R => t r S fun ds S1 => match ds with
  | [.int i, .int j] => (-16777216 ≤ i ∧ i ≤ 16777216 ∧ -16777216 ≤ j ∧ j - i ≤ 16777216) ∧ R (intsD i (j - i).toNat) none S1
  | _ => False
theorem mi_rng1 {e : Expr} {p pos : Pos} {t : DA} (hm : X.mg "range" = none) (ha : PA X [e] (lA t)) (hg : Gl X "range" := by rfl) (hs : starEach [e] X.env = [(false, eval e X.env)] := by rfl) : PI X tg (.Call (.Name "range" p) [e] [] pos) (lI (wRng1 t)) :=
  (pi_range1 hg hm ha hs).mi fun s H Rr ⟨r, S, M, R', R, t, k⟩ => ⟨r, S, M, _, R, t, fun ds w1 vs q k1 m1 r1 => by
    have hl := sizeLine_eq
    split at q
    · next j =>
      obtain ⟨v, rfl, rv⟩ := reps1 r1
      cases rv
      exact ⟨j, rfl, by have := q.1; omega, by have := q.1; omega, k _ _ w1 _ q.2 k1 m1 (wk_rng (by have := q.1; omega))⟩
    · exact q.elim⟩
theorem mi_rng2 {e f : Expr} {p pos : Pos} {t : DA} (hm : X.mg "range" = none) (ha : PA X [e, f] (lA t)) (hg : Gl X "range" := by rfl) (hs : starEach [e, f] X.env = [(false, eval e X.env), (false, eval f X.env)] := by rfl) (hs2 : starEach [f] X.env = [(false, eval f X.env)] := by rfl) : PI X tg (.Call (.Name "range" p) [e, f] [] pos) (lI (wRng2 t)) :=
  (pi_range2 hg hm ha hs hs2).mi fun s H Rr ⟨r, S, M, R', R, t, k⟩ => ⟨r, S, M, _, R, t, fun ds w1 vs q k1 m1 r1 => by
    have hl := sizeLine_eq
    split at q
    · next i j =>
      obtain ⟨v, u, rfl, rv, ru⟩ := reps2 r1
      cases rv; cases ru
      have := q.1
      exact ⟨i, j, rfl, by omega, k _ _ w1 _ q.2 k1 m1 (wk_rng (by omega))⟩
    · exact q.elim⟩
/-- zip of two lists or of two tuples, into a target of several names -/
def zipD (xs ys : List D) : List D := (xs.zip ys).map fun p => D.tup [p.1, p.2]
abbrev wZip (t : DA) : DI := fun r S R => t r S fun ds S1 => match ds with
  | [.lst xs, .lst ys] => R (zipD xs ys) none S1
  | [x, y] => opt (asT x) fun xs => opt (asT y) fun ys => R (zipD xs ys) none S1
  | _ => False
theorem zipD_get {xs ys : List D} {i : Nat} {d : D} (h : (zipD xs ys)[i]? = some d) : ∃ x y, xs[i]? = some x ∧ ys[i]? = some y ∧ d = .tup [x, y] := by
  unfold zipD at h
  rw [List.getElem?_map] at h
  obtain ⟨p, h1, h2⟩ := Option.map_eq_some_iff.mp h
  rw [List.getElem?_zip_eq_some] at h1
  exact ⟨p.1, p.2, h1.1, h1.2, h2.symm⟩
theorem wk_zip {K : PySem.W.Frag} {w : W} {a b : Addr} {vs us : List V} {xs ys : List D} (h1 : w.H a = some (.lst vs)) (n1 : w.M a = none) (r1 : Reps w vs xs) (z1 : xs.length ≤ sizeLine) (h2 : w.H b = some (.lst us)) (n2 : w.M b = none) (r2 : Reps w us ys) : Wk (Itz K a b) (zipD xs ys) none w := by
  refine ⟨fun i w' d kk m c e => ?_, fun i w' kk m c e => ?_, ?_⟩
  · obtain ⟨x, y, ex, ey, ed⟩ := zipD_get e
    subst ed
    obtain ⟨v, e1, e2⟩ := (r1.keeps kk).get ex
    obtain ⟨u, f1, f2⟩ := (r2.keeps kk).get ey
    have q1 : SqL K w'.H a vs := .inl (.inl (kk _ _ h1 n1).1)
    have q2 : SqL K w'.H b us := .inl (.inl (kk _ _ h2 n2).1)
    refine ⟨⟨vs, us, v, u, q1, q2, e1, f1⟩, fun X' H' ⟨T, v', u', eX, nT, eH, g1, g2⟩ => ?_⟩
    have ev : v' = v := Option.some.inj ((g1 vs q1).symm.trans e1)
    have eu : u' = u := Option.some.inj ((g2 us q2).symm.trans f1)
    subst eX; subst eH; subst ev; subst eu
    exact ⟨.new nT, m.new nT, .tup upd_same (m.free nT) (.cons (e2.keep (.new nT) m) (.cons (f2.keep (.new nT) m) .nil)) (by show 2 ≤ sizeLine; decide)⟩
  · refine ⟨vs, us, .inl (.inl (kk _ _ h1 n1).1), .inl (.inl (kk _ _ h2 n2).1), ?_⟩
    unfold zipD at e
    rw [List.length_map, List.length_zip] at e
    have l1 := r1.length
    have l2 := r2.length
    omega
  · unfold zipD
    rw [List.length_map, List.length_zip]
    omega
theorem wk_zipT {K : PySem.W.Frag} {w : W} {a b : Addr} {vs us : List V} {xs ys : List D} (h1 : ∀ w', Keeps w w' → SqT K w'.H a vs) (r1 : Reps w vs xs) (z1 : xs.length ≤ sizeLine) (h2 : ∀ w', Keeps w w' → SqT K w'.H b us) (r2 : Reps w us ys) : Wk (RZ.ItzT K a b) (zipD xs ys) none w := by
  refine ⟨fun i w' d kk m c e => ?_, fun i w' kk m c e => ?_, ?_⟩
  · obtain ⟨x, y, ex, ey, ed⟩ := zipD_get e
    subst ed
    obtain ⟨v, e1, e2⟩ := (r1.keeps kk).get ex
    obtain ⟨u, f1, f2⟩ := (r2.keeps kk).get ey
    refine ⟨⟨vs, us, v, u, h1 w' kk, h2 w' kk, e1, f1⟩, fun X' H' ⟨T, v', u', eX, nT, eH, g1, g2⟩ => ?_⟩
    have ev : v' = v := Option.some.inj ((g1 vs (h1 w' kk)).symm.trans e1)
    have eu : u' = u := Option.some.inj ((g2 us (h2 w' kk)).symm.trans f1)
    subst eX; subst eH; subst ev; subst eu
    exact ⟨.new nT, m.new nT, .tup upd_same (m.free nT) (.cons (e2.keep (.new nT) m) (.cons (f2.keep (.new nT) m) .nil)) (by show 2 ≤ sizeLine; decide)⟩
  · refine ⟨vs, us, h1 w' kk, h2 w' kk, ?_⟩
    unfold zipD at e
    rw [List.length_map, List.length_zip] at e
    have l1 := r1.length
    have l2 := r2.length
    omega
  · unfold zipD
    rw [List.length_map, List.length_zip]
    omega
theorem asT_repK {K : PySem.W.Frag} {w : W} {d : D} {xs : List D} {v : V} (h : asT d = some xs) (r : Rep w v d) : ∃ a vs, v = .ref a ∧ (∀ w', Keeps w w' → SqT K w'.H a vs) ∧ Reps w vs xs ∧ xs.length ≤ sizeLine := by
  cases d with
  | tup ys => cases h; cases r with | tup h n r z => exact ⟨_, _, rfl, fun w' kk => .inl (.inl (kk _ _ h n).1), r, z⟩
  | kt ys => cases h; cases r with | kt h e n r z => exact ⟨_, _, rfl, fun w' kk => .inl (.inr ⟨_, (kk _ _ h n).1⟩), r, z⟩
  | _ => cases h
theorem mi_zip {e e2 : Expr} {t : DA} {p pos tpos : Pos} {elts : List Expr} {kk : Nat} (hm : X.mg "zip" = none) (ha : PA X [e, e2] (lA t)) (hg : Gl X "zip" := by rfl)
    (hs : starEach [e, e2] X.env = (false, eval e X.env) :: starEach [e2] X.env := by rfl) (hpl : (backTo pos (starEach [e2] X.env)).any (·.1) = false := by rfl) :
    PI X (.Tuple elts kk tpos) (.Call (.Name "zip" p) [e, e2] [] pos) (lI (wZip t)) :=
  (RZ.pi_zipA hg hm ha hs hpl).mi fun s H Rr ⟨r, S, M, R', R, t, k⟩ => ⟨r, S, M, _, R, t, fun ds w1 vs q k1 m1 r1 => by
    unfold wZip at t
    split at q
    · next xs ys =>
      obtain ⟨v, u, rfl, rv, ru⟩ := reps2 r1
      cases rv with
      | @lst a vs _ ea na ra za =>
        cases ru with
        | @lst b us _ eb nb rb zb => exact ⟨a, b, vs, us, rfl, .inl ⟨.inl (.inl ea), .inl (.inl eb), k _ _ w1 _ q k1 m1 (wk_zip ea na ra za eb nb rb)⟩⟩
    · next x y _ =>
      obtain ⟨v, u, rfl, rv, ru⟩ := reps2 r1
      obtain ⟨xs, hx, q⟩ := of_opt q
      obtain ⟨ys, hy, q⟩ := of_opt q
      obtain ⟨a, vs, rfl, ha, ra, za⟩ := asT_repK (K := X.K) hx rv
      obtain ⟨b, us, rfl, hb, rb, zb⟩ := asT_repK (K := X.K) hy ru
      exact ⟨a, b, vs, us, rfl, .inr ⟨ha w1 (fun _ _ h n => ⟨h, n⟩), hb w1 (fun _ _ h n => ⟨h, n⟩), k _ _ w1 _ q k1 m1 (wk_zipT ha ra za hb rb)⟩⟩
    · exact q.elim⟩

/-! ### while -/
def whileL0 (c : DT) (b : DS) (N : Nd) : Nat → En → Mem → Prop
  | 0, _, _ => False
  | n + 1, r, S => c r S fun t S1 => match t with
    | true => b { N with nx := whileL0 c b N n, ct := whileL0 c b N n, bk := N.nx } r S1
    | false => N.nx r S1
@[irreducible] def whileL (c : DT) (b : DS) (N : Nd) (n : Nat) : En → Mem → Prop := whileL0 c b N n
theorem whileL_is (c : DT) (b : DS) (N : Nd) (n : Nat) : whileL c b N n = whileL0 c b N n := by unfold whileL; rfl
theorem whileL_zero {c : DT} {b : DS} {N : Nd} {r : En} {S : Mem} : whileL c b N 0 r S = False := by rw [whileL_is]; rfl
theorem whileL_succ {c : DT} {b : DS} {N : Nd} {n : Nat} {r : En} {S : Mem} : whileL c b N (n + 1) r S = c r S fun t S1 => match t with
    | true => b { N with nx := whileL c b N n, ct := whileL c b N n, bk := N.nx } r S1
    | false => N.nx r S1 := by rw [whileL_is, whileL_is]; rfl
abbrev mWhile (c : DT) (b : DS) : DS := fun N r S => ∃ n, whileL c b N n r S
theorem ms_while {Wn : NX} {c : Expr} {body : List Stmt} {tc : DT} {tb : DS} {pos : Pos} (hp : PassesOwn (model X.prog X.w) X.A X.env X.xe) (hc : PT X c (lT tc)) (hb : PSs X body (lSx Wn tb)) : PS X (.While c body [] pos) (lSx Wn (mWhile tc tb)) :=
  (ps_while hp hc hb).mi fun N s H ⟨r, S, M, N', R, ⟨n, h⟩, f⟩ => by
    refine ⟨fun m s2 H2 => ∃ r2 S2 M2, Rel r2 ⟨S2, M2, H2⟩ s2 ∧ Step ⟨S, M, H⟩ ⟨S2, M2, H2⟩ ∧ whileL tc tb N' m r2 S2, ⟨n, r, S, M, R, .refl, h⟩, ?_⟩
    rintro m s2 H2 ⟨r2, S2, M2, R2, k2, q2⟩
    cases m with
    | zero => rw [whileL_zero] at q2; exact q2.elim
    | succ m =>
      rw [whileL_succ] at q2
      refine ⟨r2, S2, M2, _, R2, q2, fun b w3 q3 k3 m3 => ?_⟩
      cases b with
      | true =>
        rw [if_pos rfl]
        refine ⟨fun s4 H4 => ∃ r4 S4 M4, Rel r4 ⟨S4, M4, H4⟩ s4 ∧ Step ⟨S, M, H⟩ ⟨S4, M4, H4⟩ ∧ whileL tc tb N' m r4 S4, fun s4 H4 h4 => ⟨m, Nat.lt_succ_self m, h4⟩, r2, w3.S, w3.M, _, R2.keep k3 m3, q3, ?_⟩
        have kk := k2.trans k3
        exact ⟨fun r' w' s' a b c => ⟨r', w'.S, w'.M, b, kk.trans c, a⟩, fun d w' v a b c e => f.rt d w' v a (kk.trans b) c e, fun r' w' s' a b c => f.nx r' w' s' a b (kk.trans c), fun r' w' s' a b c => ⟨r', w'.S, w'.M, b, kk.trans c, a⟩, fun x r' w' s' a b c => f.xc x r' w' s' a b (kk.trans c)⟩
      | false =>
        rw [if_neg Bool.false_ne_true]
        exact f.nx r2 w3 s2 q3 (R2.keep k3 m3) (k2.trans k3)

/-! ### name = [..] -/
theorem ms_setLc {Wn : NX} {i : Nat} {y : Str} {py : Pos} {elt iter : Expr} {ifs : List Expr} {scope : Scope} {own : List (Str × Nat)} {pos spos : Pos} {wi : DI} {g : DG} {is : List Nat} {tt : DT} {te : DE} (hc : X.calm = true) (hN : X.N.Nodup) (hy : X.N[i]? = some y) (hyl : X.env.scope.names.lookup y = some .local)
    (hk : X.env.scope.kind = .function) (hl : (py.line == pos.line) = true) (hn : (scope.names.any fun (n, k) => n == y && (k == .local || k == .cell)) = false) (hi : PI X tg iter (lI wi)) (ok : BlkOk X.N X.env.scope scope own)
    (hg : ∀ (s : Shared) (H : Hp) (C : Addr) (cl : List (Str × Addr)) (fp : List Addr), PG (X.blk s H scope (compEnvC scope cl C X.env) fp) tg (lG is g)) (ht : ∀ (s : Shared) (H : Hp) (C : Addr) (cl : List (Str × Addr)) (fp : List Addr), PTs (X.blk s H scope (compEnvC scope cl C X.env) fp) ifs (lT tt))
    (he : ∀ (s : Shared) (H : Hp) (C : Addr) (cl : List (Str × Addr)) (fp : List Addr), PE (X.blk s H scope (compEnvC scope cl C X.env) fp) elt (lE te)) (hiv : ∀ i ∈ is, i ∈ own.map (·.2) := by decide) (hs : ∀ x, foldedSetIterable iter X.env x = pure x := by intro _; rfl) :
    PS X (.Assign [.Name y py] (.ListComp elt [⟨tg, iter, ifs, 0⟩] scope pos) spos) (lSx Wn (mSet i (mLc wi (own.map (·.2)) g tt te))) :=
  (ps_setLc hc hN hy hyl (sw_true hk hyl hl hn) hi ok hg ht he hs).mi fun N s H ⟨r, S, M, N', R, h, f⟩ => lc_imp hiv s H _ ⟨r, S, M, _, R, h, fun d w1 v q k m rr => f.nx _ w1 _ q ((R.keep k m).set rr) k⟩
end

/-! ### defs: what they promise, how they are called -/
/-- a def's promise in data -/
abbrev DSp := List D → Mem → WK → Prop
def lSp (f : DSp) : Sp := fun vs H Q _ => ∃ S M ds Q', Ok ⟨S, M, H⟩ ∧ Reps ⟨S, M, H⟩ vs ds ∧ f ds S Q' ∧ Then ⟨S, M, H⟩ Q' Q
/-- the def named x keeps its promise, by at most level k -/
structure Cal (P : Program) (w : World) (K : PySem.W.Frag) (mg : Str → Option Value) (base : Heap) (x : Str) (k : Nat) (f : DSp) : Prop where
  ex : ∃ (a : Addr) (fd : FuncData) (ps : List Str), FnOk P w K mg base CX0 k a fd ps (lSp f) ∧ mg x = some (.ref a) ∧ PySem.W.keepIn K (.ref a) = true ∧ Binds K fd ps []
theorem Cal.mono {P : Program} {w : World} {K : PySem.W.Frag} {mg : Str → Option Value} {base : Heap} {x : Str} {j k : Nat} {f : DSp} (c : Cal P w K mg base x j f) (h : j ≤ k) : Cal P w K mg base x k f :=
  let ⟨a, fd, ps, h1, h2, h3, h4⟩ := c.ex
  ⟨a, fd, ps, h1.mono h, h2, h3, h4⟩
theorem Cal.imp {P : Program} {w : World} {K : PySem.W.Frag} {mg : Str → Option Value} {base : Heap} {x : Str} {k : Nat} {f g : DSp} (c : Cal P w K mg base x k f) (h : ∀ ds S Q, g ds S Q → f ds S Q) : Cal P w K mg base x k g :=
  let ⟨a, fd, ps, h1, h2, h3, h4⟩ := c.ex
  ⟨a, fd, ps, h1.imp fun _ _ _ _ ⟨S, M, ds, Q', o, r, q, t⟩ => ⟨S, M, ds, Q', o, r, h _ _ _ q, t⟩, h2, h3, h4⟩
section
variable {X : Cx}
theorem me_call {x : Str} {p pos : Pos} {e : Expr} {es : List Expr} {t : DA} {k n : Nat} {f : DSp} (c : Cal X.prog X.w X.K X.mg X.base x k f) (hr : Room n X.A) (ha : PA X (e :: es) (lA t)) (hk : k ≤ n := by omega) (hg : Gl X x := by rfl)
    (hdb : (x == ("__debug__" : Str)) = false := by decide) (he : starEach (e :: es) X.env = (false, eval e X.env) :: starEach es X.env := by rfl) (hpl : (backTo pos (starEach es X.env)).any (·.1) = false := by rfl) :
    PE X (.Call (.Name x p) (e :: es) [] pos) (lE (mCall f t)) := by
  obtain ⟨a, fd, ps, h1, h2, h3, h4⟩ := c.ex
  refine (pe_call h1 (hr.mono hk) hg h2 h3 h4 .nil pass0 ha hdb he hpl).mi fun s H Q ⟨r, S, M, Q', R, t, k⟩ => ⟨r, S, M, _, R, t, fun ds w1 vs q k1 m1 r1 => ?_⟩
  show lSp f (vs ++ []) w1.H Q E0
  rw [List.append_nil]
  exact ⟨w1.S, w1.M, ds, Q', m1, r1, q, Then.after k k1⟩
end
/-- the slots at a def's begin -/
abbrev startD (n : Nat) (ds : List D) : En := ds.map some ++ List.replicate (n - ds.length) none
theorem reps_start {w : W} {N : List Str} {vs : List V} {ds : List D} (m : Ok w) (r : Reps w vs ds) : Rel (startD N.length ds) w (L2.start N vs) := by
  have hl := r.length
  refine ⟨m, by unfold startD L2.start; simp [hl], fun i d h => ?_⟩
  unfold startD at h
  by_cases hi : i < ds.length
  · rw [List.getElem?_append_left (by simpa using hi), List.getElem?_map] at h
    obtain ⟨d', h1, h2⟩ := Option.map_eq_some_iff.mp h
    cases h2
    obtain ⟨v, e1, e2⟩ := r.get h1
    refine ⟨v, ?_, e2⟩
    unfold L2.start
    rw [List.getElem?_append_left (by rw [List.length_map]; omega), List.getElem?_map, e1]
    rfl
  · rw [List.getElem?_append_right (by simpa using hi), List.getElem?_replicate] at h
    split at h <;> cases h
/-- what may be forgotten or taken as data at a def's end -/
def Shift (S : Mem) (d : D) (S' : Mem) (d' : D) : Prop := ∀ (M : Mem) (H : Hp) (v : V), Ok ⟨S, M, H⟩ → Rep ⟨S, M, H⟩ v d → ∃ M', Ok ⟨S', M', H⟩ ∧ Rep ⟨S', M', H⟩ v d' ∧ ∀ a, (S a = none → S' a = none ∧ M' a = M a)
theorem Shift.refl {S : Mem} {d : D} : Shift S d S d := fun M _ _ o r => ⟨M, o, r, fun _ h => ⟨h, rfl⟩⟩
/-- a list that changed is now data -/
theorem Shift.freeze {S : Mem} {p : Addr} {xs : List D} (h : S p = some (.lst xs)) : Shift S (.obj p) (rid S p) (.lst xs) := fun M H v o r => by
  cases r
  have kk : Keeps ⟨S, M, H⟩ ⟨rid S p, rid M p, H⟩ := fun a u ha na => ⟨ha, by
    by_cases e : a = p
    · subst e; exact rid_same
    · exact (rid_ne e).trans na⟩
  obtain ⟨vs, e1, e2, z⟩ := o.lst h
  refine ⟨rid M p, ⟨fun a u ha => ?_, fun a u ha => ?_⟩, .lst e1 rid_same (e2.keeps kk) z, fun a ha => ?_⟩
  · have ne : a ≠ p := fun e => by subst e; exact nomatch (show none = some u from rid_same (S := S) ▸ ha)
    exact (rid_ne ne).trans (o.sub a u ((rid_ne ne).symm.trans ha))
  · have ne : a ≠ p := fun e => by subst e; exact nomatch (show none = some u from rid_same (S := M) ▸ ha)
    obtain ⟨ho, hu, ro⟩ := o.mem a u ((rid_ne ne).symm.trans ha)
    exact ⟨ho, hu, ro.keeps kk⟩
  · have ne : a ≠ p := fun e => by subst e; rw [h] at ha; cases ha
    exact ⟨(rid_ne ne).trans ha, rid_ne ne⟩
theorem drop_keeps (S : Mem) (p : Addr) (M : Mem) (H : Hp) : Keeps ⟨S, M, H⟩ ⟨rid S p, M, H⟩ := fun _ _ h n => ⟨h, n⟩
/-- an object that is needed no more -/
theorem Shift.drop {S : Mem} {p : Addr} {d : D} : Shift S d (rid S p) d := fun M H v o r =>
  ⟨M, ⟨fun a u ha => by
    by_cases e : a = p
    · subst e; exact nomatch (show none = some u from rid_same (S := S) ▸ ha)
    · exact o.sub a u ((rid_ne e).symm.trans ha), fun a u ha => by
      obtain ⟨ho, hu, ro⟩ := o.mem a u ha
      exact ⟨ho, hu, ro.keeps (drop_keeps S p M H)⟩⟩, r.keeps (drop_keeps S p M H), fun a ha => ⟨by
    by_cases e : a = p
    · subst e; exact rid_same
    · exact (rid_ne e).trans ha, rfl⟩⟩
theorem Shift.trans {S S1 S2 : Mem} {d d1 d2 : D} (a : Shift S d S1 d1) (b : Shift S1 d1 S2 d2) : Shift S d S2 d2 := fun M H v o r => by
  obtain ⟨M1, o1, r1, k1⟩ := a M H v o r
  obtain ⟨M2, o2, r2, k2⟩ := b M1 H v o1 r1
  exact ⟨M2, o2, r2, fun c h => let ⟨x1, x2⟩ := k1 c h; let ⟨y1, y2⟩ := k2 c x1; ⟨y1, y2.trans x2⟩⟩

section
variable {P : Program} {w : World} {K : PySem.W.Frag} {mg : Str → Option Value} {base : Heap}
/-- what is asked of a def's body -/
abbrev endD (Q : WK) : Nd := { nx := fun _ S' => Q .non S', rt := fun d S' => ∃ S'' d', Shift S' d S'' d' ∧ Q d' S'' }
/-- THE RULE for a def -/
theorem def_ok {x qual : Str} {st : Stmt} {a : Addr} {fd : FuncData} {N ps : List Str} {k : Nat} {f : DSp} (F : Fun K x qual st a fd) (hm : mg x = some (.ref a)) (hb : Binds K fd ps []) (Sc : FnScope N ps (defScope st)) (t : DS) (len : ∀ ds S Q, f ds S Q → ds.length = ps.length)
    (der : ∀ (cdv : Value) (A : Around) (outer : List Env) (s : Shared) (H : Hp) (E : XK), Room k (A.deeper (envOfC qual (defScope st) s.heap.objs.size a cdv)) → PSs (cxOf CX0 P w K mg base N qual (defScope st) a cdv A outer s H E).nox (defBody st) (lS t))
    (sem : ∀ ds S Q, f ds S Q → t (endD Q) (startD N.length ds) S) : Cal P w K mg base x (k + 1) f := by
  refine ⟨a, fd, ps, F.ok Sc (fun vs H Q E ⟨S, M, ds, Q', o, r, q, _⟩ => r.length.trans (len ds S Q' q)) (fun cdv A outer s H vs Q E hr ⟨S, M, ds, Q', o, r, q, k⟩ => ?_), hm, F.kp, hb⟩
  refine ⟨_, der cdv A outer s H E hr, startD N.length ds, S, M, endD Q', reps_start o r, sem ds S Q' q, ⟨fun r' w' s' a b c => ?_, fun d w' v a b c e => ?_, fun _ _ _ a _ _ => a.elim, fun _ _ _ a _ _ => a.elim, fun _ _ _ _ a _ _ => a.elim⟩⟩
  · exact k .non w' .non a c b.ok .non
  · obtain ⟨S'', d', sh, q'⟩ := a
    obtain ⟨M', o', r', kk⟩ := sh w'.M w'.H v c e
    refine k d' ⟨S'', M', w'.H⟩ v q' (fun c0 ob h n => ?_) o' r'
    obtain ⟨h1, h2, h3⟩ := b c0 ob h n
    obtain ⟨h4, h5⟩ := kk c0 h3
    exact ⟨h1, h5.trans h2, h4⟩
end
end ML

set_option maxRecDepth 100000
/-! ML7: index of lists and tuples. -/
namespace ML
open PySem PySem.Spec PyProof.Rows L2

/-- the first place of an equal one -/
def IdxAt (ys : List PyData) (p : PyData) (j : Nat) : Prop := (∃ z, ys[j]? = some z ∧ PyData.eqv z p = true) ∧ ∀ (m : Nat) (z : PyData), m < j → ys[m]? = some z → PyData.eqv z p = false
def rIdxT (K : PySem.W.Frag) : V → List V → Hp → VK → Prop := fun x xs H Q => ∃ (a : Addr) (y : V) (d : PyData) (ds : List PyData) (j : Nat), x = V.ref a ∧ xs = [y] ∧ Dp K H (V.ref a) (.tuple ds) ∧ Dp K H y d ∧
  SeqAt.shaped (.tuple ds) = true ∧ SeqAt.shaped d = true ∧ IdxAt ds d j ∧ Q (.int (j : Nat)) H
section
variable {X : Cx}
theorem mt_idxT (hu : X.A.units + 65 < cLine) : MtR X "tuple.index" (rIdxT X.K) := by
  intro pins s sg H x xs v us Q I rx rxs ⟨a, y, d, ds, j, ex, exs, hl, hy, sl, sd, ⟨⟨z, hz, hzj⟩, hno⟩, q⟩
  subst ex exs; cases rx
  obtain ⟨uy, rfl, ry⟩ := vals1 rxs
  obtain ⟨bs, r1⟩ := Dp.reads I d y uy hy ry
  have hxs : PyData.canLayAll0 ds = true := SeqAt.canLay_of_shaped sl
  cases hl with
  | tup hs ha =>
    obtain ⟨its, rv, ⟨⟨cls, dd, data, sls⟩, ho, hc, n, hdt⟩, hlen⟩ := I.tuple hs
    simp only at hc hdt; subst hc hdt
    obtain ⟨as, h4⟩ := Dp.readsAll I ds _ its ha rv
    have hn : its.length = ds.length := SeqAt.ReadsAll.length ds its as h4
    have hmap : its.map (SeqAt.readOf s.heap) = ds := SeqAt.readsAll_map ds its as hxs h4
    have hjl : j < its.length := by rw [hn]; exact (List.getElem?_eq_some_iff.mp hz).1
    have at2 : ∀ (m : Nat) (hm : m < its.toArray.size) (z' : PyData), ds[m]? = some z' → SeqAt.readOf s.heap its.toArray[m] = z' := fun m hm z' hz' => by
      have hml : m < its.length := by simpa using hm
      rw [← hmap, List.getElem?_map, List.getElem?_eq_getElem hml] at hz'
      simpa using Option.some.inj (show some (SeqAt.readOf s.heap its[m]) = some z' from hz')
    refine call_meets PySem.F.slot_tuple_index ⟨_, ho, rfl⟩ PySem.F.entry_tuple_index (PySem.F.args_tuple_index_2 _ _)
      (TI.tuple_indexAt a its.toArray n dd sls uy (fun u => PyData.eqv (SeqAt.readOf s.heap u) d) j (by simpa using hjl) ?_ ?_) ⟨ho, SeqAt.items_eqAt (vs := its.toArray) (show ReadsAll s.heap its.toArray.toList ds as from h4) r1 hxs (SeqAt.canLay_of_shaped sd) (room_in_shaped sd hu), ⟨.int (j : Nat), H, I.tok _, ⟨_, rfl⟩, q⟩⟩
    · show PyData.eqv (SeqAt.readOf s.heap its.toArray[j]) d = true
      rw [at2 j (by simpa using hjl) z hz]; exact hzj
    · intro m hm hmj
      have hmd : m < ds.length := by omega
      show PyData.eqv (SeqAt.readOf s.heap its.toArray[m]) d = false
      rw [at2 m hm _ (List.getElem?_eq_getElem hmd)]
      exact hno m _ hmj (List.getElem?_eq_getElem hmd)
def tIdx (K : PySem.W.Frag) (to : TE) (t : TA) : TE := fun s H Q => to s H fun x H1 => (tyV K "list" x H1 ∧ t s H1 fun xs H2 => rIndexD K x xs H2 Q) ∨
  ((∃ a o xs, x = .ref a ∧ H1 a = some (.frz o (.tup xs)) ∧ o.dict = none) ∧ t s H1 fun xs H2 => rIdxT K x xs H2 Q)
theorem pe_idx {o e : Expr} {apos cpos : Pos} {to : TE} {t : TA} (hu : X.A.units + 65 < cLine) (ho : PE X o to) (ha : PA X [e] t) (hbase : attributeBase o "index" X.env (eval o X.env) = eval o X.env)
    (hfew : ((backTo cpos (starEach [e] X.env)).all (fun x => !x.1) && (backToKw cpos (keywordEach [] X.env)).all (fun x => x.1.isSome) && decide ([e].length + ([] : List Keyword).length + (if ([] : List Keyword).isEmpty then 0 else 1) < 30)) = true)
    (hline : (apos.endLine == cpos.line) = true) (hs : starEach [e] X.env = (false, eval e X.env) :: starEach [] X.env) (hpl : (backTo cpos (starEach [] X.env)).any (·.1) = false) : PE X (.Call (.Attribute o "index" apos) [e] [] cpos) (tIdx X.K to t) := by
  refine ⟨fun pins s sg H Q I h => wpAny_Call_method_late hbase hfew hline rfl (thn (ho.run pins s sg H _ I h) fun v s1 ⟨x, H1, I1, r1, q1⟩ => ?_)⟩
  rcases q1 with ⟨ty, q1⟩ | ⟨⟨a, ob, xs, ex, eH, ed⟩, q1⟩
  · obtain ⟨h1, h2⟩ := tyV_is I1 r1 ty
    refine ⟨"list", "list.index", PySem.F.plainAttrs_list, PySem.F.slot_list_index, PySem.F.type_list_index, h1, h2, ?_⟩
    have hA := ha.run cpos pins s1 sg H1 _ I1 q1
    rw [hs] at hA ⊢
    exact Calls.callWith_builtin (by show (false || (backTo cpos (starEach [] X.env)).any (·.1)) = false; rw [hpl]; rfl) (Calls.evalArgs_plain (thn hA fun us s2 ⟨vs, H2, I2, r2, q2⟩ => mt_indexD hu pins s2 sg H2 x vs v us Q I2 r1 r2 q2))
  · subst ex; cases r1
    have ok : s1.heap.get? a = some ob ∧ ObjOk X.prog X.w H1 s1.heap a (.tup xs) := I1.hok a _ eH
    obtain ⟨g1, _, its, _, pt⟩ := ok
    refine ⟨"tuple", "tuple.index", PySem.F.plainAttrs_tuple, PySem.F.slot_tuple_index, PySem.F.type_tuple_index, pt.typeIs, fun b eb => ⟨ob, by cases eb; exact g1, ed⟩, ?_⟩
    have hA := ha.run cpos pins s1 sg H1 _ I1 q1
    rw [hs] at hA ⊢
    exact Calls.callWith_builtin (by show (false || (backTo cpos (starEach [] X.env)).any (·.1)) = false; rw [hpl]; rfl) (Calls.evalArgs_plain (thn hA fun us s2 ⟨vs, H2, I2, r2, q2⟩ => mt_idxT hu pins s2 sg H2 (.ref a) vs _ us Q I2 rfl r2 q2))
end
/-- x.index(y): x a list, or a tuple that is known -/
def isSeq (S : Mem) : D → Prop := fun d => match d with
  | .kt _ => True
  | .lst _ => True
  | .fls _ => True
  | .obj a => match S a with
    | some (.lst _) => True
    | _ => False
  | _ => False
abbrev mIdx (te : DE) (t : DA) : DE := fun r S Q => te r S fun d S1 => isSeq S1 d ∧ t r S1 fun ds S2 => match ds with
  | [y] => ∃ xs ys p j, asQ S2 d = some xs ∧ toPys xs = some ys ∧ toPyM S2 y = some p ∧ SeqAt.shaped (.list ys) = true ∧ SeqAt.shaped p = true ∧ IdxAt ys p j ∧ Q (.int (j : Nat)) S2
  | _ => False
theorem shaped_lt (ys : List PyData) : SeqAt.shaped (.tuple ys) = SeqAt.shaped (.list ys) := by
  unfold SeqAt.shaped
  simp only [PyData.canLay0, PyData.depth]
  rfl
section
variable {X : Cx}
theorem me_idxU {o e : Expr} {apos cpos : Pos} {to : DE} {t : DA} (hu : X.A.units + 65 < cLine) (ho : PE X o (lE to)) (ha : PA X [e] (lA t)) (hbase : attributeBase o "index" X.env (eval o X.env) = eval o X.env := by rfl)
    (hfew : ((backTo cpos (starEach [e] X.env)).all (fun x => !x.1) && (backToKw cpos (keywordEach [] X.env)).all (fun x => x.1.isSome) && decide ([e].length + ([] : List Keyword).length + (if ([] : List Keyword).isEmpty then 0 else 1) < 30)) = true := by rfl)
    (hline : (apos.endLine == cpos.line) = true := by rfl) (hs : starEach [e] X.env = (false, eval e X.env) :: starEach [] X.env := by rfl) (hpl : (backTo cpos (starEach [] X.env)).any (·.1) = false := by rfl) : PE X (.Call (.Attribute o "index" apos) [e] [] cpos) (lE (mIdx to t)) :=
  (pe_idx hu ho ha hbase hfew hline hs hpl).mi fun s H Q ⟨r, S, M, Q', R, t, k⟩ => ⟨r, S, M, _, R, t, fun d w1 v q k1 m1 r1 => by
    obtain ⟨hd, q⟩ := q
    have list : ∀ a, v = .ref a → (∀ w2, Keeps w1 w2 → Ok w2 → ∀ xs, asQ w2.S d = some xs → ∃ vs, SqL X.K w2.H a vs ∧ Reps w2 vs xs) → (lA _ s w1.H fun xs H2 => rIndexD X.K v xs H2 Q) := fun a ev hq =>
      ⟨r, w1.S, w1.M, _, R.keep k1 m1, q, fun ds w2 vs q2 k2 m2 r2 => by
        subst ev
        split at q2
        · next y =>
          obtain ⟨xs, ys, p, j, h1, h2, h3, h4, h5, ⟨⟨z, hz, hzj⟩, hno⟩, h7⟩ := q2
          obtain ⟨vy, rfl, ry⟩ := reps1 r2
          obtain ⟨vs', e1, e2⟩ := hq w2 (k2.keeps m1) m2 xs h1
          exact ⟨a, vy, p, ys, j, z, rfl, rfl, .lst e1 (reps_dp xs _ ys h2 e2), rep_dpM m2 h3 ry, h4, h5, hz, hzj, hno, k _ w2 _ h7 (k1.trans k2) m2 (.int _)⟩
        · exact q2.elim⟩
    cases r1 with
    | @kt a ob vs ds e ed n rr z =>
      refine .inr ⟨⟨a, ob, vs, rfl, e, ed⟩, r, w1.S, w1.M, _, R.keep k1 m1, q, fun es w2 us q2 k2 m2 r2 => ?_⟩
      split at q2
      · next y =>
        obtain ⟨xs, ys, p, j, h1, h2, h3, h4, h5, h6, h7⟩ := q2
        have h1 : some ds = some xs := h1
        cases h1
        obtain ⟨vy, rfl, ry⟩ := reps1 r2
        have kk := k2.keeps m1
        exact ⟨a, vy, p, ys, j, rfl, rfl, .tup (.inl (.inr ⟨_, (kk _ _ e n).1⟩)) (reps_dp ds _ ys h2 (rr.keeps kk)), rep_dpM m2 h3 ry, by rw [shaped_lt]; exact h4, h5, h6, k _ w2 _ h7 (k1.trans k2) m2 (.int _)⟩
      · exact q2.elim
    | @lst a vs ds e n rr z =>
      exact .inl ⟨.inl ⟨rfl, vs, .inl (.inl e)⟩, list a rfl fun w2 kk _ xs h1 => by
        have h1 : some ds = some xs := h1
        cases h1
        exact ⟨vs, .inl (.inl (kk _ _ e n).1), rr.keeps kk⟩⟩
    | @fls a ob vs ds e n rr z =>
      exact .inl ⟨.inl ⟨rfl, vs, .inl (.inr ⟨_, e⟩)⟩, list a rfl fun w2 kk _ xs h1 => by
        have h1 : some ds = some xs := h1
        cases h1
        exact ⟨vs, .inl (.inr ⟨_, (kk _ _ e n).1⟩), rr.keeps kk⟩⟩
    | obj a =>
      unfold isSeq at hd
      dsimp only at hd
      split at hd
      · next xs0 e =>
        obtain ⟨vs, e1, _, _⟩ := m1.lst e
        exact .inl ⟨.inl ⟨rfl, vs, .inl (.inl e1)⟩, list a rfl fun w2 kk m2 xs h1 => by
          obtain ⟨b, vs', eb, f1, f2, _⟩ := asL_rep (K := X.K) m2 (show asL w2.S (.obj a) = some xs from h1) (.obj a)
          cases eb
          exact ⟨vs', f1, f2⟩⟩
      · exact hd.elim
    | _ => exact hd.elim⟩
theorem me_idx {o e : Expr} {apos cpos : Pos} {to : DE} {t : DA} {n : Nat} (hr : Room n X.A) (ho : PE X o (lE to)) (ha : PA X [e] (lA t)) (hbase : attributeBase o "index" X.env (eval o X.env) = eval o X.env := by rfl)
    (hfew : ((backTo cpos (starEach [e] X.env)).all (fun x => !x.1) && (backToKw cpos (keywordEach [] X.env)).all (fun x => x.1.isSome) && decide ([e].length + ([] : List Keyword).length + (if ([] : List Keyword).isEmpty then 0 else 1) < 30)) = true := by rfl)
    (hline : (apos.endLine == cpos.line) = true := by rfl) (hs : starEach [e] X.env = (false, eval e X.env) :: starEach [] X.env := by rfl) (hpl : (backTo cpos (starEach [] X.env)).any (·.1) = false := by rfl) : PE X (.Call (.Attribute o "index" apos) [e] [] cpos) (lE (mIdx to t)) :=
  me_idxU (hu65 hr) ho ha hbase hfew hline hs hpl
end
end ML

set_option maxRecDepth 100000
/-! ML8: sorted of lists and tuples: ints; tuples of ints and texts. -/
namespace ML
open PySem PySem.Spec PyProof.Rows L2
abbrev Ky : Type := List (Int ⊕ List Nat)
section
open Srt SrtO
variable {prog : Program} {w : World} {A : Around} {E : Value → Shared → Prop} {s : Shared}
/-- the heap behind the collecting of a list's or a tuple's items -/
abbrev gotH (h : Heap) (its : Array Value) : Heap := (h.push { cls := .type "list", data := .seq ([] : List Value).toArray }).update h.objs.size (Obj.mapSeq (· ++ its))
theorem collectQ {Q : List Value → Shared → Prop} (it : Addr) {T : String} {o : Obj} {items : Array Value} {n : Nat} (hT : T = "list" ∨ T = "tuple") (ho : s.heap.get? it = some o) (hc : o.cls = .type T) (hd : o.data = .seq items n) (hsz : items.size ≤ sizeLine)
    (hQ : Q items.toList { s with heap := gotH s.heap items }) : wpAny (model prog w) A (collect (.ref it)) Q E s := by
  unfold collect
  refine wpAny_bind (wpAny_runValue (codeAny_builtin F.entry_proto_collect ?_))
  rw [Around.under_plainId F.plain_proto_collect _]
  show wpAny _ A.in1 (newList [] >>= fun l =>
    again (.builtin "list.__iadd__" ⟨[l, .ref it], []⟩)) _ _ s
  refine wpAny_bind (wpAny_newObj_type ?_)
  refine wpAny_pure ⟨plainId_quiet F.plain_list_iadd _, codeAny_builtin F.entry_list_iadd ?_⟩
  rw [Around.under_plainId F.plain_list_iadd _]
  have h0 : (s.heap.push { cls := .type "list", data := .seq ([] : List Value).toArray }).get? s.heap.objs.size =
      some { cls := .type "list", data := .seq #[] 0 } := Heap.get?_push_size _ rfl
  have h2 := Heap.get?_update_self (Obj.mapSeq (· ++ items)) h0 rfl
  have done : wpAny (model prog w) A (match Value.ref s.heap.objs.size with
      | .ref a => do
        match (← load a).data with
          | .seq xs _ => pure xs.toList
          | _ => unsupported "internal:collect"
      | _ => unsupported "internal:collect") Q E { s with heap := gotH s.heap items } := by
    show wpAny _ A (load s.heap.objs.size >>= _) _ _ _
    refine wpAny_bind (wpAny_load h2 (wpAny_pure ?_))
    have e : ((#[] : Array Value) ++ items).toList = items.toList := by simp
    show Q ((#[] : Array Value) ++ items).toList _
    rw [e]; exact hQ
  show wpAny _ A.in1 (Builtin.List.listExtendWith (.ref s.heap.objs.size) (.ref it) (.ref s.heap.objs.size)) _ _ _
  refine wpAny_mono (wpAny_extend_seq (hsz := hsz) (A := A) (R := fun r s' => r = .ok (.ret (.ref s.heap.objs.size)) ∧ s' = { s with heap := gotH s.heap items })
    (s := { s with heap := s.heap.push { cls := .type "list", data := .seq ([] : List Value).toArray } }) _ it _ 0 hT h0 (Heap.get?_push_of_some _ ho) hc hd ⟨rfl, rfl⟩) (fun fin s' h => ?_) (fun e s' h => ?_)
  · cases fin with
    | done f => obtain ⟨e, rfl⟩ := h; cases e; exact done
    | again c' => exact ⟨h.1, codeAny_mono h.2 fun r s2 hr => by obtain ⟨rfl, rfl⟩ := hr; exact done⟩
  · exact absurd h.1 (by simp)
/-- sorted of a list or a tuple -/
theorem sortedQ {l : Addr} {T : String} {o : Obj} {vs : List Value} {n : Nat} {lt : Value → Value → Bool} {Q : Value → Shared → Prop} (hT : T = "list" ∨ T = "tuple") (ho : s.heap.get? l = some o) (hc : o.cls = .type T) (hd : o.data = .seq vs.toArray n) (O : Swo lt) (hz : vs.length ≤ sizeLine)
    (hS : 2 ≤ vs.length → ∀ (h1 : Heap) (a : Addr), h1.get? a = some (seqObj "list" vs.toArray 0) → (∀ b u, s.heap.get? b = some u → b ≠ a ∧ h1.get? b = some u) → SortableO prog w A.in1.in1 { s with heap := h1 } a vs lt)
    (h : ∀ (h2 : Heap) (d : Addr) (out : List Value), Srtd lt out → Stb lt out vs → (∀ b u, s.heap.get? b = some u → h2.get? b = some u) → s.heap.objs.size ≤ d → (∃ e, h2.get? d = some (seqObj "list" out.toArray e)) → Q (.ref d) { s with heap := h2 }) :
    wpAny (model prog w) A (call (.builtin "sorted") [.ref l]) Q E s := by
  refine Calls.call_function_entry kind_sorted plain_sorted entry_sorted (args_sorted1 _) ?_
  unfold Builtin.«sorted»
  refine wpAny_bind (m := checkCount "sorted" 1 1 _) (wpAny_pure ?_)
  refine wpAny_bind (collectQ l hT ho hc hd (by rw [List.size_toArray]; exact hz) ?_)
  rw [List.toList_toArray]
  refine wpAny_bind (wpAny_newList ?_ hz)
  have sz : (gotH s.heap vs.toArray).objs.size = s.heap.objs.size + 1 := by rw [Heap.size_update, size_push']
  have kp : ∀ b u, s.heap.get? b = some u → (gotH s.heap vs.toArray).get? b = some u := fun b u e => (Heap.get?_update_other _ _ (Nat.ne_of_gt (Heap.lt_size e))).trans (Heap.get?_push_of_some _ e)
  generalize gotH s.heap vs.toArray = h1 at sz kp ⊢
  have at1 : (h1.push (seqObj "list" vs.toArray 0)).get? h1.objs.size = some (seqObj "list" vs.toArray 0) := Heap.get?_push_size _ rfl
  have le1 : s.heap.objs.size ≤ h1.objs.size := by omega
  have old : ∀ b u, s.heap.get? b = some u → b ≠ h1.objs.size ∧ (h1.push (seqObj "list" vs.toArray 0)).get? b = some u := fun b u e =>
    ⟨Nat.ne_of_lt (Nat.lt_of_lt_of_le (Heap.lt_size e) le1), Heap.get?_push_of_some _ (kp b u e)⟩
  show wpAny _ _ _ _ _ { s with heap := h1.push (seqObj "list" vs.toArray 0) }
  refine wpAny_bind (wpAny_holding (wpAny_call_entry slot_list_sort ⟨_, at1, rfl⟩ entry_list_sort (list_sort_ord O at1 hz (fun h2 => hS h2 _ _ at1 old) fun out hs hb => ⟨_, rfl, ?_⟩) (args_list_sort _)))
  refine wpAny_pure ⟨_, rfl, h _ h1.objs.size out hs hb (fun b u e => ?_) le1 ?_⟩
  · exact (sortedHeap_old (old b u e).1 (Heap.lt_size (old b u e).2)).trans (old b u e).2
  · exact sortedHeap_at at1
end
/-! ### rules -/
theorem perm_lift {α β : Type} {f : α → β} {l m : List β} (h : l.Perm m) : ∀ xs : List α, xs.map f = m → ∃ ys : List α, ys.Perm xs ∧ ys.map f = l := by
  induction h with
  | nil => intro xs e; exact ⟨[], by rw [List.map_eq_nil_iff.mp e], rfl⟩
  | cons x _ ih =>
    intro xs e
    match xs, e with
    | a :: xs, e =>
      obtain ⟨e1, e2⟩ := List.cons.inj e
      obtain ⟨ys, h1, h2⟩ := ih xs e2
      exact ⟨a :: ys, h1.cons a, by rw [List.map_cons, h2, e1]⟩
  | swap x y l =>
    intro xs e
    match xs, e with
    | a :: b :: xs, e =>
      obtain ⟨e1, e2⟩ := List.cons.inj e
      obtain ⟨e2, e3⟩ := List.cons.inj e2
      exact ⟨b :: a :: xs, List.Perm.swap _ _ _, by rw [List.map_cons, List.map_cons, e1, e2, e3]⟩
    | [a], e => exact absurd (List.cons.inj e).2 (by simp)
  | trans _ _ ih1 ih2 =>
    intro xs e
    obtain ⟨ys, h1, h2⟩ := ih2 xs e
    obtain ⟨zs, h3, h4⟩ := ih1 ys h2
    exact ⟨zs, h3.trans h1, h4⟩
abbrev kLt (a b : Ky) : Bool := lexLt itemOrd a b
def itemsV (sh : Nat → Bool) : Nat → List V → Option Ky
  | _, [] => some []
  | i, .int n :: r => if sh i = true then none else (itemsV sh (i + 1) r).map (Sum.inl n :: ·)
  | i, .str x :: r => if sh i = true then (itemsV sh (i + 1) r).map (Sum.inr x.cps.toList :: ·) else none
  | _, _ :: _ => none
theorem itemsV_ok {sh : Nat → Bool} : ∀ {xs : List V} {us : List Value} {i : Nat} {k : Ky}, Vals xs us → itemsV sh i xs = some k → tupItems sh i us = some k
  | _, _, _, _, .nil, h => h
  | x :: xs, _ :: us, i, k, .cons r t, h => by
    cases x with
    | int n =>
      obtain ⟨tk, rfl⟩ := r
      unfold itemsV at h
      unfold tupItems
      split at h
      · cases h
      · next hs =>
        rw [if_neg hs]
        cases e : itemsV sh (i + 1) xs with
        | none => rw [e] at h; cases h
        | some l => rw [e] at h; rw [itemsV_ok t e]; exact h
    | str z =>
      obtain ⟨tk, rfl⟩ := r
      unfold itemsV at h
      unfold tupItems
      split at h
      · next hs =>
        rw [if_pos hs]
        cases e : itemsV sh (i + 1) xs with
        | none => rw [e] at h; cases h
        | some l => rw [e] at h; rw [itemsV_ok t e]; exact h
      · cases h
    | _ => unfold itemsV at h; cases h
def TupV (K : PySem.W.Frag) (H : Hp) (sh : Nat → Bool) (x : V) (k : Ky) : Prop := ∃ t y ys, x = .ref t ∧ SqT K H t (y :: ys) ∧ itemsV sh 0 (y :: ys) = some k
def rSortT (K : PySem.W.Frag) : List V → Hp → VK → Prop := fun vs H Q => ∃ (a : Addr) (ps : List (V × Ky)) (sh : Nat → Bool), vs = [.ref a] ∧ (SqL K H a (ps.map (·.1)) ∨ SqT K H a (ps.map (·.1))) ∧ (∀ p ∈ ps, TupV K H sh p.1 p.2) ∧
  ∀ (qs : List (V × Ky)) (p : Addr), qs.Perm ps → qs.Pairwise (fun a b => kLt b.2 a.2 = false) → H p = none → Q (.ref p) (upd H p (.lst (qs.map (·.1))))
def rSortQ (K : PySem.W.Frag) : List V → Hp → VK → Prop := fun vs H Q => ∃ (a : Addr) (ns : List Int), vs = [.ref a] ∧ (SqL K H a (ns.map V.int) ∨ SqT K H a (ns.map V.int)) ∧
  ∀ (ns' : List Int) (p : Addr), ns'.Perm ns → ns'.Pairwise (· ≤ ·) → H p = none → Q (.ref p) (upd H p (.lst (ns'.map V.int)))
section
variable {X : Cx}
theorem sq_both {pins : List (Addr × Obj)} {s : Shared} {σ : L2.St} {H : Hp} {a : Addr} {xs : List V} (I : Inv X pins σ H s) (h : SqL X.K H a xs ∨ SqT X.K H a xs) :
    ∃ (T : String) (o : Obj) (its : List Value) (n : Nat), (T = "list" ∨ T = "tuple") ∧ s.heap.get? a = some o ∧ o.cls = .type T ∧ o.data = .seq its.toArray n ∧ Vals xs its ∧ its.length ≤ sizeLine := by
  rcases h with h | h
  · obtain ⟨its, rv, ⟨o, n, ho, hc, _, hd⟩, hz⟩ := I.list h
    exact ⟨"list", o, its, n, .inl rfl, ho, hc, hd, rv, by rw [← rv.length]; exact hz⟩
  · obtain ⟨its, rv, ⟨o, ho, hc, n, hd⟩, hz⟩ := I.tuple h
    exact ⟨"tuple", o, its, n, .inr rfl, ho, hc, hd, rv, by rw [← rv.length]; exact hz⟩
theorem cr_sortQ : CallR X (.builtin "sorted") (rSortQ X.K) := by
  intro pins s σ H vs us Q I r h
  obtain ⟨a, ns, rfl, hs, q⟩ := h
  obtain ⟨T, o, its, n, hT, ho, hc, hd, rv, hz⟩ := sq_both I hs
  rw [Vals.ref1 r]
  have hi := rv.ints
  refine sortedQ hT ho hc hd SrtO.swo_int hz (fun h2 h1 a' _ _ => SrtO.ints_sortable hi h2) fun h2 d out o1 o2 kp hd2 ⟨e, he⟩ => ?_
  obtain ⟨k1, k2, k3⟩ := SrtO.ints_out hi o1 o2
  refine ⟨.ref d, upd H d (.lst ((out.map SrtO.iv).map V.int)), I.laid (t' := s.toks) kp hd2 ⟨?_, out, e, vals_of_ints k1, he⟩, rfl, q _ d k2 k3 (I.hok.fresh hd2)⟩
  rw [List.length_map, List.length_map, o2.perm.length_eq]; exact hz
def ltH (h : Heap) (sh : Nat → Bool) (v u : Value) : Bool := kLt ((tupKey h sh v).getD []) ((tupKey h sh u).getD [])
theorem swo_k {α : Type} (k : α → Ky) : SrtO.Swo fun v u => kLt (k v) (k u) := by
  refine ⟨fun x y h => ?_, fun x y z h1 h2 => ?_⟩
  · cases e : kLt (k y) (k x) with
    | false => rfl
    | true => exact absurd (lex_trans (O := itemOrd) _ _ _ h e) (by rw [lex_irrefl]; decide)
  · cases e : kLt (k z) (k x) with
    | false => rfl
    | true =>
      rcases lex_negTrans (O := itemOrd) (k z) (k y) (k x) e with q | q
      · exact absurd q (by show ¬ kLt (k z) (k y) = true; rw [show kLt (k z) (k y) = false from h2]; decide)
      · exact absurd q (by show ¬ kLt (k y) (k x) = true; rw [show kLt (k y) (k x) = false from h1]; decide)
theorem tupKey_at {h : Heap} {sh : Nat → Bool} {t : Addr} {o : Obj} {its : List Value} {n : Nat} {k : Ky} (ho : h.get? t = some o) (hd : o.data = .seq its.toArray n) (e : tupItems sh 0 its = some k) : tupKey h sh (.ref t) = some k := by
  unfold tupKey
  simp only [ho, hd]
  exact e
/-- a value of the heap that has a key -/
def KAt (h : Heap) (sh : Nat → Bool) (v : Value) (k : Ky) : Prop := ∃ t o u its n, v = .ref t ∧ h.get? t = some o ∧ o.cls = .type "tuple" ∧ o.data = .seq (u :: its).toArray n ∧ tupItems sh 0 (u :: its) = some k
theorem KAt.key {h : Heap} {sh : Nat → Bool} {v : Value} {k : Ky} (c : KAt h sh v k) : tupKey h sh v = some k := by
  obtain ⟨t, o, u, its, n, rfl, ho, hc, hd, hk⟩ := c
  exact tupKey_at ho hd hk
theorem KAt.keeps {h h' : Heap} {sh : Nat → Bool} {v : Value} {k : Ky} (c : KAt h sh v k) (kp : ∀ b o, h.get? b = some o → o.cls = .type "tuple" → h'.get? b = some o) : KAt h' sh v k := by
  obtain ⟨t, o, u, its, n, rfl, ho, hc, hd, hk⟩ := c
  exact ⟨t, o, u, its, n, rfl, kp _ _ ho hc, hc, hd, hk⟩
theorem KAt.tup {h : Heap} {sh : Nat → Bool} {v : Value} {k : Ky} (c : KAt h sh v k) : ∃ f, TupOf h sh v f := by
  obtain ⟨t, o, u, its, n, rfl, ho, hc, hd, hk⟩ := c
  refine ⟨u, t, o, _, n, rfl, ho, hc, hd, by simp, fun e => ?_, fun e => ?_⟩
  · obtain ⟨a, tk, _, rfl, _⟩ := tupItems_int e hk; exact ⟨a, tk, rfl⟩
  · obtain ⟨a, tk, _, rfl, _⟩ := tupItems_str e hk; exact ⟨a, tk, rfl⟩
theorem tups_of {h : Heap} {sh : Nat → Bool} : ∀ {vs : List Value}, (∀ v ∈ vs, ∃ k, KAt h sh v k) → ∃ fs, TupsOf h sh vs fs ∧ fs.length = vs.length
  | [], _ => ⟨[], .nil, rfl⟩
  | v :: vs, hh => by
    obtain ⟨k, hk⟩ := hh v List.mem_cons_self
    obtain ⟨f, hf⟩ := hk.tup
    obtain ⟨fs, h1, h2⟩ := tups_of fun u hu => hh u (List.mem_cons_of_mem _ hu)
    exact ⟨f :: fs, .cons hf h1, by rw [List.length_cons, List.length_cons, h2]⟩
theorem tup_sortable {prog : Program} {w : World} {A : Around} {s0 : Heap} {s : Shared} {a : Addr} {sh : Nat → Bool} {vs : List Value} (h2 : 2 ≤ vs.length) (h0 : ∀ v ∈ vs, ∃ k, KAt s0 sh v k) (kp : ∀ b o, s0.get? b = some o → b ≠ a ∧ s.heap.get? b = some o) : SrtO.SortableO prog w A s a vs (ltH s0 sh) := by
  intro h' keep
  have hk : ∀ v ∈ vs, ∃ k, KAt s0 sh v k ∧ KAt h' sh v k := fun v hv => by
    obtain ⟨k, c⟩ := h0 v hv
    exact ⟨k, c, c.keeps fun b o e _ => keep b o (kp b o e).1 (kp b o e).2⟩
  obtain ⟨fs, t1, t2⟩ := tups_of (h := h') (sh := sh) fun v hv => (hk v hv).elim fun k c => ⟨k, c.2⟩
  refine ⟨tuples' true, fun Q E hq => tup_kind (by omega) t1 hq, fun p q hp hq => ?_⟩
  obtain ⟨k1, c1, d1⟩ := hk _ hp
  obtain ⟨k2, c2, d2⟩ := hk _ hq
  refine tup_ltAt (s := { s with heap := h' }) true A _ p.1 q.1 k1 k2 d1.key d2.key ⟨rfl, ?_⟩
  show _ = ltH s0 sh p.1 q.1
  unfold ltH
  rw [c1.key, c2.key]
  rfl
theorem cr_sortT : CallR X (.builtin "sorted") (rSortT X.K) := by
  intro pins s σ H vs us Q I r h
  obtain ⟨a, ps, sh, rfl, hs, hx, q⟩ := h
  obtain ⟨T, o, its, n, hT, ho, hc, hd, rv, hz⟩ := sq_both I hs
  rw [Vals.ref1 r]
  have vat : ∀ (v : V) (u : Value) (k : Ky), RelV v u → TupV X.K H sh v k → KAt s.heap sh u k ∧ v = backV u := by
    rintro v u k rr ⟨t, y, ys, rfl, ht, hk⟩
    obtain rfl : u = Value.ref t := rr
    obtain ⟨its2, r2, ⟨o2, ho2, hc2, n2, hd2⟩, _⟩ := I.tuple ht
    match its2, r2 with
    | u :: us, .cons ru rus => exact ⟨⟨t, o2, u, us, n2, rfl, ho2, hc2, hd2, itemsV_ok (.cons ru rus) hk⟩, rfl⟩
  have key : ∀ (ps : List (V × Ky)) (its : List Value), Vals (ps.map (·.1)) its → (∀ p ∈ ps, TupV X.K H sh p.1 p.2) → (∀ v ∈ its, ∃ k, KAt s.heap sh v k ∧ ∃ t, v = .ref t) ∧ ps = its.map fun v => (backV v, (tupKey s.heap sh v).getD []) := by
    intro ps
    induction ps with
    | nil => intro its rv _; cases rv; exact ⟨fun v hv => absurd hv (by simp), rfl⟩
    | cons p ps ih =>
      intro its rv hx
      match its, rv with
      | u :: its, .cons ru rt =>
        obtain ⟨c, e⟩ := vat _ _ _ ru (hx p List.mem_cons_self)
        obtain ⟨h1, h2⟩ := ih its rt fun p hp => hx p (List.mem_cons_of_mem _ hp)
        refine ⟨fun v hv => ?_, ?_⟩
        · rcases List.mem_cons.mp hv with rfl | hv
          · exact ⟨_, c, let ⟨t, _, _, _, _, e, _⟩ := c; ⟨t, e⟩⟩
          · exact h1 v hv
        · rw [List.map_cons, ← h2, c.key]
          obtain ⟨p1, p2⟩ := p
          show _ = (backV u, p2) :: ps
          rw [show p1 = backV u from e]
  obtain ⟨k1, k2⟩ := key ps its rv hx
  refine sortedQ hT ho hc hd (swo_k fun v => (tupKey s.heap sh v).getD []) hz (fun h2 h1 a' _ kk => tup_sortable h2 (fun v hv => (k1 v hv).elim fun k c => ⟨k, c.1⟩) kk) fun h2 d out o1 o2 kp hd2 ⟨e, he⟩ => ?_
  have h3 : ∀ u ∈ out, ∃ a, u = Value.ref a := fun u hu => (k1 u (o2.perm.mem_iff.mp hu)).elim fun k c => c.2
  have e1 : (out.map fun v => (backV v, (tupKey s.heap sh v).getD [])).map (·.1) = out.map backV := by rw [List.map_map]; rfl
  refine ⟨.ref d, upd H d (.lst (out.map backV)), I.laid (t' := s.toks) kp hd2 ⟨?_, out, e, vals_back h3, he⟩, rfl, ?_⟩
  · rw [List.length_map, o2.perm.length_eq]; exact hz
  · rw [← e1]
    refine q _ d ?_ (List.pairwise_map.mpr o1) (I.hok.fresh hd2)
    rw [k2]
    exact o2.perm.map _
end
/-! ### as data -/
def itemD : D → Int ⊕ List Nat
  | .int i => .inl i
  | .str x => .inr x.cps.toList
  | _ => .inl 0
def keyD (d : D) : Ky := ((asT d).getD []).map itemD
def okSh (sh : Nat → Bool) : Nat → List D → Prop
  | _, [] => True
  | i, .int _ :: r => sh i = false ∧ okSh sh (i + 1) r
  | i, .str _ :: r => sh i = true ∧ okSh sh (i + 1) r
  | _, _ :: _ => False
def okT (sh : Nat → Bool) (d : D) : Prop := ∃ y ys, asT d = some (y :: ys) ∧ okSh sh 0 (y :: ys)
theorem itemsV_rep {sh : Nat → Bool} {w : W} : ∀ {ys : List D} {vs : List V} {i : Nat}, Reps w vs ys → okSh sh i ys → itemsV sh i vs = some (ys.map itemD)
  | _, _, _, .nil, _ => rfl
  | y :: ys, v :: vs, i, .cons r t, h => by
    cases y with
    | int n =>
      cases r
      unfold itemsV
      rw [if_neg (by rw [h.1]; decide), itemsV_rep t h.2]
      rfl
    | str x =>
      cases r
      unfold itemsV
      rw [if_pos h.1, itemsV_rep t h.2]
      rfl
    | _ => exact h.elim
def oSorted : OA := fun ds S Q => match ds with
  | [d] => ∃ xs, asQ S d = some xs ∧ ∃ sh, (∀ x ∈ xs, okT sh x) ∧ ∀ ys : List D, ys.Perm xs → ys.Pairwise (fun a b => kLt (keyD b) (keyD a) = false) → Q (.lst ys) S
  | _ => False
def oSortQ : OA := fun ds S Q => match ds with
  | [d] => ∃ ns : List Int, asQ S d = some (ns.map D.int) ∧ ∀ ns' : List Int, ns'.Perm ns → ns'.Pairwise (· ≤ ·) → Q (.lst (ns'.map D.int)) S
  | _ => False
theorem opA_sortQ {K : PySem.W.Frag} : OpA (rSortQ K) oSortQ := by
  intro ds vs w Q Q' m rr h k
  unfold oSortQ at h
  split at h
  · obtain ⟨v, rfl, r⟩ := reps1 rr
    obtain ⟨ns, h1, h2⟩ := h
    obtain ⟨a, vs, rfl, e1, e2, z⟩ := asQ_rep (K := K) m h1 r
    rw [reps_ints e2] at e1
    refine ⟨a, ns, rfl, e1, fun ns' p hp hs hn => k _ ⟨w.S, w.M, _⟩ _ (h2 ns' hp hs) (.new hn) (m.new hn) (.lst upd_same (m.free hn) (ints_reps ns') ?_)⟩
    rw [List.length_map] at z ⊢
    rw [hp.length_eq]; exact z
  · exact h.elim
theorem reps_zip {w : W} : ∀ {vs : List V} {ds : List D}, Reps w vs ds → (vs.zip ds).map (·.1) = vs ∧ (vs.zip ds).map (·.2) = ds ∧ ∀ p ∈ vs.zip ds, Rep w p.1 p.2
  | _, _, .nil => ⟨rfl, rfl, fun p hp => absurd hp (by simp)⟩
  | v :: vs, d :: ds, .cons r t => by
    obtain ⟨h1, h2, h3⟩ := reps_zip t
    refine ⟨by rw [List.zip_cons_cons, List.map_cons, h1], by rw [List.zip_cons_cons, List.map_cons, h2], fun p hp => ?_⟩
    rcases List.mem_cons.mp hp with rfl | hp
    · exact r
    · exact h3 p hp
theorem reps_unzip {w : W} : ∀ {ps : List (V × D)}, (∀ p ∈ ps, Rep w p.1 p.2) → Reps w (ps.map (·.1)) (ps.map (·.2))
  | [], _ => .nil
  | p :: ps, h => .cons (h p List.mem_cons_self) (reps_unzip fun q hq => h q (List.mem_cons_of_mem _ hq))
theorem opA_sorted {K : PySem.W.Frag} : OpA (rSortT K) oSorted := by
  intro ds vs w Q Q' m rr h k
  unfold oSorted at h
  split at h
  · obtain ⟨v, rfl, r⟩ := reps1 rr
    obtain ⟨xs, h1, sh, h2, h3⟩ := h
    obtain ⟨a, vs, rfl, e1, e2, z⟩ := asQ_rep (K := K) m h1 r
    obtain ⟨z1, z2, z3⟩ := reps_zip e2
    have c1 : ((vs.zip xs).map fun p => (p.1, keyD p.2)).map (·.1) = vs := by rw [List.map_map]; exact z1
    refine ⟨a, (vs.zip xs).map fun p => (p.1, keyD p.2), sh, rfl, by rw [c1]; exact e1, fun p hp => ?_, fun qs p hp hs hn => ?_⟩
    · obtain ⟨⟨v, d⟩, hm, rfl⟩ := List.mem_map.mp hp
      have hd : d ∈ xs := by rw [← z2]; exact List.mem_map.mpr ⟨_, hm, rfl⟩
      obtain ⟨y, ys, t1, t2⟩ := h2 d hd
      obtain ⟨b, ws, hb, t3, t4, _⟩ := asT_rep (K := K) t1 (z3 _ hm)
      have t5 := itemsV_rep t4 t2
      have e0 : keyD d = (y :: ys).map itemD := by unfold keyD; rw [t1]; rfl
      cases t4 with
      | cons q1 q2 => exact ⟨b, _, _, hb, t3, by rw [t5, ← e0]⟩
    · obtain ⟨zs, p1, p2⟩ := perm_lift (f := fun p : V × D => (p.1, keyD p.2)) hp (vs.zip xs) rfl
      subst p2
      have rz : Reps w (zs.map (·.1)) (zs.map (·.2)) := reps_unzip fun q hq => z3 q (p1.mem_iff.mp hq)
      have c2 : (zs.map fun p => (p.1, keyD p.2)).map (·.1) = zs.map (·.1) := by rw [List.map_map]; rfl
      rw [c2]
      have q1 : (zs.map Prod.snd).Perm xs := by rw [← z2]; exact p1.map _
      have q2 : (zs.map Prod.snd).length ≤ sizeLine := by rw [q1.length_eq]; exact z
      have q3 := h3 (zs.map Prod.snd) q1 (List.pairwise_map.mpr (List.pairwise_map.mp hs))
      exact k _ ⟨w.S, w.M, _⟩ _ q3 (.new hn) (m.new hn) (.lst upd_same (m.free hn) (rz.keep (.new hn) m) q2)
  · exact h.elim
section
variable {X : Cx} {pos : Pos}
theorem me_sorted {n : Nat} {e : Expr} {p : Pos} {t : DA} (hr : Room n X.A) (hm : X.mg "sorted" = none) (ha : PA X [e] (lA t)) (hg : Gl X "sorted" := by rfl) (hs : starEach [e] X.env = (false, eval e X.env) :: starEach [] X.env := by rfl) : PE X (.Call (.Name "sorted" p) [e] [] pos) (lE (mCall oSorted t)) :=
  me_callB cr_sortT opA_sorted hm ha (by decide +kernel) hg (by decide) (by decide) hs
theorem me_sortQ {e : Expr} {p : Pos} {t : DA} (hm : X.mg "sorted" = none) (ha : PA X [e] (lA t)) (hg : Gl X "sorted" := by rfl) (hs : starEach [e] X.env = (false, eval e X.env) :: starEach [] X.env := by rfl) : PE X (.Call (.Name "sorted" p) [e] [] pos) (lE (mCall oSortQ t)) :=
  me_callB cr_sortQ opA_sortQ hm ha (by decide +kernel) hg (by decide) (by decide) hs
end
end ML

set_option maxRecDepth 100000
/-! ML9: isinstance, max, min, sum of a list. -/
namespace ML
open PySem PySem.Spec PyProof.Rows L2
inductive Ty where
  | tInt | tStr | tTup | tBool | tList
  deriving DecidableEq
def Ty.nm : Ty → String
  | .tInt => "int" | .tStr => "str" | .tTup => "tuple" | .tBool => "bool" | .tList => "list"
def tagD (S : Mem) : D → Option String
  | .non => some "NoneType" | .bl _ => some "bool" | .int _ => some "int" | .str _ => some "str" | .tup _ => some "tuple" | .kt _ => some "tuple" | .lst _ => some "list" | .fls _ => some "list"
  | .obj a => match S a with
    | some (.lst _) => some "list"
    | some (.dk _) => some "dict"
    | some (.dt _) => some "dict"
    | _ => none
def isT (T : Ty) (S : Mem) (d : D) : Option Bool := match T, d with
  | .tInt, .int _ => some true
  | .tInt, .bl _ => some true
  | .tStr, .str _ => some true
  | .tTup, .tup _ => some true
  | .tTup, .kt _ => some true
  | .tBool, .bl _ => some true
  | .tList, .lst _ => some true
  | .tList, .fls _ => some true
  | T, .obj a => match S a with
    | some (.lst _) => some (decide (T = .tList))
    | some (.dk _) => some false
    | some (.dt _) => some false
    | _ => none
  | _, _ => some false
abbrev mIsi (T : Ty) (t : DE) : DE := fun r S Q => t r S fun d S1 => opt (isT T S1 d) fun b => Q (.bl b) S1
theorem isT_kit {T : Ty} {S : Mem} {d : D} {b : Bool} (h : isT T S d = some b) : ∃ n, tagD S d = some n ∧ kitB n T.nm = some b := by
  have D0 : ∀ T : Ty, kitB "dict" T.nm = some false := by intro T; cases T <;> decide +kernel
  have L0 : ∀ T : Ty, kitB "list" T.nm = some (decide (T = .tList)) := by intro T; cases T <;> decide +kernel
  cases d with
  | obj a =>
    have h' : (match S a with
      | some (.lst _) => some (decide (T = .tList))
      | some (.dk _) => some false
      | some (.dt _) => some false
      | _ => none) = some b := by cases T <;> exact h
    unfold tagD
    split at h'
    · next e => cases h'; exact ⟨"list", by simp only [e], L0 T⟩
    · next e => cases h'; exact ⟨"dict", by simp only [e], D0 T⟩
    · next e => cases h'; exact ⟨"dict", by simp only [e], D0 T⟩
    · cases h'
  | non => refine ⟨_, rfl, ?_⟩; cases T <;> (cases h; decide +kernel)
  | bl x => refine ⟨_, rfl, ?_⟩; cases T <;> (cases h; decide +kernel)
  | int x => refine ⟨_, rfl, ?_⟩; cases T <;> (cases h; decide +kernel)
  | str x => refine ⟨_, rfl, ?_⟩; cases T <;> (cases h; decide +kernel)
  | tup x => refine ⟨_, rfl, ?_⟩; cases T <;> (cases h; decide +kernel)
  | kt x => refine ⟨_, rfl, ?_⟩; cases T <;> (cases h; decide +kernel)
  | lst x => refine ⟨_, rfl, ?_⟩; cases T <;> (cases h; decide +kernel)
  | fls x => refine ⟨_, rfl, ?_⟩; cases T <;> (cases h; decide +kernel)
theorem tag_rep {K : PySem.W.Frag} {w : W} {d : D} {v : V} {n : String} (m : Ok w) (h : tagD w.S d = some n) (r : Rep w v d) : TyX K w.H v (.type n) := by
  cases d with
  | non => cases r; cases h; exact .base .non
  | bl x => cases r; cases h; exact .base (.bl _)
  | int x => cases r; cases h; exact .base (.int _)
  | str x => cases r; cases h; exact .base (.str _)
  | tup x => cases h; cases r with | tup h n r z => exact .base (.tup h)
  | kt x => cases h; cases r with | kt h e n r z => exact .fTuple h
  | lst x => cases h; cases r with | lst h n r z => exact .base (.lst h)
  | fls x => cases h; cases r with | fls h n r z => exact .base (.frz h)
  | obj a =>
    cases r
    have h' : (match w.S a with
      | some (.lst _) => some "list"
      | some (.dk _) => some "dict"
      | some (.dt _) => some "dict"
      | _ => none) = some n := h
    clear h
    split at h'
    · next e => cases h'; obtain ⟨u, h1, h2⟩ := m.mem _ _ (m.sub _ _ e); cases h2 with | lst => exact .base (.lst h1)
    · next e => cases h'; obtain ⟨u, h1, h2⟩ := m.mem _ _ (m.sub _ _ e); cases h2 with | dk => exact .base (.dK h1)
    · next e => cases h'; obtain ⟨u, h1, h2⟩ := m.mem _ _ (m.sub _ _ e); cases h2 with | dt => exact .base (.dT h1)
    · cases h'
section
variable {X : Cx} {pos : Pos} {e : Expr} {te : DE}
theorem me_isi (T : Ty) {x : Str} {p q : Pos} (hm : X.mg "isinstance" = none) (hmT : X.mg x = none) (he : PE X e (lE te)) (hx : bootBuiltins x = some (.type T.nm) := by decide +kernel) (hxn : x ≠ "__name__" := by decide) (hxd : (x == ("__debug__" : Str)) = false := by decide) (hgT : Gl X x := by rfl) (hg : Gl X "isinstance" := by rfl)
    (hs : starEach [e, .Name x q] X.env = (false, eval e X.env) :: starEach [.Name x q] X.env := by rfl) (hs2 : starEach [.Name x q] X.env = (false, eval (.Name x q) X.env) :: starEach [] X.env := by rfl) :
    PE X (.Call (.Name "isinstance" p) [e, .Name x q] [] pos) (lE (mIsi T te)) := by
  refine (pe_callB call_isi hg hm (by decide +kernel) (pa_cons he (pa_cons (pe_bltn (v := .ty T.nm) hgT hmT hx rfl hxn hxd) pa_nil hs2) hs) (he := hs)).mi ?_
  rintro s H Q ⟨r, S, M, Q', R, t, k⟩
  refine ⟨r, S, M, _, R, t, fun d w1 v h k1 m1 r1 => ?_⟩
  obtain ⟨b, hb, q⟩ := of_opt h
  obtain ⟨n, h1, h2⟩ := isT_kit hb
  exact ⟨v, .ty T.nm, .type n, .type T.nm, b, rfl, .ty _, tag_rep m1 h1 r1, kit_ty h2, k _ w1 _ q k1 m1 (.bl _)⟩
/-! ### max, min, sum -/
def oMax1 : OA := fun ds S Q => match ds with
  | [d] => ∃ ns : List Int, asL S d = some (ns.map D.int) ∧ 0 < ns.length ∧ ∀ m, m ∈ ns → (∀ y, y ∈ ns → y ≤ m) → Q (.int m) S
  | _ => False
def oSum : OA := fun ds S Q => match ds with
  | [d] => ∃ ns : List Int, asL S d = some (ns.map D.int) ∧ Q (.int ns.sum) S
  | _ => False
theorem opA_max1 {K : PySem.W.Frag} : OpA (rMax K) oMax1 := by
  intro ds vs w Q Q' m rr h k
  unfold oMax1 at h
  split at h
  · obtain ⟨v, rfl, r⟩ := reps1 rr
    obtain ⟨ns, h1, h0, h2⟩ := h
    obtain ⟨a, vs, rfl, e1, e2, z⟩ := asL_rep (K := K) m h1 r
    rw [reps_ints e2] at e1
    exact ⟨a, ns, rfl, e1, h0, fun x hx hy => k _ w _ (h2 x hx hy) .refl m (.int _)⟩
  · exact h.elim
theorem opA_sum {K : PySem.W.Frag} : OpA (rSum K) oSum := by
  intro ds vs w Q Q' m rr h k
  unfold oSum at h
  split at h
  · obtain ⟨v, rfl, r⟩ := reps1 rr
    obtain ⟨ns, h1, h2⟩ := h
    obtain ⟨a, vs, rfl, e1, e2, z⟩ := asL_rep (K := K) m h1 r
    rw [reps_ints e2] at e1
    exact ⟨a, ns, rfl, e1, k _ w _ h2 .refl m (.int _)⟩
  · exact h.elim
theorem me_max1 {p : Pos} {t : DA} (hc : X.calm = true) (hm : X.mg "max" = none) (ha : PA X [e] (lA t)) (hg : Gl X "max" := by rfl) (hs : starEach [e] X.env = (false, eval e X.env) :: starEach [] X.env := by rfl) : PE X (.Call (.Name "max" p) [e] [] pos) (lE (mCall oMax1 t)) :=
  me_callB (cr_max hc) opA_max1 hm ha (by decide +kernel) hg (by decide) (by decide) hs
theorem me_sum {p : Pos} {t : DA} (hc : X.calm = true) (hm : X.mg "sum" = none) (ha : PA X [e] (lA t)) (hg : Gl X "sum" := by rfl) (hs : starEach [e] X.env = (false, eval e X.env) :: starEach [] X.env := by rfl) : PE X (.Call (.Name "sum" p) [e] [] pos) (lE (mCall oSum t)) :=
  me_callB (cr_sum hc) opA_sum hm ha (by decide +kernel) hg (by decide) (by decide) hs
end
end ML

set_option maxRecDepth 100000
/-! MD: dicts by ints and texts. -/
namespace ML
open PySem PySem.Spec PyProof.Rows L2
def putD {κ : Type} [DecidableEq κ] (kvs : List (κ × D)) (k : κ) (v : D) : List (κ × D) :=
  if (kvs.any fun kv => decide (kv.1 = k)) = true then kvs.map (fun kv => if kv.1 = k then (kv.1, v) else kv) else kvs ++ [(k, v)]
def ridD {κ : Type} [DecidableEq κ] (kvs : List (κ × D)) (k : κ) : List (κ × D) := kvs.filter fun kv => decide (kv.1 ≠ k)
abbrev PrR {κ : Type} (w : W) (kvs : List (κ × D)) (kws : List (κ × V)) : Prop := Paired (fun (p : κ × D) (q : κ × V) => p.1 = q.1 ∧ Rep w q.2 p.2) kvs kws
section
variable {κ : Type} [DecidableEq κ] {w : W}
theorem PrR.any {k : κ} : ∀ {kvs : List (κ × D)} {kws : List (κ × V)}, PrR w kvs kws → (kvs.any fun kv => decide (kv.1 = k)) = kws.any fun kv => decide (kv.1 = k)
  | [], [], .nil => rfl
  | _ :: _, _ :: _, .cons h t => by rw [List.any_cons, List.any_cons, PrR.any t, h.1]
theorem PrR.set {k : κ} {v : V} {d : D} (r : Rep w v d) : ∀ {kvs : List (κ × D)} {kws : List (κ × V)}, PrR w kvs kws → PrR w (kvs.map fun kv => if kv.1 = k then (kv.1, d) else kv) (kws.map fun kv => if kv.1 = k then (kv.1, v) else kv)
  | [], [], .nil => .nil
  | p :: _, q :: _, .cons h t => by
    rw [List.map_cons, List.map_cons]
    refine .cons ?_ (PrR.set r t)
    by_cases e : p.1 = k
    · rw [if_pos e, if_pos (h.1 ▸ e)]; exact ⟨h.1, r⟩
    · rw [if_neg e, if_neg (h.1 ▸ e)]; exact h
theorem PrR.add {k : κ} {v : V} {d : D} (r : Rep w v d) : ∀ {kvs : List (κ × D)} {kws : List (κ × V)}, PrR w kvs kws → PrR w (kvs ++ [(k, d)]) (kws ++ [(k, v)])
  | [], [], .nil => .cons ⟨rfl, r⟩ .nil
  | _ :: _, _ :: _, .cons h t => .cons h (PrR.add r t)
theorem PrR.put {k : κ} {v : V} {d : D} {kvs : List (κ × D)} {kws : List (κ × V)} (h : PrR w kvs kws) (r : Rep w v d) : PrR w (putD kvs k d) (putK kws k v) := by
  unfold putD putK
  rw [h.any]
  split
  · exact h.set r
  · exact h.add r
theorem PrR.rid {k : κ} : ∀ {kvs : List (κ × D)} {kws : List (κ × V)}, PrR w kvs kws → PrR w (ridD kvs k) (dropK kws k)
  | [], [], .nil => .nil
  | p :: _, q :: _, .cons h t => by
    unfold ridD dropK
    rw [List.filter_cons, List.filter_cons, h.1]
    split
    · exact .cons h (PrR.rid t)
    · exact PrR.rid t
theorem PrR.len : ∀ {kvs : List (κ × D)} {kws : List (κ × V)}, PrR w kvs kws → kvs.length = kws.length
  | [], [], .nil => rfl
  | _ :: _, _ :: _, .cons _ t => by rw [List.length_cons, List.length_cons, PrR.len t]
end
theorem Ok.dk {w : W} {a : Addr} {kvs : List (Key × D)} (m : Ok w) (h : w.S a = some (.dk kvs)) : ∃ kws, w.H a = some (.dK kws) ∧ PrR w kvs kws := by
  obtain ⟨u, h1, h2⟩ := m.mem _ _ (m.sub _ _ h)
  cases h2 with
  | dk r => exact ⟨_, h1, r⟩
theorem Ok.dt {w : W} {a : Addr} {kvs : List (List Key × D)} (m : Ok w) (h : w.S a = some (.dt kvs)) : ∃ kws, w.H a = some (.dT kws) ∧ PrR w kvs kws := by
  obtain ⟨u, h1, h2⟩ := m.mem _ _ (m.sub _ _ h)
  cases h2 with
  | dt r => exact ⟨_, h1, r⟩
abbrev mDNew : DE := fun _ S Q => ∀ a, S a = none → Q (.obj a) (up S a (.dk []))
abbrev mDNewT : DE := fun _ S Q => ∀ a, S a = none → Q (.obj a) (up S a (.dt []))
/-- d[y] = v, as data -/
def oPut (x y v : D) (S : Mem) (K : Mem → Prop) : Prop := match x with
  | .obj a => match S a with
    | some (.dk kvs) => ∃ k, keyOf y = some k ∧ kvs.length < sizeLine ∧ K (up S a (.dk (putD kvs k v)))
    | some (.dt kvs) => ∃ ds k, y = .tup ds ∧ keysOf ds = some k ∧ kvs.length < sizeLine ∧ K (up S a (.dt (putD kvs k v)))
    | _ => False
  | _ => False
abbrev mPut (to ti tv : DE) : DS := fun N r S => tv r S fun v S1 => to r S1 fun x S2 => ti r S2 fun y S3 => oPut x y v S3 fun S4 => N.nx r S4
section
variable {X : Cx} {pos pos' : Pos}
theorem me_dnew : PE X (.Dict [] [] pos) (lE mDNew) := pe_dnewK.mi fun s H Q ⟨r, S, M, Q', R, t, k⟩ p hp =>
  k _ ⟨up S p (.dk []), up M p (.dk []), _⟩ _ (t p (R.ok.freeS hp)) (.alloc hp) (R.ok.alloc hp (.dk .nil)) (.obj p)
theorem me_dnewT : PE X (.Dict [] [] pos) (lE mDNewT) := pe_dnewT.mi fun s H Q ⟨r, S, M, Q', R, t, k⟩ p hp =>
  k _ ⟨up S p (.dt []), up M p (.dt []), _⟩ _ (t p (R.ok.freeS hp)) (.alloc hp) (R.ok.alloc hp (.dt .nil)) (.obj p)
theorem put_ok {w : W} {x y v : D} {xv yv vv : V} {K : Mem → Prop} (m : Ok w) (rx : Rep w xv x) (ry : Rep w yv y) (rv : Rep w vv v) (h : oPut x y v w.S K) :
    ∃ a H4 S4 M4, xv = .ref a ∧ DPut w.H a yv vv H4 ∧ K S4 ∧ Step w ⟨S4, M4, H4⟩ ∧ Ok ⟨S4, M4, H4⟩ := by
  unfold oPut at h
  cases x with
  | obj a =>
    cases rx
    dsimp only at h
    split at h
    · next kvs e =>
      obtain ⟨k, hk, hl, h⟩ := h
      obtain ⟨kws, e1, pr⟩ := m.dk e
      have ey := keyOf_rep hk ry
      subst ey
      exact ⟨a, _, _, up w.M a (.dk (putD kvs k v)), rfl, .k e1 (by rw [← pr.len]; exact hl), h, Step.write e, m.write e (.dk (pr.put rv))⟩
    · next kvs e =>
      obtain ⟨ds, k, rfl, hk, hl, h⟩ := h
      obtain ⟨kws, e1, pr⟩ := m.dt e
      cases ry with
      | @tup b vs _ hb hn rs hz =>
        have := keysOf_rep hk rs
        subst this
        exact ⟨a, _, _, up w.M a (.dt (putD kvs k v)), rfl, .t e1 hb (by rw [← pr.len]; exact hl), h, Step.write e, m.write e (.dt (pr.put rv))⟩
    · exact h.elim
  | _ => exact h.elim
theorem ms_put {Wn : NX} {n : Nat} {o i value : Expr} {to ti tv : DE} (hr : Room n X.A) (ho : PE X o (lE to)) (hi : PE X i (lE ti)) (hv : PE X value (lE tv)) (hs : swapsWith value (some (.Subscript o i pos')) pos.line X.env = pure false := by rfl) : PS X (.Assign [.Subscript o i pos'] value pos) (lSx Wn (mPut to ti tv)) :=
  (ps_dput (by have := hr.un; omega) ho hi hv hs).mi fun D s H ⟨r, S, M, D', R, h, f⟩ => ⟨r, S, M, _, R, h, fun v w1 vv h1 k1 m1 r1 => ⟨r, w1.S, w1.M, _, R.keep k1 m1, h1, fun x w2 xv h2 k2 m2 r2 =>
    ⟨r, w2.S, w2.M, _, (R.keep k1 m1).keep k2 m2, h2, fun y w3 yv h3 k3 m3 r3 => by
      obtain ⟨a, H4, S4, M4, e, g, q, st, ok⟩ := put_ok m3 (r2.keep k3 m2) r3 ((r1.keep k2 m1).keep k3 m2) h3
      exact ⟨a, H4, e, g, f.nx r ⟨S4, M4, H4⟩ s q ((((R.keep k1 m1).keep k2 m2).keep k3 m3).keep st ok) (((k1.trans k2).trans k3).trans st)⟩⟩⟩⟩
/-! ### sorted(d), d by ints -/
def oSortD : OA := fun ds S Q => match ds with
  | [.obj a] => match S a with
    | some (.dk kvs) => ∃ ks : List Int, kvs.map (·.1) = ks.map Sum.inl ∧ ks.length < 64 ∧ ∀ ys : List Int, ys.Perm ks → ys.Pairwise (· ≤ ·) → Q (.lst (ys.map D.int)) S
    | _ => False
  | _ => False
theorem PrR.keys {κ : Type} {w : W} : ∀ {kvs : List (κ × D)} {kws : List (κ × V)}, PrR w kvs kws → kvs.map (·.1) = kws.map (·.1)
  | [], [], .nil => rfl
  | _ :: _, _ :: _, .cons h t => by rw [List.map_cons, List.map_cons, PrR.keys t, h.1]
theorem opA_sortD : OpA (fun xs H Q => ∃ (a : Addr) (kvs : List (Key × V)) (ks : List Int), xs = [.ref a] ∧ Rd H a (.dK kvs) ∧ kvs.map (·.1) = ks.map Sum.inl ∧ ks.length < 64 ∧
    ∀ (ys : List Int) (p : Addr), ys.Perm ks → ys.Pairwise (· ≤ ·) → H p = none → Q (.ref p) (upd H p (.lst (ys.map V.int)))) oSortD := by
  intro ds vs w Q Q' m rr h k
  unfold oSortD at h
  split at h
  · next a =>
    obtain ⟨v, rfl, r⟩ := reps1 rr
    cases r
    split at h
    · next kvs e =>
      obtain ⟨ks, h1, h2, h3⟩ := h
      obtain ⟨kws, e1, pr⟩ := m.dk e
      refine ⟨a, kws, ks, rfl, .inl e1, pr.keys.symm.trans h1, h2, fun ys p hp hs hn => k _ ⟨w.S, w.M, _⟩ _ (h3 ys hp hs) (.new hn) (m.new hn) (.lst upd_same (m.free hn) (ints_reps ys) ?_)⟩
      rw [List.length_map, hp.length_eq]
      have := sizeLine_eq
      omega
    · exact h.elim
  · exact h.elim
theorem me_sortD {e : Expr} {p : Pos} {t : DA} (hc : X.calm = true) (hm : X.mg "sorted" = none) (ha : PA X [e] (lA t)) (hg : Gl X "sorted" := by rfl) (hs : starEach [e] X.env = (false, eval e X.env) :: starEach [] X.env := by rfl) : PE X (.Call (.Name "sorted" p) [e] [] pos) (lE (mCall oSortD t)) :=
  me_callB (call_sortedDI hc) opA_sortD hm ha (by decide +kernel) hg (by decide) (by decide) hs
/-! ### dict of a list of pairs -/
def mergeD (kvs : List (Key × D)) (more : List (Key × D)) : List (Key × D) := more.foldl (fun acc kv => putD acc kv.1 kv.2) kvs
theorem PrR.merge {w : W} : ∀ {more : List (Key × D)} {rs : List (Key × V)} {kvs : List (Key × D)} {vs : List (Key × V)}, PrR w more rs → PrR w kvs vs → PrR w (mergeD kvs more) (mergeK vs rs)
  | [], [], _, _, .nil, h => h
  | p :: more, q :: rs, kvs, vs, .cons h t, h0 => by
    show PrR w (mergeD (putD kvs p.1 p.2) more) (mergeK (putK vs q.1 q.2) rs)
    rw [← h.1]
    exact PrR.merge t (h0.put h.2)
/-- the pairs of a list -/
def pairD (k : Key) (d : D) : D := .tup [(match k with | .inl i => .int i | .inr x => .str x), d]
def oDict1 : OA := fun ds S Q => match ds with
  | [.lst xs] => ∃ kvs : List (Key × D), xs = kvs.map (fun kv => pairD kv.1 kv.2) ∧ ∀ a, S a = none → Q (.obj a) (up S a (.dk (mergeD [] kvs)))
  | _ => False
theorem pair_reps {K : PySem.W.Frag} {w : W} : ∀ {kvs : List (Key × D)} {vs : List V}, Reps w vs (kvs.map fun kv => pairD kv.1 kv.2) → ∃ (ps : List Addr) (kws : List (Key × V)), vs = ps.map V.ref ∧ Paired (fun p kv => SqT K w.H p [kV kv.1, kv.2]) ps kws ∧ PrR w kvs kws
  | [], _, .nil => ⟨[], [], rfl, .nil, .nil⟩
  | (k, d) :: kvs, _, .cons r t => by
    obtain ⟨ps, kws, rfl, h2, h3⟩ := pair_reps (K := K) t
    cases r with
    | @tup a vs _ ha hn rs hz =>
      cases rs with
      | cons r1 rs =>
        cases rs with
        | cons r2 rs =>
          cases rs
          cases k with
          | inl i => cases r1; exact ⟨a :: ps, (.inl i, _) :: kws, rfl, .cons (.inl (.inl ha)) h2, .cons ⟨rfl, r2⟩ h3⟩
          | inr x => cases r1; exact ⟨a :: ps, (.inr x, _) :: kws, rfl, .cons (.inl (.inl ha)) h2, .cons ⟨rfl, r2⟩ h3⟩
theorem opA_dict1 {K : PySem.W.Frag} : OpA (fun xs H Q => ∃ (a : Addr) (ps : List Addr) (kvs : List (Key × V)), xs = [.ref a] ∧ SqL K H a (ps.map V.ref) ∧ Paired (fun p kv => SqT K H p [kV kv.1, kv.2]) ps kvs ∧
    ∀ p, H p = none → Q (.ref p) (upd H p (.dK (mergeK [] kvs)))) oDict1 := by
  intro ds vs w Q Q' m rr h k
  unfold oDict1 at h
  split at h
  · next xs =>
    obtain ⟨v, rfl, r⟩ := reps1 rr
    obtain ⟨kvs, rfl, h2⟩ := h
    cases r with
    | lst ha hn rs hz =>
      obtain ⟨ps, kws, rfl, g1, g2⟩ := pair_reps (K := K) rs
      exact ⟨_, ps, kws, rfl, .inl (.inl ha), g1, fun p hp => k _ ⟨up w.S p (.dk (mergeD [] kvs)), up w.M p (.dk (mergeD [] kvs)), _⟩ _ (h2 p (m.freeS hp)) (.alloc hp) (m.alloc hp (.dk (g2.merge .nil))) (.obj p)⟩
  · exact h.elim
theorem me_dict1 {e : Expr} {p : Pos} {t : DA} (hc : X.calm = true) (hm : X.mg "dict" = none) (ha : PA X [e] (lA t)) (hg : Gl X "dict" := by rfl) (hs : starEach [e] X.env = (false, eval e X.env) :: starEach [] X.env := by rfl) : PE X (.Call (.Name "dict" p) [e] [] pos) (lE (mCall oDict1 t)) :=
  me_callTy (call_dictP hc) opA_dict1 hm ha (by decide +kernel) hg (by decide) (by decide) hs
end
end ML

set_option maxRecDepth 100000
/-! ME: enumerate of tuples and of lists. -/
namespace ML
open PySem PySem.Spec PyProof.Rows L2
theorem meets_enumT (t : Addr) (items : Array Value) (n : Nat) (dct : Option Addr) (sl : Array (Option Value)) :
    Meets (Builtin.«enumerate.__new__» ⟨[.type "enumerate", .ref t], []⟩) (fun _ R s => s.heap.get? t = some { cls := .type "tuple", dict := dct, data := .seq items n, slots := sl } ∧
      R (.ok (.ret (.ref (s.heap.push { cls := .type "tuple_iterator", data := .fields #[.ref t, .int 0 0] }).objs.size)))
        { s with heap := (s.heap.push { cls := .type "tuple_iterator", data := .fields #[.ref t, .int 0 0] }).push { cls := .type "enumerate", data := .fields #[.none, .bool false, .ref s.heap.objs.size, rawInt 0, .none, .none] } }) :=
  .of_wp fun prog w A R s h => by
    obtain ⟨hp, g, d, tk, os⟩ := s; obtain ⟨hl, h⟩ := h
    have hsub := sub_enumerate
    have hT : Heap.IsTuple (Shared.heap ⟨hp, g, d, tk, os⟩) t items := ⟨_, hl, rfl, n, rfl⟩
    wp_walk using wpAny_loadPart' hl
    refine wpAny_stack_any fun st => wpAny_pure ?_
    split
    · rename_i c _ _ _ _ _
      cases (c == Value.type "enumerate")
      · wp_walk using wpAny_loadPart' hl, wpAny_pyIter_tuple hT
        exact ⟨_, rfl, h⟩
      · wp_walk using wpAny_loadPart' hl, wpAny_pyIter_tuple hT
        exact ⟨_, rfl, h⟩
    · wp_walk using wpAny_loadPart' hl, wpAny_pyIter_tuple hT
      exact ⟨_, rfl, h⟩
theorem call_enumT {prog : Program} {w : World} {A : Around} {E : Value → Shared → Prop} {s : Shared} {t : Addr} {items : Array Value} {Q : Value → Shared → Prop} (hT : s.heap.IsTuple t items)
    (h : ∀ h', IsEnum h' (s.heap.objs.size + 1) s.heap.objs.size 0 .none → h'.IsTupleIter s.heap.objs.size t 0 → h'.objs.size = s.heap.objs.size + 2 → (∀ b o, s.heap.get? b = some o → h'.get? b = some o) → Q (.ref (s.heap.objs.size + 1)) { s with heap := h' }) :
    wpAny (model prog w) A (call (.type "enumerate") [.ref t]) Q E s := by
  obtain ⟨⟨c, dct, dt, sl⟩, hl, hc, n, hd⟩ := hT
  replace hc : c = .type "tuple" := hc
  replace hd : dt = .seq items n := hd
  subst hc hd
  refine callType_new F.called_enumerate (by decide) (F.typeCall_enumerate_1 _) (F.newCall_enumerate_1 _) (fun obj => F.args_object_init_2 obj _) F.entry_enumerate_new (meets_enumT t items n dct sl) ⟨hl, ?_⟩
  have hz : (s.heap.push { cls := .type "tuple_iterator", data := .fields #[.ref t, .int 0 0] }).objs.size = s.heap.objs.size + 1 := Heap.size_push ..
  show _ ∧ _
  rw [hz]
  have he : IsEnum ((s.heap.push { cls := .type "tuple_iterator", data := .fields #[.ref t, .int 0 0] }).push
      { cls := .type "enumerate", data := .fields #[.none, .bool false, .ref s.heap.objs.size, rawInt 0, .none, .none] }) (s.heap.objs.size + 1) s.heap.objs.size 0 .none := by
    have := Heap.get?_push_size (s.heap.push { cls := .type "tuple_iterator", data := .fields #[.ref t, .int 0 0] })
      (o := { cls := .type "enumerate", data := .fields #[.none, .bool false, .ref s.heap.objs.size, rawInt 0, .none, .none] }) rfl
    rw [hz] at this; exact this
  exact ⟨⟨_, he, rfl⟩, h _ he ⟨_, Heap.get?_push_of_some _ (Heap.get?_push_size _ rfl), rfl, rfl⟩ (by rw [Heap.size_push, hz]) fun b o x => Heap.get?_push_of_some _ (Heap.get?_push_of_some _ x)⟩
def IteT (K : PySem.W.Frag) (a : Addr) : It :=
  ⟨fun i H => ∃ (xs : List V) (x : V), SqT K H a xs ∧ xs[i]? = some x, fun i H v H' => ∃ T x, v = .ref T ∧ H T = none ∧ H' = upd H T (.tup [.int (i : Nat), x]) ∧ ∀ xs, SqT K H a xs → xs[i]? = some x, fun i H => ∃ xs : List V, SqT K H a xs ∧ xs.length ≤ i⟩
theorem tup_ne {h : Heap} {a it : Addr} {items : Array Value} {i : Nat} (p : h.IsTuple a items) (q : h.IsTupleIter it a i) : a ≠ it := by
  obtain ⟨o, h1, h2, _⟩ := p
  obtain ⟨o', g1, g2, _⟩ := q
  intro e
  subst e
  rw [h1] at g1
  cases g1
  rw [h2] at g2
  exact absurd (Value.type.inj g2) (by decide)
theorem enum_endT {prog : Program} {w : World} {A : Around} {E : Value → Shared → Prop} {s : Shared} {e it t : Addr} {i : Nat} {c : Int} {items : Array Value} {old : Value} {Q : Option Value → Shared → Prop} (hh : A.in1.handled = none) (he : IsEnum s.heap e it c old) (hit : s.heap.IsTupleIter it t i) (ht : s.heap.IsTuple t items) (hx : items[i]? = none)
    (hQ : ∀ h', Heap.ExtBut it s.heap h' → Q none { s with heap := h' }) : wpAny (model prog w) A (pyNext (.ref e)) Q E s := by
  have hT : s.TypeIs (.ref e) "enumerate" := ⟨_, he, rfl⟩
  unfold pyNext
  refine wpAny_bind (wpAny_attempt (wpAny_callSpecial?_slot (name := Str.ofString "__next__") hT F.slot_enumerate_next (wpAny_call_entry F.slot_enumerate_next hT F.entry_enumerate_next ?_ (F.args_enumerate_next_1 _))))
  show wpAny _ _ (field (.ref e) 2 >>= _) _ _ _
  refine wpAny_bind (wpAny_field he rfl (x := .ref it) rfl ?_)
  refine wpAny_bind (wpAny_nextOf_tuple_end hh hit ht hx fun h' x he' ⟨o, ho, hc⟩ => ?_)
  exact wpAny_bind (wpAny_isInstance (T := "StopIteration") (b := true) ⟨o, ho, hc⟩ isSubtype_stop (wpAny_pure (hQ _ he')))
theorem turn_enumT {P : Program} {w : World} {K : PySem.W.Frag} {elts : List Expr} {kk : Nat} {tpos : Pos} (a e it : Addr) (hae : a ≠ e) :
    Turn P w K (.Tuple elts kk tpos) (IteT K a) [e, it] e (fun i h => (∃ old, IsEnum h e it ((i : Nat) : Int) old) ∧ h.IsTupleIter it a i ∧ e ≠ it) where
  mem := by simp
  obj := fun i h st b hb => by
    obtain ⟨⟨old, he⟩, ⟨o, ho, hc, hd⟩, _⟩ := st
    have e' : b = e ∨ b = it := by simpa using hb
    rcases e' with z | z
    · rw [z]; exact ⟨_, he, fun v q => nomatch q⟩
    · rw [z]; exact ⟨o, ho, fun v q => by rw [hd] at q; cases q⟩
  keep := fun i h h' st k => let ⟨⟨old, he⟩, ⟨o, ho, r⟩, hne⟩ := st; ⟨⟨old, k e (by simp) _ he⟩, ⟨o, k it (by simp) o ho, r⟩, hne⟩
  item := by
    intro X hP hw hK hc i pins s σ H E I hf st hg
    subst hP hw hK
    obtain ⟨⟨old, he⟩, hit, hne⟩ := st
    obtain ⟨xs, x, hq, hx⟩ := hg
    obtain ⟨its, rv, p, hz⟩ := I.tuple hq
    obtain ⟨u, hu, ru⟩ := rv.get hx
    have hel : e < s.heap.objs.size := Heap.lt_size he
    have hil : it < s.heap.objs.size := by obtain ⟨_, q, _⟩ := hit; exact Heap.lt_size q
    have p' : s.heap.IsTuple a its.toArray := p
    have hai := tup_ne p' hit
    have hi : i < its.toArray.size := by have := (List.getElem?_eq_some_iff.mp hu).1; simpa using this
    refine wpAny_pyNext_enum_itemD (Draws.tuple (by show X.A.in1.handled = none; exact I.ok.hd hc) it a hai its.toArray) he ⟨hit, p'⟩ hi hne (by simp [hne, Ne.symm hae]) fun x' h' tk hx' ho hst hT hsz hk => ?_
    obtain rfl : x' = u := by
      have : its.toArray[i]? = some u := by simpa using hu
      rw [this] at hx'; exact (Option.some.inj hx').symm
    refine ⟨_, rfl, wpAny_letOwnedTupleGo_enum (s := { s with heap := h', toks := tk + 1 }) ho fun h'' he' sb => ?_⟩
    have hT2 : h''.get? s.heap.objs.size = some { cls := .type "tuple", data := .seq #[.int i tk, x'] } := (sb.2 _ (Nat.ne_of_gt hel)).trans hT
    have new : ObjOk X.prog X.w (upd H s.heap.objs.size (.tup [.int (i : Nat), x])) h'' s.heap.objs.size (.tup [.int (i : Nat), x]) :=
      ⟨by show 2 ≤ sizeLine; decide, [.int i tk, x'], .cons ⟨_, rfl⟩ (.cons ru .nil), ⟨_, hT2, rfl, _, rfl⟩⟩
    have I1 : Inv X pins σ (upd H s.heap.objs.size (.tup [.int (i : Nat), x])) { s with heap := h'', toks := tk + 1 } :=
      I.turnedNew (ch := [e, it]) (fun b ob hb q => (sb.2 b (fun z => hb (by simp [z]))).trans (hk b ob (fun z => hb (by simp [z])) (fun z => hb (by simp [z])) q)) hf (Nat.le_refl _) new
    refine ⟨.ref s.heap.objs.size, _, I1, rfl, ⟨_, x, rfl, I.hok.fresh (Nat.le_refl _), rfl, fun ys hy => by rw [I.tuple_inj hy hq]; exact hx⟩, ⟨⟨x', ?_⟩, ?_, hne⟩, fun b hb => ?_⟩
    · have e1 : ((i + 1 : Nat) : Int) = (i : Int) + 1 := by omega
      rw [e1]; exact he'
    · obtain ⟨o, ho2, r2⟩ := hst.1
      exact ⟨o, (sb.2 it (Ne.symm hne)).trans ho2, r2⟩
    · have hb' : b < s.heap.objs.size := by
        have e' : b = e ∨ b = it := by simpa using hb
        rcases e' with z | z
        · rw [z]; exact hel
        · rw [z]; exact hil
      rw [upd_ne (Nat.ne_of_lt hb')]
      exact (hf b hb).1
  done := by
    intro X hP hw hK hc i pins s σ H E I hf st hg
    subst hP hw hK
    obtain ⟨⟨old, he⟩, hit, hne⟩ := st
    obtain ⟨xs, hq, hx⟩ := hg
    obtain ⟨its, rv, p, hz⟩ := I.tuple hq
    obtain ⟨f0, f1, f2, f3, f4, f5⟩ := hf it (by simp)
    have hl := rv.length
    have p' : s.heap.IsTuple a its.toArray := p
    have hai := tup_ne p' hit
    exact enum_endT (by show X.A.in1.handled = none; exact I.ok.hd hc) he hit p' (by simp; omega) fun h' eb => ⟨rfl, I.turned (t' := s.toks) (fun b o hb q => eb b o hb q) f0 f1 f3 f4 f5⟩
  self := fun A i s Q E st h => let ⟨⟨_, he⟩, _⟩ := st; wpAny_pyIter_enum he h
/-- enumerate of a tuple or a list, into a target of several names -/
def iEnumA (K : PySem.W.Frag) (ta : TA) : TI := fun σ H R => ta σ H fun vs H1 => ∃ a xs, vs = [.ref a] ∧ ((SqL K H1 a xs ∧ R (Ite K a) H1) ∨ (SqT K H1 a xs ∧ R (IteT K a) H1))
theorem pi_enumA {X : Cx} {e : Expr} {ta : TA} {p pos tpos : Pos} {elts : List Expr} {kk : Nat} (hg : Gl X "enumerate") (hm : X.mg "enumerate" = none) (ha : PA X [e] ta) (hs : starEach [e] X.env = [(false, eval e X.env)] := by rfl) :
    PI X (.Tuple elts kk tpos) (.Call (.Name "enumerate" p) [e] [] pos) (iEnumA X.K ta) := by
  refine ⟨fun pins s σ H R I h => ?_⟩
  refine Call_ (ld_blt I hg hm boot_enumerate (PyProof.Rows.callWith_type1 (thn (ha.run pos pins s σ H _ I h) fun us s1 ⟨vs, H1, I1, r1, q1⟩ => ?_) hs rfl))
  obtain ⟨a, xs, ex, hq⟩ := q1
  subst ex
  cases r1 with
  | cons r rr =>
    cases rr
    cases r
    have fp : ∀ b ∈ [s1.heap.objs.size + 1, s1.heap.objs.size], FpOk X pins H1 b := fun b hb => by
      have e' : b = s1.heap.objs.size + 1 ∨ b = s1.heap.objs.size := by simpa using hb
      have hle : s1.heap.objs.size ≤ b := by rcases e' with z | z <;> omega
      exact I1.fpOk hle (I1.hok.fresh hle)
    rcases hq with ⟨hq, q⟩ | ⟨hq, q⟩
    · obtain ⟨its, rv, p', hz⟩ := I1.list hq
      refine call_enumerate_list p'.isList fun h' he hit hsz hk => wpAny_pyIter_enum he ?_
      exact ⟨s1.heap.objs.size + 1, _, _, _, H1, rfl, I1.kept (t' := s1.toks) hk, turn_enum a (s1.heap.objs.size + 1) s1.heap.objs.size, ⟨⟨.none, he⟩, hit, Nat.succ_ne_self _⟩, fp, q⟩
    · obtain ⟨its, rv, p', hz⟩ := I1.tuple hq
      have hae : a ≠ s1.heap.objs.size + 1 := by
        obtain ⟨o, ho, _⟩ := p'
        exact Nat.ne_of_lt (Nat.lt_succ_of_lt (Heap.lt_size ho))
      refine call_enumT p' fun h' he hit hsz hk => wpAny_pyIter_enum he ?_
      exact ⟨s1.heap.objs.size + 1, _, _, _, H1, rfl, I1.kept (t' := s1.toks) hk, turn_enumT a (s1.heap.objs.size + 1) s1.heap.objs.size hae, ⟨⟨.none, he⟩, hit, Nat.succ_ne_self _⟩, fp, q⟩
def enumD (xs : List D) : List D := xs.zipIdx.map fun p => .tup [.int (p.2 : Nat), p.1]
theorem enumD_get {xs : List D} {i : Nat} {d : D} (h : (enumD xs)[i]? = some d) : ∃ x, xs[i]? = some x ∧ d = .tup [.int (i : Nat), x] := by
  unfold enumD at h
  rw [List.getElem?_map, List.getElem?_zipIdx] at h
  cases e : xs[i]? with
  | none => rw [e] at h; cases h
  | some x => rw [e] at h; cases h; exact ⟨x, rfl, by simp⟩
theorem enumD_len (xs : List D) : (enumD xs).length = xs.length := by unfold enumD; rw [List.length_map, List.length_zipIdx]
abbrev wEnum (t : DA) : DI := fun r S R => t r S fun ds S1 => match ds with
  | [.lst xs] => R (enumD xs) none S1
  | [.fls xs] => R (enumD xs) none S1
  | [x] => opt (asT x) fun xs => R (enumD xs) none S1
  | _ => False
theorem wk_enumT {K : PySem.W.Frag} {w : W} {a : Addr} {xs : List D} (hr : ∀ w', Keeps w w' → ∃ vs, SqT K w'.H a vs ∧ Reps w' vs xs) (hz : xs.length ≤ sizeLine) : Wk (IteT K a) (enumD xs) none w := by
  refine ⟨fun i w' d kk m c e => ?_, fun i w' kk m c e => ?_, by rw [enumD_len]; exact hz⟩
  · obtain ⟨x, e1, rfl⟩ := enumD_get e
    obtain ⟨vs, h1, h2⟩ := hr w' kk
    obtain ⟨v, g1, g2⟩ := h2.get e1
    refine ⟨⟨vs, v, h1, g1⟩, fun y H' ⟨T, x', ey, hT, eH, hx'⟩ => ?_⟩
    subst ey; subst eH
    have : x' = v := Option.some.inj ((hx' vs h1).symm.trans g1)
    subst this
    exact ⟨.new hT, m.new hT, .tup upd_same (m.free hT) (.cons (.int _) (.cons (g2.keep (.new hT) m) .nil)) (by show 2 ≤ sizeLine; decide)⟩
  · rw [enumD_len] at e
    obtain ⟨vs, h1, h2⟩ := hr w' kk
    exact ⟨vs, h1, by rw [h2.length]; exact e⟩
theorem wk_enumL {K : PySem.W.Frag} {w : W} {a : Addr} {xs : List D} (hr : ∀ w', Keeps w w' → ∃ vs, SqL K w'.H a vs ∧ Reps w' vs xs) (hz : xs.length ≤ sizeLine) : Wk (Ite K a) (enumD xs) none w := by
  refine ⟨fun i w' d kk m c e => ?_, fun i w' kk m c e => ?_, by rw [enumD_len]; exact hz⟩
  · obtain ⟨x, e1, rfl⟩ := enumD_get e
    obtain ⟨vs, h1, h2⟩ := hr w' kk
    obtain ⟨v, g1, g2⟩ := h2.get e1
    refine ⟨⟨vs, v, h1, g1⟩, fun y H' ⟨T, x', ey, hT, eH, hx'⟩ => ?_⟩
    subst ey; subst eH
    have : x' = v := Option.some.inj ((hx' vs h1).symm.trans g1)
    subst this
    exact ⟨.new hT, m.new hT, .tup upd_same (m.free hT) (.cons (.int _) (.cons (g2.keep (.new hT) m) .nil)) (by show 2 ≤ sizeLine; decide)⟩
  · rw [enumD_len] at e
    obtain ⟨vs, h1, h2⟩ := hr w' kk
    exact ⟨vs, h1, by rw [h2.length]; exact e⟩
theorem mi_enum {X : Cx} {e : Expr} {t : DA} {p pos tpos : Pos} {elts : List Expr} {kk : Nat} (hm : X.mg "enumerate" = none) (ha : PA X [e] (lA t)) (hg : Gl X "enumerate" := by rfl) (hs : starEach [e] X.env = [(false, eval e X.env)] := by rfl) :
    PI X (.Tuple elts kk tpos) (.Call (.Name "enumerate" p) [e] [] pos) (lI (wEnum t)) :=
  (pi_enumA hg hm ha hs).mi fun s H Rr ⟨r, S, M, R', R, t, k⟩ => ⟨r, S, M, _, R, t, fun ds w1 vs q k1 m1 r1 => by
    have tup : ∀ (x : D) (xs : List D) (v : V), asT x = some xs → Rep w1 v x → R' (enumD xs) none w1.S → ∃ a xs, v = .ref a ∧ ((SqL X.K w1.H a xs ∧ Rr (Ite X.K a) w1.H) ∨ (SqT X.K w1.H a xs ∧ Rr (IteT X.K a) w1.H)) := by
      intro x xs v ex rx q
      obtain ⟨a, vs, rfl, h1, h2, h3⟩ := asT_repK (K := X.K) ex rx
      exact ⟨a, vs, rfl, .inr ⟨h1 w1 (fun _ _ h n => ⟨h, n⟩), k _ _ w1 _ q k1 m1 (wk_enumT (fun w' kk => ⟨vs, h1 w' kk, h2.keeps kk⟩) h3)⟩⟩
    split at q
    · next xs =>
      obtain ⟨v, rfl, rv⟩ := reps1 r1
      cases rv with
      | @lst a vs _ e n rr z => exact ⟨a, vs, rfl, .inl ⟨.inl (.inl e), k _ _ w1 _ q k1 m1 (wk_enumL (fun w' kk => ⟨vs, .inl (.inl (kk _ _ e n).1), rr.keeps kk⟩) z)⟩⟩
    · next xs =>
      obtain ⟨v, rfl, rv⟩ := reps1 r1
      cases rv with
      | @fls a o vs _ e n rr z => exact ⟨a, vs, rfl, .inl ⟨.inl (.inr ⟨_, e⟩), k _ _ w1 _ q k1 m1 (wk_enumL (fun w' kk => ⟨vs, .inl (.inr ⟨_, (kk _ _ e n).1⟩), rr.keeps kk⟩) z)⟩⟩
    · next x _ _ =>
      obtain ⟨v, rfl, rv⟩ := reps1 r1
      obtain ⟨xs, e, q⟩ := of_opt q
      obtain ⟨a, ys, e1, h⟩ := tup x xs v e rv q
      exact ⟨a, ys, by rw [e1], h⟩
    · exact q.elim⟩
end ML

set_option maxRecDepth 100000
/-! ML10: xs[::-1] of lists. -/
namespace ML
open PySem PySem.Spec PyProof.Rows L2
abbrev mRev (t : DE) : DE := fun r S Q => t r S fun d S1 => opt (asL S1 d) fun xs => Q (.lst xs.reverse) S1
theorem reps_rev {w : W} {vs : List V} {ds : List D} (r : Reps w vs ds) : Reps w vs.reverse ds.reverse := by
  obtain ⟨h1, h2, h3⟩ := reps_zip r
  have := reps_unzip (ps := (vs.zip ds).reverse) fun p hp => h3 p (List.mem_reverse.mp hp)
  rw [List.map_reverse, List.map_reverse, h1, h2] at this
  exact this
section
variable {X : Cx} {pos : Pos} {e : Expr} {te : DE}
theorem me_rev {k : Nat} {p1 p2 p3 : Pos} (he : PE X e (lE te)) : PE X (.Subscript e (.Slice none none (some (.UnaryOp .USub (.Constant (.int 1) k p1) p2)) p3) pos) (lE (mRev te)) :=
  (pe_revL he).mi fun s H Q ⟨r, S, M, Q', R, t, k⟩ => ⟨r, S, M, _, R, t, fun d w1 v h k1 m1 r1 => by
    obtain ⟨xs, ex, q⟩ := of_opt h
    obtain ⟨a, vs, rfl, h1, h2, h3⟩ := asL_rep (K := X.K) m1 ex r1
    exact ⟨a, vs, rfl, h1, fun p hp => k _ ⟨w1.S, w1.M, _⟩ _ q (k1.trans (.new hp)) (m1.new hp) (.lst upd_same (m1.free hp) ((reps_rev h2).keep (.new hp) m1) (by rw [List.length_reverse]; exact h3))⟩⟩
def oInt1 : OA := fun ds S Q => match ds with
  | [.int i] => Q (.int i) S
  | [.bl b] => Q (.int (if b then 1 else 0)) S
  | _ => False
theorem opA_int1 : OpA (fun xs H Q => (∃ i, xs = [.int i] ∧ Q (.int i) H) ∨ ∃ k, xs = [.bl k] ∧ Q (.int (if k then 1 else 0)) H) oInt1 := by
  intro ds vs w Q Q' m rr h k
  unfold oInt1 at h
  split at h
  · obtain ⟨v, rfl, r⟩ := reps1 rr
    cases r
    exact .inl ⟨_, rfl, k _ w _ h .refl m (.int _)⟩
  · obtain ⟨v, rfl, r⟩ := reps1 rr
    cases r
    exact .inr ⟨_, rfl, k _ w _ h .refl m (.int _)⟩
  · exact h.elim
theorem me_int1 {p : Pos} {t : DA} (hm : X.mg "int" = none) (ha : PA X [e] (lA t)) (hg : Gl X "int" := by rfl) (hs : starEach [e] X.env = (false, eval e X.env) :: starEach [] X.env := by rfl) : PE X (.Call (.Name "int" p) [e] [] pos) (lE (mCall oInt1 t)) :=
  me_callTy call_int1 opA_int1 hm ha (by decide +kernel) hg (by decide) (by decide) hs
end
end ML

set_option maxRecDepth 100000
/-! ML11: xs[::-1] of tuples. -/
namespace ML
open PySem PySem.Spec PyProof.Rows L2
section
open HT
variable {prog : Program} {w : World} {A : Around} {E : Value → Shared → Prop} {s : Shared}
theorem applied_rev {sl : Addr} {vl vu vs : Value} {n : Nat} {Q : Int × Int × Nat → Shared → Prop} (hs : s.heap.IsSliceOf sl vl vu vs) (pl : IsPart vl none) (pu : IsPart vu none) (ps : IsPart vs (some (-1)))
    (h : Q ((n : Int) - 1, -1, n) s) : wpAny (model prog w) A (Builtin.Slice.sliceApplied (.ref sl) (pure (n : Int))) Q E s := by
  obtain ⟨os, hos, hcs, hds⟩ := id hs
  unfold Builtin.Slice.sliceApplied Builtin.Slice.sliceFields
  refine wpAny_bind (wpAny_bind (wpAny_field hos hds (x := vl) rfl (wpAny_bind (wpAny_field hos hds (x := vu) rfl (wpAny_bind (wpAny_field hos hds (x := vs) rfl (wpAny_pure ?_)))))))
  refine wpAny_bind (slicePart_ ps ?_)
  show wpAny _ _ (if ((-1 : Int) == 0) = true then _ else _) _ _ s
  rw [if_neg (by decide)]
  refine wpAny_bind (slicePart_ pl (wpAny_bind (slicePart_ pu (wpAny_bind (wpAny_pure ?_)))))
  have e1 : Builtin.Slice.sliceAdjust none none (-1) (n : Int) = ((n : Int) - 1, -1) := rfl
  have e2 : Builtin.Slice.slicePlaces ((n : Int) - 1) (-1) (-1) = n := by
    unfold Builtin.Slice.slicePlaces
    rw [if_neg (by decide)]
    split
    · have : ((n : Int) - 1 - -1 - 1) / (- -1 : Int) = (n : Int) - 1 := by
        rw [show (- -1 : Int) = 1 by decide, Int.ediv_one]; omega
      rw [this]; omega
    · omega
  show wpAny _ _ (match Builtin.Slice.sliceAdjust none none (-1) (n : Int) with | (lo, hi) => pure (lo, (-1 : Int), Builtin.Slice.slicePlaces lo hi (-1))) _ _ s
  rw [e1]
  show wpAny _ _ (pure ((n : Int) - 1, (-1 : Int), Builtin.Slice.slicePlaces ((n : Int) - 1) (-1) (-1))) _ _ s
  rw [e2]
  exact wpAny_pure h
theorem fm_all {α β : Type} {f : α → Option β} {g : α → β} : ∀ {l : List α}, (∀ m ∈ l, f m = some (g m)) → l.filterMap f = l.map g
  | [], _ => rfl
  | a :: l, h => by rw [List.filterMap_cons, h a List.mem_cons_self, List.map_cons, fm_all fun m hm => h m (List.mem_cons_of_mem _ hm)]
theorem pick_rev (xs : Array Value) : ((List.range xs.size).filterMap fun (m : Nat) => xs[((xs.size : Int) - 1 + (m : Int) * (-1)).toNat]?).toArray = xs.toList.reverse.toArray := by
  congr 1
  rw [fm_all (g := fun m => xs.toList.reverse.getD m Value.none)]
  · refine List.ext_getElem? fun i => ?_
    rw [List.getElem?_map]
    by_cases hi : i < xs.size
    · rw [List.getElem?_range hi]
      have hl : i < xs.toList.reverse.length := by rw [List.length_reverse, Array.length_toList]; exact hi
      rw [List.getElem?_eq_getElem hl]
      show some (xs.toList.reverse.getD i Value.none) = _
      rw [List.getD_eq_getElem?_getD, List.getElem?_eq_getElem hl]; rfl
    · rw [List.getElem?_eq_none (by rw [List.length_range]; omega), List.getElem?_eq_none (by rw [List.length_reverse, Array.length_toList]; omega)]
      rfl
  · intro m hm
    have hm := List.mem_range.mp hm
    have e2 : ((xs.size : Int) - 1 + (m : Int) * (-1)).toNat = xs.size - 1 - m := by omega
    rw [e2, Array.getElem?_eq_getElem (by omega), List.getD_eq_getElem?_getD, List.getElem?_reverse (by rw [Array.length_toList]; exact hm), Array.length_toList, Array.getElem?_toList, Array.getElem?_eq_getElem (by omega)]
    rfl
theorem getItem_tuple_rev {t sl : Addr} {items : Array Value} {vl vu vs : Value} {Q : Value → Shared → Prop} (ht : IsTup s.heap t items) (hs : s.heap.IsSliceOf sl vl vu vs) (pl : IsPart vl none) (pu : IsPart vu none) (ps : IsPart vs (some (-1)))
    (h : Q (.ref s.heap.objs.size) { s with heap := s.heap.push { cls := .type "tuple", data := .seq items.toList.reverse.toArray } }) (hsz : items.size ≤ sizeLine) : wpAny (model prog w) A (getItem (.ref t) (.ref sl)) Q E s := by
  have hok : sizeOk (.seq items.toList.reverse.toArray) := by
    show items.toList.reverse.toArray.size ≤ sizeLine
    rw [List.size_toArray, List.length_reverse, Array.length_toList]; exact hsz
  obtain ⟨os, hos, hcs, hds⟩ := id hs
  have hTs : s.TypeIs (.ref sl) "slice" := ⟨os, hos, hcs⟩
  unfold getItem
  try with_reducible refine wpAny_holding ?_
  first | refine wpAny_bind (wpAny_pure ?_) | skip
  refine wpAny_bind (wpAny_sequenceKey ht.typeIs (by decide) ?_)
  refine wpAny_bind (wpAny_callSpecial?_slot (name := Str.ofString "__getitem__") ht.typeIs PyProof.Rows.slot_tuple_getitem (wpAny_call_entry PyProof.Rows.slot_tuple_getitem ht.typeIs entry_tuple_getitem ?_ (args_tuple_getitem _ _)))
  show wpAny _ _ (Builtin.Tuple.tupleItemsOf (.ref t) >>= _) _ _ s
  refine wpAny_bind (tupleItemsOf_ ht ?_)
  refine wpAny_bind (wpAny_typeOf hTs ?_)
  rw [if_pos (by decide)]
  refine wpAny_bind (applied_rev hs pl pu ps ?_)
  have hno : ¬ ((((items.size : Int) - 1) == 0 && (-1 : Int) == 1 && items.size == items.size) = true) := by simp
  show wpAny _ _ (if (((items.size : Int) - 1) == 0 && (-1 : Int) == 1 && items.size == items.size) = true then _ else _) _ _ s
  rw [if_neg hno, pick_rev]
  first
    | exact wpAny_bind (m := Builtin.Tuple.tupleExact _) (wpAny_newObj_type (wpAny_pure ⟨_, rfl, wpAny_pure h⟩) hok)
    | exact wpAny_bind (m := Builtin.Tuple.tupleExact _) (wpAny_newObj_type (wpAny_bind (wpAny_pure (wpAny_pure ⟨_, rfl, wpAny_pure h⟩))) hok)
    | exact wpAny_bind (wpAny_bind (m := Builtin.Tuple.tupleExact _) (wpAny_newObj_type (wpAny_pure (wpAny_pure ⟨_, rfl, wpAny_pure h⟩)) hok))
    | exact wpAny_bind (wpAny_bind (m := Builtin.Tuple.tupleExact _) (wpAny_newObj_type (wpAny_pure ⟨_, rfl, wpAny_pure h⟩) hok))
end
def tRevT (K : PySem.W.Frag) (te : TE) : TE := fun σ H Q => te σ H fun x H1 => ∃ a xs, x = .ref a ∧ SqT K H1 a xs ∧ ∀ p, H1 p = none → Q (.ref p) (upd H1 p (.tup xs.reverse))
section
variable {X : Cx} {pos : Pos} {e : Expr}
theorem pe_revT {te : TE} {k : Nat} {p1 p2 p3 : Pos} (he : PE X e te) : PE X (.Subscript e (.Slice none none (some (.UnaryOp .USub (.Constant (.int 1) k p1) p2)) p3) pos) (tRevT X.K te) := by
  refine ⟨fun pins s σ H Q I h => ?_⟩
  refine Subscript_ (thn (he.run pins s σ H _ I h) fun v s1 ⟨x, H1, I1, r1, q1⟩ => ?_)
  obtain ⟨a, xs, rfl, hx, q⟩ := q1
  cases r1
  have hst : PO X (some (.UnaryOp .USub (.Constant (.int 1) k p1) p2)) (tPart (tUn (rU fun i => .int (-i)) (tC (.int 1)))) := po_some (pe_un un_neg pe_int)
  refine wpAny_Slice (thn (po_none.run pins s1 σ H1 (fun o H2 => o = none ∧ H2 = H1) I1 ⟨rfl, rfl⟩) fun vl s2 ⟨l, H2, I2, pl, c1, c2⟩ => ?_)
  subst c1 c2
  refine thn (po_none.run pins s2 σ _ (fun o H3 => o = none ∧ H3 = H2) I2 ⟨rfl, rfl⟩) fun vu s3 ⟨u, H3, I3, pu, c3, c4⟩ => ?_
  subst c3 c4
  refine thn (hst.run pins s3 σ _ (fun o H4 => o = some (-1) ∧ H4 = H3) I3 ⟨1, rfl, -1, rfl, rfl, rfl⟩) fun vs s4 ⟨o, H4, I4, ps, c5, c6⟩ => ?_
  subst c5 c6
  have I5 : Inv X pins σ _ { s4 with heap := s4.heap.push { cls := .type "slice", data := .fields #[vl, vu, vs] } } := I4.kept (t' := s4.toks) fun b ob q => Heap.get?_push_of_some _ q
  obtain ⟨its, r, ht, hz⟩ := I5.tuple hx
  have hlen := r.length
  show wpAny (model X.prog X.w) X.A (subscriptTail e (.Slice none none (some (.UnaryOp .USub (.Constant (.int 1) k p1) p2)) p3) (.ref a) (.ref s4.heap.objs.size)) (EP X pins σ Q) X.xe
    { s4 with heap := s4.heap.push { cls := .type "slice", data := .fields #[vl, vu, vs] } }
  refine tail_any (ops := [.ref a, .ref s4.heap.objs.size]) ht.typeIs (PyProof.Rows.slot_tuple_getitem.lookup) ?_ (by with_unfolding_all rfl)
  refine getItem_tuple_rev ht (Heap.IsSliceOf.new _ vl vu vs) pl pu ps ?_ (by rw [List.size_toArray]; omega)
  refine ⟨.ref _, _, I5.laid (t' := s4.toks) (o := .tup xs.reverse) (fun b ob q => Heap.get?_push_of_some _ q) (Nat.le_refl _) ?_, rfl, q _ (I5.hok.fresh (Nat.le_refl _))⟩
  exact ⟨by rw [List.length_reverse]; exact hz, its.reverse, r.reverse, ⟨_, Heap.get?_push_size _ rfl, rfl, _, rfl⟩⟩
abbrev mRevT (t : DE) : DE := fun r S Q => t r S fun d S1 => opt (asT d) fun xs => Q (.tup xs.reverse) S1
theorem me_revT {te : DE} {k : Nat} {p1 p2 p3 : Pos} (he : PE X e (lE te)) : PE X (.Subscript e (.Slice none none (some (.UnaryOp .USub (.Constant (.int 1) k p1) p2)) p3) pos) (lE (mRevT te)) :=
  (pe_revT he).mi fun s H Q ⟨r, S, M, Q', R, t, k⟩ => ⟨r, S, M, _, R, t, fun d w1 v h k1 m1 r1 => by
    obtain ⟨xs, ex, q⟩ := of_opt h
    obtain ⟨a, vs, rfl, h1, h2, _, h3⟩ := asT_rep (K := X.K) ex r1
    exact ⟨a, vs, rfl, h1, fun p hp => k _ ⟨w1.S, w1.M, _⟩ _ q (k1.trans (.new hp)) (m1.new hp) (.tup upd_same (m1.free hp) ((reps_rev h2).keep (.new hp) m1) (by rw [List.length_reverse]; exact h3))⟩⟩
end
end ML

set_option maxRecDepth 100000
/-! MX: words for proofs in data. -/
namespace ML
open PySem PySem.Spec PyProof.Rows L2
theorem isLst_obj {S : Mem} {a : Addr} {xs : List D} (h : S a = some (.lst xs)) : isLst S (.obj a) := by
  unfold isLst; simp only [h]
/-- a comprehension whose step is pure -/
theorem lcL_fm {α : Type} {vs : List Nat} {b : DG} {t : DT} {e : DE} {r : En} {Q : WK} {S : Mem} {enc f : α → D} {p : α → Bool} : ∀ (xs : List α) (acc : List D),
    (∀ x ∈ xs, ∀ (K : WK) (K0 : Mem → Prop), (p x = true → K (f x) S) → (p x = false → K0 S) → b (enc x) (wipeD r vs) S fun r1 S1 => t r1 S1 fun c S2 => match c with
      | true => e r1 S2 K
      | false => K0 S2) → Q (.lst (acc ++ (xs.filter p).map f)) S → lcL none vs b t e r Q (xs.map enc) acc S
  | [], acc, _, q => by
    rw [List.map_nil, lcL_nil]
    show Q (.lst acc) S
    simpa using q
  | x :: xs, acc, h, q => by
    rw [List.map_cons, lcL_cons]
    refine h x List.mem_cons_self _ _ (fun hp => lcL_fm xs _ (fun y hy => h y (List.mem_cons_of_mem _ hy)) ?_) (fun hp => lcL_fm xs _ (fun y hy => h y (List.mem_cons_of_mem _ hy)) ?_)
    · rw [List.filter_cons_of_pos hp] at q
      simpa using q
    · rw [List.filter_cons_of_neg (by simp [hp])] at q
      exact q
theorem lcL_map {α : Type} {vs : List Nat} {b : DG} {e : DE} {r : En} {Q : WK} {S : Mem} {enc f : α → D} : ∀ (xs : List α) (acc : List D),
    (∀ x ∈ xs, ∀ K : WK, K (f x) S → b (enc x) (wipeD r vs) S fun r1 S1 => e r1 S1 K) → Q (.lst (acc ++ xs.map f)) S → lcL none vs b mYes e r Q (xs.map enc) acc S
  | [], acc, _, q => by
    rw [List.map_nil, lcL_nil]
    show Q (.lst acc) S
    simpa using q
  | x :: xs, acc, h, q => by
    rw [List.map_cons, lcL_cons]
    exact h x List.mem_cons_self _ (lcL_map xs _ (fun y hy => h y (List.mem_cons_of_mem _ hy)) (by simpa using q))
/-- a loop by what holds ahead of the rest -/
theorem forL_inv {α : Type} {b : DG} {body : DS} {N : Nd} {enc : α → D} (I : List α → En → Mem → Prop)
    (h : ∀ x rest r S (nx : En → Mem → Prop), I (x :: rest) r S → (∀ r' S', I rest r' S' → nx r' S') → b (enc x) r S fun r1 S1 => body { N with nx := nx, ct := nx, bk := N.nx } r1 S1)
    (hd : ∀ r S, I [] r S → N.nx r S) : ∀ (xs : List α) (r : En) (S : Mem), I xs r S → forL none b body N (xs.map enc) r S
  | [], r, S, q => by rw [List.map_nil, forL_nil]; exact hd r S q
  | x :: xs, r, S, q => by rw [List.map_cons, forL_cons]; exact h x xs r S _ q fun r' S' q' => forL_inv I h hd xs r' S' q'
theorem intsD_eq (lo : Int) (n : Nat) : intsD lo n = (List.range n).map fun i => D.int (lo + (i : Nat)) := rfl
/-! ### data that is compared -/
theorem toPys_map {α : Type} {enc : α → D} {f : α → PyData} : ∀ {xs : List α}, (∀ x ∈ xs, toPy (enc x) = some (f x)) → toPys (xs.map enc) = some (xs.map f)
  | [], _ => rfl
  | x :: xs, h => by
    show (match toPy (enc x), toPys (xs.map enc) with | some p, some ps => some (p :: ps) | _, _ => none) = _
    rw [h x List.mem_cons_self, toPys_map fun y hy => h y (List.mem_cons_of_mem _ hy)]
    rfl
theorem canLay_map {α : Type} {f : α → PyData} : ∀ {xs : List α}, (∀ x ∈ xs, (f x).canLay0 = true) → PyData.canLayAll0 (xs.map f) = true
  | [], _ => by simp [PyData.canLayAll0]
  | x :: xs, h => by
    rw [List.map_cons]
    simp only [PyData.canLayAll0, Bool.and_eq_true]
    exact ⟨h x List.mem_cons_self, canLay_map fun y hy => h y (List.mem_cons_of_mem _ hy)⟩
theorem depth_map {α : Type} {f : α → PyData} {n : Nat} : ∀ {xs : List α}, (∀ x ∈ xs, (f x).depth ≤ n) → PyData.depthAll (xs.map f) ≤ n
  | [], _ => by simp [PyData.depthAll]
  | x :: xs, h => by
    rw [List.map_cons]
    simp only [PyData.depthAll]
    have h1 := h x List.mem_cons_self
    have h2 := depth_map (xs := xs) fun y hy => h y (List.mem_cons_of_mem _ hy)
    omega
theorem shaped_of {p : PyData} (h1 : p.canLay0 = true) (h2 : p.depth ≤ 64) : SeqAt.shaped p = true := by
  unfold SeqAt.shaped
  rw [h1, decide_eq_true h2]; rfl
theorem shaped_list {ps : List PyData} {n : Nat} (h1 : PyData.canLayAll0 ps = true) (h2 : PyData.depthAll ps ≤ n) (hn : n < 64) : SeqAt.shaped (.list ps) = true :=
  shaped_of (by simpa only [PyData.canLay0] using h1) (by simp only [PyData.depth]; omega)
theorem shaped_tuple {ps : List PyData} {n : Nat} (h1 : PyData.canLayAll0 ps = true) (h2 : PyData.depthAll ps ≤ n) (hn : n < 64) : SeqAt.shaped (.tuple ps) = true :=
  shaped_of (by simpa only [PyData.canLay0] using h1) (by simp only [PyData.depth]; omega)
theorem shaped_int (i : Int) : SeqAt.shaped (.int i) = true := shaped_of (by simp [PyData.canLay0]) (by simp [PyData.depth])
theorem shaped_none : SeqAt.shaped .none = true := shaped_of (by simp [PyData.canLay0]) (by simp [PyData.depth])
theorem eqv_int (i j : Int) : PyData.eqv (.int i) (.int j) = (i == j) := by simp only [PyData.eqv]
theorem eqvAll_map {α : Type} {f : α → PyData} (h : ∀ x y, PyData.eqv (f x) (f y) = true ↔ x = y) : ∀ xs ys : List α, PyData.eqvAll (xs.map f) (ys.map f) = true ↔ xs = ys
  | [], [] => by simp [PyData.eqvAll]
  | [], y :: ys => by simp [PyData.eqvAll]
  | x :: xs, [] => by simp [PyData.eqvAll]
  | x :: xs, y :: ys => by
    rw [List.map_cons, List.map_cons]
    simp only [PyData.eqvAll, Bool.and_eq_true, h, eqvAll_map h xs ys, List.cons.injEq]
theorem eqv_tuple (xs ys : List PyData) : PyData.eqv (.tuple xs) (.tuple ys) = PyData.eqvAll xs ys := by simp only [PyData.eqv]
theorem eqv_list (xs ys : List PyData) : PyData.eqv (.list xs) (.list ys) = PyData.eqvAll xs ys := by simp only [PyData.eqv]
/-- lists of ints -/
theorem toPys_ints (ns : List Int) : toPys (ns.map D.int) = some (ns.map PyData.int) := toPys_map fun _ _ => rfl
theorem shaped_ints (ns : List Int) : SeqAt.shaped (.list (ns.map PyData.int)) = true :=
  shaped_list (n := 0) (canLay_map fun _ _ => by simp [PyData.canLay0]) (depth_map fun _ _ => by simp [PyData.depth]) (by decide)
theorem shaped_intsT (ns : List Int) : SeqAt.shaped (.tuple (ns.map PyData.int)) = true :=
  shaped_tuple (n := 0) (canLay_map fun _ _ => by simp [PyData.canLay0]) (depth_map fun _ _ => by simp [PyData.depth]) (by decide)
theorem eqv_ints (xs ys : List Int) : PyData.eqv (.list (xs.map PyData.int)) (.list (ys.map PyData.int)) = decide (xs = ys) := by
  rw [eqv_list, Bool.eq_iff_iff, decide_eq_true_iff]
  exact eqvAll_map (fun x y => by rw [eqv_int]; simp) xs ys
theorem eqv_intsT (xs ys : List Int) : PyData.eqv (.tuple (xs.map PyData.int)) (.tuple (ys.map PyData.int)) = decide (xs = ys) := by
  rw [eqv_tuple, Bool.eq_iff_iff, decide_eq_true_iff]
  exact eqvAll_map (fun x y => by rw [eqv_int]; simp) xs ys
/-- two lists of ints that rise and have the same items -/
theorem sorted_unique : ∀ {xs ys : List Int}, xs.Perm ys → xs.Pairwise (· ≤ ·) → ys.Pairwise (· ≤ ·) → xs = ys
  | [], ys, p, _, _ => (List.Perm.nil_eq p)
  | x :: xs, [], p, _, _ => absurd p.length_eq (by simp)
  | x :: xs, y :: ys, p, h1, h2 => by
    obtain ⟨a1, a2⟩ := List.pairwise_cons.mp h1
    obtain ⟨b1, b2⟩ := List.pairwise_cons.mp h2
    have e : x = y := by
      have m1 : x ∈ y :: ys := p.mem_iff.mp List.mem_cons_self
      have m2 : y ∈ x :: xs := p.mem_iff.mpr List.mem_cons_self
      rcases List.mem_cons.mp m1 with e | e
      · exact e
      · rcases List.mem_cons.mp m2 with f | f
        · exact f.symm
        · have := a1 y f; have := b1 x e; omega
    subst e
    rw [sorted_unique (List.Perm.cons_inv p) a2 b2]

/-! ### cuts -/
theorem cutX_map {α β : Type} (f : α → β) (xs : List α) (lo hi : Option Int) : cutX (xs.map f) lo hi = (cutX xs lo hi).map f := by
  unfold cutX
  rw [List.length_map, List.map_take, List.map_drop]
theorem cutX_take {α : Type} (xs : List α) (n : Nat) : cutX xs none (some (n : Int)) = xs.take n := by
  unfold cutX
  rw [HT.sIx_none, HT.sIx_nat, List.drop_zero, Nat.sub_zero]
  by_cases h : n ≤ xs.length
  · rw [Nat.min_eq_left h]
  · rw [Nat.min_eq_right (by omega), List.take_length, List.take_of_length_le (by omega)]
theorem cutX_drop {α : Type} (xs : List α) (n : Nat) : cutX xs (some (n : Int)) none = xs.drop n := by
  unfold cutX
  rw [HT.sIx_none, HT.sIx_nat]
  by_cases h : n ≤ xs.length
  · rw [Nat.min_eq_left h]
    exact List.take_of_length_le (by rw [List.length_drop]; omega)
  · rw [Nat.min_eq_right (by omega), Nat.sub_self, List.take_zero, List.drop_eq_nil_of_le (by omega)]
theorem cutX_init {α : Type} (xs : List α) : cutX xs none (some (-1)) = xs.dropLast := by
  unfold cutX
  rw [HT.sIx_none, List.drop_zero, Nat.sub_zero, List.dropLast_eq_take]
  congr 1
  show (if (-1 : Int) < 0 then ((-1 : Int) + (xs.length : Int)).toNat else min (-1 : Int).toNat xs.length) = _
  rw [if_pos (by decide)]
  omega
theorem atI_neg1 {α : Type} {xs : List α} {x : α} (h : xs[xs.length - 1]? = some x) : atI xs (-1) = some x := by
  have hl := (List.getElem?_eq_some_iff.mp h).1
  unfold atI ixN
  rw [if_neg (by decide), if_pos (by omega), show ((-1 : Int) + (xs.length : Int)).toNat = xs.length - 1 by omega]
  exact h
theorem asT_cases {d : D} {xs : List D} (h : asT d = some xs) : d = .tup xs ∨ d = .kt xs := by
  cases d <;> first | exact .inl (congrArg D.tup (Option.some.inj h)) | exact .inr (congrArg D.kt (Option.some.inj h)) | exact nomatch h
/-- the counter of draws as it stands -/
def Town (S : Mem) (t : Addr) (k : Nat) : Prop := ∃ zs, S t = some (.lst zs) ∧ zs.length ≤ k
theorem Town.up {S : Mem} {t : Addr} {k : Nat} {zs : List D} (h : zs.length ≤ k) : Town (up S t (.lst (zs ++ [.int 0]))) t (k + 1) := ⟨_, up_same, by rw [List.length_append, List.length_singleton]; omega⟩
theorem Town.mono {S : Mem} {t : Addr} {j k : Nat} (h : Town S t j) (l : j ≤ k) : Town S t k := let ⟨zs, h1, h2⟩ := h; ⟨zs, h1, Nat.le_trans h2 l⟩
/-! ### the laws' own helpers -/
/-- a draw: any number below many; the counter grows by one -/
def drawS : DSp := fun ds S Q => ∃ (ns : List Int) (t : Addr) (zs : List D) (many : Int), ds = [.fls (ns.map .int), .obj t, .int many] ∧ S t = some (.lst zs) ∧ zs.length < 1000000 ∧ 0 < many ∧ ∀ r : Int, 0 ≤ r → r < many → Q (.int r) (up S t (.lst (zs ++ [.int 0])))
theorem atI_ints {ns : List Int} {i : Int} (h0 : 0 ≤ i) (h1 : i < ns.length) : ∃ c, atI (ns.map D.int) i = some (.int c) := by
  obtain ⟨j, rfl⟩ := Int.eq_ofNat_of_zero_le h0
  have hj : j < ns.length := by omega
  exact ⟨ns[j], atI_nat (by rw [List.getElem?_map, List.getElem?_eq_getElem hj]; rfl)⟩
theorem atI_map {α : Type} {enc : α → D} {xs : List α} {i : Int} (h0 : 0 ≤ i) (h1 : i < xs.length) : ∃ (x : α), xs[i.toNat]? = some x ∧ atI (xs.map enc) i = some (enc x) := by
  obtain ⟨j, rfl⟩ := Int.eq_ofNat_of_zero_le h0
  have hj : j < xs.length := by omega
  exact ⟨xs[j], by simp [hj], atI_nat (by rw [List.getElem?_map, List.getElem?_eq_getElem hj]; rfl)⟩
theorem ifB {b : Bool} {P Q : Prop} (h1 : b = true → P) (h2 : b = false → Q) : match (generalizing := false) b with | true => P | false => Q := by
  cases b with
  | true => exact h1 rfl
  | false => exact h2 rfl
end ML

set_option maxRecDepth 100000
namespace ML
open PySem PySem.Spec PyProof.Rows L2
/-! ### the head: a Hook that keeps no list -/
def notL (g : Addr → Option Obj) (a : Addr) : Bool := match g a with
  | some o => o.cls != .type "list"
  | none => true
def kN (n : Nat) (g : Addr → Option Obj) : PySem.W.Frag := He.frG g ((He.asD g n).filter (notL g))
def noL (K : PySem.W.Frag) : Bool := K.all fun p => p.2.cls != .type "list"
def obsN (n : Nat) (ex : PySem.W.Frag → Bool) (fa : List He.Fa) (fn : List He.DefD) (g : Addr → Option Obj) : Bool × He.AlD := (noL (kN n g) && ex (kN n g), He.obsD fa fn (kN n g))
def hookN (n : Nat) (ex : PySem.W.Frag → Bool) (fa : List He.Fa) (fn : List He.DefD) : PySem.W.Hook where
  α := Bool × He.AlD
  obs := fun s => obsN n ex fa fn s.heap.get?
  val := fun _ => (true, He.valD fn)
  says := fun _ h => ∃ K : PySem.W.Frag, K.In h ∧ noL K = true ∧ ex K = true ∧ He.SaysD fa fn K
  of := fun _ _ e => ⟨_, He.frG_in, (Bool.and_eq_true_iff.mp (congrArg (fun z : Bool × He.AlD => z.1) e)).1, (Bool.and_eq_true_iff.mp (congrArg (fun z : Bool × He.AlD => z.1) e)).2, congrArg (fun z : Bool × He.AlD => z.2) e⟩
  keeps := fun _ _ _ ⟨K, hK, c⟩ k => ⟨K, PySem.W.Frag.In.keeps hK k, c⟩
theorem obsN_eq {n : Nat} {ex : PySem.W.Frag → Bool} {fa : List He.Fa} {fn : List He.DefD} {g : Addr → Option Obj} {s : Shared} (h : ∀ a, g a = s.heap.get? a) : obsN n ex fa fn g = (hookN n ex fa fn).obs s := by
  obtain rfl : g = s.heap.get? := funext h
  rfl
theorem noL_at {K : PySem.W.Frag} (h : noL K = true) {a : Addr} {o : Obj} (e : K.lookup a = some o) : o.cls ≠ .type "list" := by
  have m : ∀ (L : List (Addr × Obj)), (L.all fun p => p.2.cls != .type "list") = true → L.lookup a = some o → o.cls ≠ .type "list" := by
    intro L
    induction L with
    | nil => intro _ e; cases e
    | cons p r ih =>
      obtain ⟨b, u⟩ := p
      intro hh e
      rw [List.all_cons, Bool.and_eq_true] at hh
      rw [List.lookup_cons] at e
      split at e
      · cases e
        have := hh.1
        intro z
        simp [z] at this
      · exact ih hh.2 e
  exact m K h e
section
variable {P : Program} {w : World} {K : PySem.W.Frag} {mg : Str → Option Value} {base : Heap}
theorem def_okF {x : Str} {st : Stmt} {dvs : List V} {kws : List (Str × V)} {a : Addr} {fd : FuncData} {N ps : List Str} {k : Nat} {f : DSp} (F : FunD K x x (defArgs st) (defBody st) (defScope st) dvs kws a fd) (Sc : FnScope N ps (defScope st)) (t : DS) (len : ∀ ds S Q, f ds S Q → ds.length = ps.length)
    (der : ∀ (cdv : Value) (A : Around) (outer : List Env) (s : Shared) (H : Hp) (E : XK), Room k (A.deeper (envOfC x (defScope st) s.heap.objs.size a cdv)) → PSs (cxOf CX0 P w K mg base N x (defScope st) a cdv A outer s H E).nox (defBody st) (lS t))
    (sem : ∀ ds S Q, f ds S Q → t (endD Q) (startD N.length ds) S) : FnOk P w K mg base CX0 (k + 1) a fd ps (lSp f) := by
  refine F.ok Sc (fun vs H Q E ⟨S, M, ds, Q', o, r, q, _⟩ => r.length.trans (len ds S Q' q)) (fun cdv A outer s H vs Q E hr ⟨S, M, ds, Q', o, r, q, k⟩ => ?_)
  refine ⟨_, PSs.nox (der cdv A outer s H E hr), startD N.length ds, S, M, endD Q', reps_start o r, sem ds S Q' q, ⟨fun r' w' s' a b c => ?_, fun d w' v a b c e => ?_, fun _ _ _ a _ _ => a.elim, fun _ _ _ a _ _ => a.elim, fun _ _ _ _ a _ _ => a.elim⟩⟩
  · exact k .non w' .non a c b.ok .non
  · obtain ⟨S'', d', sh, q'⟩ := a
    obtain ⟨M', o', r', kk⟩ := sh w'.M w'.H v c e
    refine k d' ⟨S'', M', w'.H⟩ v q' (fun c0 ob h n => ?_) o' r'
    obtain ⟨h1, h2, h3⟩ := b c0 ob h n
    obtain ⟨h4, h5⟩ := kk c0 h3
    exact ⟨h1, h5.trans h2, h4⟩
theorem def_okD {x : Str} {st : Stmt} {a : Addr} {fd : FuncData} {N ps : List Str} {k : Nat} {f : DSp} (F : FunD K x x (defArgs st) (defBody st) (defScope st) [] [] a fd) (hm : mg x = some (.ref a)) (hb : Binds K fd ps []) (Sc : FnScope N ps (defScope st)) (t : DS) (len : ∀ ds S Q, f ds S Q → ds.length = ps.length)
    (der : ∀ (cdv : Value) (A : Around) (outer : List Env) (s : Shared) (H : Hp) (E : XK), Room k (A.deeper (envOfC x (defScope st) s.heap.objs.size a cdv)) → PSs (cxOf CX0 P w K mg base N x (defScope st) a cdv A outer s H E).nox (defBody st) (lS t))
    (sem : ∀ ds S Q, f ds S Q → t (endD Q) (startD N.length ds) S) : Cal P w K mg base x (k + 1) f :=
  ⟨a, fd, ps, def_okF F Sc t len der sem, hm, F.kp, hb⟩
end
/-- what the law's def is asked -/
theorem law_sp {K : PySem.W.Frag} {H : Hp} {a : Addr} {ns : List Int} (nl : noL K = true) (hl : ns.length ≤ sizeLine) (hO : Only H) (hS : SqL K H a (ns.map V.int)) {f : DSp} (hf : ∀ S, f [.fls (ns.map .int)] S fun d _ => d = .bl true) : lSp f [.ref a] H (fun v _ => v = .bl true) fun _ _ _ => False := by
  have hA : ∃ o, H a = some (.frz o (.lst (ns.map V.int))) := by
    rcases hS with h | ⟨o, its, n, h, hc, _⟩
    · rcases h with h | ⟨o, h⟩
      · rcases hO a with z | ⟨o, xs, z⟩
        · rw [h] at z; cases z
        · rw [h] at z; cases z
      · exact ⟨o, h⟩
    · exact absurd hc (noL_at nl h)
  obtain ⟨o, hA⟩ := hA
  refine ⟨fun _ => none, fun _ => none, [.fls (ns.map .int)], _, ⟨fun _ _ h => (by cases h), fun _ _ h => (by cases h)⟩, .cons (.fls hA rfl ?_ (by rw [List.length_map]; exact hl)) .nil, hf _, fun d w' v e _ _ r => ?_⟩
  · clear hA hS hl hO hf
    induction ns with
    | nil => exact .nil
    | cons n ns ih => exact .cons (.int _) ih
  · have e' : d = D.bl true := e
    subst e'
    cases r
    rfl
theorem walkML {l : PySem.W.OpenLaw} {n k m : Nat} {q : Program} {loose : List Str} {XP : (Str → Option Value) → Heap → Prop} {d : DefRec} {ex : PySem.W.Frag → Bool} {fa : List He.Fa} {fn : List He.DefD} {f : DSp}
    (hn : l.most = some n) (hn2 : n ≤ sizeLine) (hdf : d.params.defaults = []) (hnm : d.name = ("law" : Str)) (hr : Room k callerA)
    (F : ∀ (w : World) (K : PySem.W.Frag) (mg : Str → Option Value) (fA : Addr) (h : Heap), K.In h → h.Ns mainGlobals mg → mg ("law" : Str) = some (.ref fA) → ex K = true → He.SaysD fa fn K →
      ∃ fd : FuncData, (∀ (s : Shared) (u : Value), BindsTo s fd ⟨[u], []⟩ [("script", u)]) ∧
        ∀ base : Heap, K.In base → base.Ns mainGlobals mg → FnOk l.prog w K mg base CX0 k fA fd ["script"] (lSp f))
    (hf : ∀ (ns : List Int) S, f [.fls (ns.map .int)] S fun d _ => d = .bl true) :
    PySem.W.WalkO q loose XP (fun w h => (hookN m ex fa fn).says w h) l.row.toRowW d [] (fun f vs => PySem.call f vs) := by
  refine L2.walk_ofE (n := n) (k := k) (x := "script") (CX := L2.CX0) hn hn2 hdf hr (fun w mg fA h Y G hmg0 => ?_) (fun _ _ _ _ z => z)
  obtain ⟨K, KX, nl, cx, c⟩ := Y
  rw [hnm] at hmg0
  obtain ⟨fd, hb, hF⟩ := F w K mg fA h KX G hmg0 cx c
  exact ⟨K, fd, lSp f, KX, hb, fun H a ns hl hO hS => law_sp nl (Nat.le_trans hl hn2) hO hS (hf ns), hF⟩
theorem glint {mg : Str → Option Value} {x : Str} {i : Int} (h : ∃ t, mg x = some (.int i t)) : GlC mg x (.int i) := h.elim fun t e => ⟨_, e, t, rfl⟩
theorem glstr {mg : Str → Option Value} {x : Str} {i : Str} (h : ∃ t, mg x = some (.str i t)) : GlC mg x (.str i) := h.elim fun t e => ⟨_, e, t, rfl⟩
end ML

set_option maxRecDepth 100000
/-! MY: defs that may raise: an exception is told by the name of its class. -/
namespace ML
open PySem PySem.Spec PyProof.Rows L2
/-- what a wish of the machine's asks, by names -/
def wn (mg : Str → Option Value) (Wx : WX) : NX := fun x s H => ∀ C, mg x = some (.ref C) → Wx (.ref C) none s H
abbrev XQ := Str → Mem → Prop
abbrev DSpX := List D → Mem → WK → XQ → Prop
def lSpX (mg : Str → Option Value) (f : DSpX) : Sp := fun vs H Q E => ∃ S M ds Q' E', Ok ⟨S, M, H⟩ ∧ Reps ⟨S, M, H⟩ vs ds ∧ f ds S Q' E' ∧ Then ⟨S, M, H⟩ Q' Q ∧ ∀ x C (w' : W), mg x = some (.ref C) → E' x w'.S → Step ⟨S, M, H⟩ w' → Ok w' → E (.ref C) none w'.H
structure CalX (P : Program) (w : World) (K : PySem.W.Frag) (mg : Str → Option Value) (base : Heap) (x : Str) (k : Nat) (f : DSpX) : Prop where
  ex : ∃ (a : Addr) (fd : FuncData) (ps : List Str), FnOk P w K mg base (L2.CX P w) k a fd ps (lSpX mg f) ∧ mg x = some (.ref a) ∧ PySem.W.keepIn K (.ref a) = true ∧ Binds K fd ps []
/-- a promise kept where nothing is raised -/
abbrev noX (f : DSpX) : DSp := fun ds S Q => f ds S Q fun _ _ => False
section
variable {P : Program} {w : World} {K : PySem.W.Frag} {mg : Str → Option Value} {base : Heap}
theorem fn_calm {k : Nat} {a : Addr} {fd : FuncData} {ps : List Str} {sp sp' : Sp} (F : FnOk P w K mg base (L2.CX P w) k a fd ps sp) (h : ∀ vs H Q E, sp' vs H Q E → sp vs H Q fun _ _ _ => False) : FnOk P w K mg base CX0 k a fd ps sp' := by
  refine ⟨fun vs H Q E q => F.len _ _ _ _ (h vs H Q E q), fun A outer s H args us vs Q E hr he hb r q => ?_⟩
  refine codeAny_mono (F.run A outer s H args us vs Q (fun _ _ _ => False) hr he hb r (h vs H Q E q)) fun fl s' hq => ?_
  cases fl with
  | error e => obtain ⟨_, _, _, _, _, _, _, _, _, _, _, _, z⟩ := hq; exact z.elim
  | ok v => cases v <;> exact hq
theorem CalX.cal {x : Str} {k : Nat} {f : DSpX} (c : CalX P w K mg base x k f) : Cal P w K mg base x k (noX f) := by
  obtain ⟨a, fd, ps, h1, h2, h3, h4⟩ := c.ex
  exact ⟨a, fd, ps, fn_calm h1 fun vs H Q E ⟨S, M, ds, Q', o, r, q, t⟩ => ⟨S, M, ds, Q', _, o, r, q, t, fun _ _ _ _ z _ _ => z⟩, h2, h3, h4⟩
/-- what is asked of the body of a def that may raise -/
abbrev endX (Q : WK) (E : XQ) : Nd := { nx := fun _ S' => Q .non S', rt := fun d S' => ∃ S'' d', Shift S' d S'' d' ∧ Q d' S'', xc := fun x _ S' => ∃ S'', Shift S' .non S'' .non ∧ E x S'' }
theorem def_okFX {x : Str} {st : Stmt} {q : Str} {a : Addr} {fd : FuncData} {N ps : List Str} {k : Nat} {f : DSpX} (F : FunD K x q (defArgs st) (defBody st) (defScope st) [] [] a fd) (Sc : FnScope N ps (defScope st)) (t : DS) (len : ∀ ds S Q E, f ds S Q E → ds.length = ps.length)
    (der : ∀ (cdv : Value) (A : Around) (outer : List Env) (s : Shared) (H : Hp) (E : XK), Room k (A.deeper (envOfC q (defScope st) s.heap.objs.size a cdv)) → PSs (cxOf (L2.CX P w) P w K mg base N q (defScope st) a cdv A outer s H E) (defBody st) (lSx (wn mg fun cls d _ H' => E cls d H') t))
    (sem : ∀ ds S Q E, f ds S Q E → t (endX Q E) (startD N.length ds) S) : FnOk P w K mg base (L2.CX P w) (k + 1) a fd ps (lSpX mg f) := by
  refine F.ok Sc (fun vs H Q E ⟨S, M, ds, Q', E', o, r, q, _⟩ => r.length.trans (len ds S Q' E' q)) (fun cdv A outer s H vs Q E hr ⟨S, M, ds, Q', E', o, r, q, k, kx⟩ => ?_)
  refine ⟨_, der cdv A outer s H E hr, startD N.length ds, S, M, endX Q' E', reps_start o r, sem ds S Q' E' q, ⟨fun r' w' s' a b c => ?_, fun d w' v a b c e => ?_, fun _ _ _ a _ _ => a.elim, fun _ _ _ a _ _ => a.elim, fun x r' w' s' a b c => ?_⟩⟩
  · exact k .non w' .non a c b.ok .non
  · obtain ⟨S'', d', sh, q'⟩ := a
    obtain ⟨M', o', r', kk⟩ := sh w'.M w'.H v c e
    refine k d' ⟨S'', M', w'.H⟩ v q' (fun c0 ob h n => ?_) o' r'
    obtain ⟨h1, h2, h3⟩ := b c0 ob h n
    obtain ⟨h4, h5⟩ := kk c0 h3
    exact ⟨h1, h5.trans h2, h4⟩
  · intro C hC
    obtain ⟨S'', sh, q'⟩ := a
    obtain ⟨M', o', _, kk⟩ := sh w'.M w'.H .non b.ok .non
    refine kx x C ⟨S'', M', w'.H⟩ hC q' (fun c0 ob h n => ?_) o'
    obtain ⟨h1, h2, h3⟩ := c c0 ob h n
    obtain ⟨h4, h5⟩ := kk c0 h3
    exact ⟨h1, h5.trans h2, h4⟩
theorem def_okX {x : Str} {st : Stmt} {a : Addr} {fd : FuncData} {N ps : List Str} {k : Nat} {f : DSpX} (F : FunD K x x (defArgs st) (defBody st) (defScope st) [] [] a fd) (hm : mg x = some (.ref a)) (hb : Binds K fd ps []) (Sc : FnScope N ps (defScope st)) (t : DS) (len : ∀ ds S Q E, f ds S Q E → ds.length = ps.length)
    (der : ∀ (cdv : Value) (A : Around) (outer : List Env) (s : Shared) (H : Hp) (E : XK), Room k (A.deeper (envOfC x (defScope st) s.heap.objs.size a cdv)) → PSs (cxOf (L2.CX P w) P w K mg base N x (defScope st) a cdv A outer s H E) (defBody st) (lSx (wn mg fun cls d _ H' => E cls d H') t))
    (sem : ∀ ds S Q E, f ds S Q E → t (endX Q E) (startD N.length ds) S) : CalX P w K mg base x (k + 1) f :=
  ⟨a, fd, ps, def_okFX F Sc t len der sem, hm, F.kp, hb⟩
end
/-! ### raise -/
/-- what must be known of an exception's class -/
structure ExF (K : PySem.W.Frag) (mg : Str → Option Value) (x : Str) : Prop where
  ex : ∃ C : Addr, mg x = some (.ref C) ∧ PySem.W.excIn K C He.veBase "ValueError.__new__" = true ∧ PySem.W.keepIn K (.ref C) = true ∧ PySem.W.subIn K (.ref C) (.type "BaseException") = some true ∧ PySem.W.typeIn K (.ref C) = some (.type "type")
abbrev mRaise (x : Str) : DS := fun N r S => N.xc x r S
section
variable {X : Cx} {C : Addr} {bmB : List Value} {B newId initId : String} {pos p : Pos}
/-- X() -/
theorem pmk_own0 {x : Str} (F : ExcBaseFacts B newId initId bmB) (q : PySem.W.excIn X.K C bmB newId = true) (gC : X.mg x = some (.ref C)) (kC : PySem.W.keepIn X.K (.ref C) = true) (r : Raises X (.ref C)) (hg : Gl X x)
    (hdb : (x == ("__debug__" : Str)) = false := by decide) : PMk X (.Call (.Name x p) [] [] pos) (fun _ H Q => Q (.ref C) none H) := by
  intro pins s σ H Q I h
  refine wpAny_Call_Name_kw (ld_glob I hg gC ?_ hdb)
  refine PySem.W.callWith_K0 I.kIn kC ?_
  obtain ⟨bm, N, nm, qn, bs, hdct, sn, sub, ab, col, dd, k0, k1, k2, k3, k5, mN, hC, hN, hni, T⟩ := exc_obj I.kIn q
  refine wpAny_call_exc_subT F T hC hN hni (fun h' e hm => ?_) (by show 0 ≤ sizeLine; omega)
  exact mk_of I hm r h (I.hok.gone hm.new)
theorem ms_raise {Wx : WX} {x : Str} (f : ExF X.K X.mg x) (hc : X.calm = true) (tk : Takes X Wx) (hg : Gl X x) (hdb : (x == ("__debug__" : Str)) = false := by decide) :
    PS X (.Raise (some (.Call (.Name x p) [] [] pos)) none pos') (lSx (wn X.mg Wx) (mRaise x)) := by
  obtain ⟨C, f1, f2, f3, f4, f5⟩ := f.ex
  exact (ps_raise hc tk (pmk_own0 PySem.F.excBase_ValueError f2 f1 f3 (raises_own f4 f5) hg hdb)).mi fun D s H ⟨r, S, M, D', R, h, f⟩ => f.xc x r ⟨S, M, H⟩ s h R .refl C f1
end
/-! ### expressions that may raise -/
abbrev DEX := En → Mem → WK → XQ → Prop
def lEx (Wn : NX) (t : DEX) : TE := fun s H Q => ∃ r S M Q' E', Rel r ⟨S, M, H⟩ s ∧ t r S Q' E' ∧ Then ⟨S, M, H⟩ Q' Q ∧ ∀ x (w' : W), E' x w'.S → Step ⟨S, M, H⟩ w' → Ok w' → Wn x s w'.H
abbrev mCallX (f : DSpX) (t : DA) : DEX := fun r S Q E => t r S fun ds S1 => f ds S1 Q E
abbrev mDropX (te : DEX) : DS := fun N r S => te r S (fun _ S1 => N.nx r S1) fun x S1 => N.xc x r S1
abbrev mRetX (te : DEX) : DS := fun N r S => te r S N.rt fun x S1 => N.xc x r S1
abbrev mSetX (i : Nat) (te : DEX) : DS := fun N r S => te r S (fun d S1 => N.nx (r.set i (some d)) S1) fun x S1 => N.xc x r S1
section
variable {X : Cx} {Wx : WX} {Wn : NX} {pos p : Pos} {e : Expr} {te : DEX}
theorem me_callX {x : Str} {es : List Expr} {t : DA} {k n : Nat} {f : DSpX} (c : CalX X.prog X.w X.K X.mg X.base x k f) (hr : Room n X.A) (tk : Takes X Wx) (ha : PA X (e :: es) (lA t)) (hk : k ≤ n := by omega) (hg : Gl X x := by rfl)
    (hdb : (x == ("__debug__" : Str)) = false := by decide) (he : starEach (e :: es) X.env = (false, eval e X.env) :: starEach es X.env := by rfl) (hpl : (backTo pos (starEach es X.env)).any (·.1) = false := by rfl) :
    PE X (.Call (.Name x p) (e :: es) [] pos) (lEx (wn X.mg Wx) (mCallX f t)) := by
  obtain ⟨a, fd, ps, h1, h2, h3, h4⟩ := c.ex
  refine (pe_callS h1 (hr.mono hk) hg h2 h3 h4 (fun σ => passAt tk σ) ha hdb he hpl).mi fun s H Q ⟨r, S, M, Q', E', R, t, k, kx⟩ => ⟨r, S, M, _, R, t, fun ds w1 vs q k1 m1 r1 => ?_⟩
  exact ⟨w1.S, w1.M, ds, Q', E', m1, r1, q, Then.after k k1, fun x C w' hC h z o => kx x w' h (k1.trans z) o C hC⟩
theorem ms_exprX (he : PE X e (lEx Wn te)) (hs : swapsWith e none pos.line X.env = pure false := by rfl) : PS X (.Expr e pos) (lSx Wn (mDropX te)) := (ps_expr he hs).mi fun D s H ⟨r, S, M, D', R, h, f⟩ =>
  ⟨r, S, M, _, _, R, h, fun d w1 v q k m _ => f.nx r w1 s q (R.keep k m) k, fun x w1 q k m => f.xc x r w1 s q (R.keep k m) k⟩
theorem ms_retX (he : PE X e (lEx Wn te)) : PS X (.Return (some e) pos) (lSx Wn (mRetX te)) := (ps_ret he).mi fun D s H ⟨r, S, M, D', R, h, f⟩ =>
  ⟨r, S, M, _, _, R, h, fun d w1 v q k m rr => f.rt d w1 v q k m rr, fun x w1 q k m => f.xc x r w1 s q (R.keep k m) k⟩
theorem ms_setX {i : Nat} {x : Str} {pos' : Pos} (hN : X.N.Nodup) (hi : X.N[i]? = some x) (hx : Loc X.env.scope x) (he : PE X e (lEx Wn te)) (hs : swapsWith e (some (.Name x pos')) pos.line X.env = pure false := by rfl) (hf : X.fn x = true ∨ X.env.scope.names.lookup x = some .local := by first | exact .inl rfl | exact .inr rfl | assumption) :
    PS X (.Assign [.Name x pos'] e pos) (lSx Wn (mSetX i te)) := (ps_set hN hi hx he hs hf).mi fun D s H ⟨r, S, M, D', R, h, f⟩ =>
  ⟨r, S, M, _, _, R, h, fun d w1 v q k m rr => f.nx _ w1 _ q ((R.keep k m).set rr) k, fun x w1 q k m => f.xc x r w1 s q (R.keep k m) k⟩
/-- an expression that raises nothing -/
abbrev mPure (te : DE) : DEX := fun r S Q _ => te r S Q
theorem me_pure {te : DE} (he : PE X e (lE te)) : PE X e (lEx Wn (mPure te)) := he.mi fun s H Q ⟨r, S, M, Q', E', R, h, k, _⟩ => ⟨r, S, M, Q', R, h, k⟩
/-- a if t else b -/
abbrev mIfX (tc : DT) (t u : DEX) : DEX := fun r S Q E => tc r S fun b S1 => match b with
  | true => t r S1 Q E
  | false => u r S1 Q E
theorem me_ifX {c a b : Expr} {tc : DT} {t u : DEX} (hc : PT X c (lT tc)) (ha : PE X a (lEx Wn t)) (hb : PE X b (lEx Wn u)) : PE X (.IfExp c a b pos) (lEx Wn (mIfX tc t u)) := (pe_ifExp hc ha hb).mi fun s H Q ⟨r, S, M, Q', E', R, h, k, kx⟩ =>
  ⟨r, S, M, _, R, h, fun b w1 q k1 m1 => by
    cases b with
    | true => rw [if_pos rfl]; exact ⟨r, w1.S, w1.M, Q', E', R.keep k1 m1, q, Then.after k k1, fun x w' h z o => kx x w' h (k1.trans z) o⟩
    | false => rw [if_neg Bool.false_ne_true]; exact ⟨r, w1.S, w1.M, Q', E', R.keep k1 m1, q, Then.after k k1, fun x w' h z o => kx x w' h (k1.trans z) o⟩⟩
end
end ML

set_option maxRecDepth 100000
/-! MZ: instances of own classes: fields, methods, making. -/
namespace ML
open PySem PySem.Spec PyProof.Rows L2
abbrev FR (w : W) (fs : List (Str × D)) (gs : List (Str × V)) : Prop := Paired (fun (p : Str × D) (q : Str × V) => p.1 = q.1 ∧ Rep w q.2 p.2) fs gs
def putN (f : Str) (d : D) : List (Str × D) → List (Str × D)
  | [] => [(f, d)]
  | (g, x) :: r => if g = f then (g, d) :: r else (g, x) :: putN f d r
theorem FR.look {w : W} {f : Str} : ∀ {fs : List (Str × D)} {gs : List (Str × V)}, FR w fs gs → ∀ {d : D}, fs.lookup f = some d → ∃ v, gs.lookup f = some v ∧ Rep w v d
  | [], [], .nil, d, h => by cases h
  | (a, x) :: fs, (b, y) :: gs, .cons h t, d, e => by
    obtain ⟨h1, h2⟩ := h
    have h1 : a = b := h1
    subst h1
    rw [List.lookup_cons] at e ⊢
    cases q : f == a with
    | true => rw [q] at e; cases e; exact ⟨y, rfl, h2⟩
    | false => rw [q] at e; exact FR.look t e
theorem FR.lookN {w : W} {f : Str} : ∀ {fs : List (Str × D)} {gs : List (Str × V)}, FR w fs gs → fs.lookup f = none → gs.lookup f = none
  | [], [], .nil, _ => rfl
  | (a, x) :: fs, (b, y) :: gs, .cons h t, e => by
    obtain ⟨h1, h2⟩ := h
    have h1 : a = b := h1
    subst h1
    rw [List.lookup_cons] at e ⊢
    cases q : f == a with
    | true => rw [q] at e; cases e
    | false => rw [q] at e; exact FR.lookN t e
theorem FR.len {w : W} : ∀ {fs : List (Str × D)} {gs : List (Str × V)}, FR w fs gs → fs.length = gs.length
  | [], [], .nil => rfl
  | _ :: _, _ :: _, .cons _ t => congrArg (· + 1) (FR.len t)
theorem FR.put {w : W} {f : Str} {d : D} {v : V} (r : Rep w v d) : ∀ {fs : List (Str × D)} {gs : List (Str × V)}, FR w fs gs → FR w (putN f d fs) (putF f v gs)
  | [], [], .nil => .cons ⟨rfl, r⟩ .nil
  | (a, x) :: fs, (b, y) :: gs, .cons h t => by
    obtain ⟨h1, h2⟩ := h
    have h1 : a = b := h1
    subst h1
    unfold putN putF
    split
    · exact .cons ⟨rfl, r⟩ t
    · exact .cons ⟨rfl, h2⟩ (FR.put r t)
theorem Ok.ins {w : W} {a C : Addr} {fs : List (Str × D)} (k : Ok w) (h : w.S a = some (.ins C fs)) : ∃ dx gs, w.H a = some (.ins C dx gs) ∧ FR w fs gs := by
  obtain ⟨u, hu, r⟩ := k.mem a _ (k.sub a _ h)
  cases r with
  | ins r => exact ⟨_, _, hu, r⟩
/-- o.f -/
abbrev insD (C : Addr) (d : D) (S : Mem) (k : Addr → List (Str × D) → Prop) : Prop := match d with
  | .obj a => match S a with
    | some (.ins C' fs) => C' = C ∧ k a fs
    | _ => False
  | _ => False
theorem insD_ok {C : Addr} {d : D} {S : Mem} {k : Addr → List (Str × D) → Prop} (h : insD C d S k) : ∃ a fs, d = .obj a ∧ S a = some (.ins C fs) ∧ k a fs := by
  unfold insD at h
  split at h
  · next a =>
    split at h
    · next C' fs e => obtain ⟨rfl, h⟩ := h; exact ⟨a, fs, rfl, e, h⟩
    · exact h.elim
  · exact h.elim
abbrev mFld (C : Addr) (f : Str) (t : DE) : DE := fun r S Q => t r S fun d S1 => insD C d S1 fun _ fs => opt (fs.lookup f) fun x => Q x S1
abbrev mPutF (C : Addr) (f : Str) (to tv : DE) : DS := fun N r S => tv r S fun x S1 => to r S1 fun d S2 => insD C d S2 fun a fs => fs.length < 1000 ∧ N.nx r (up S2 a (.ins C (putN f x fs)))
section
variable {X : Cx} {C : Addr} {o e value : Expr} {f : Str} {pos pos' : Pos} {te to tv : DE} {Wn : NX}
theorem me_fld (c : Cls X.K C) (n : NoAttr X.K C f) (he : PE X e (lE te)) (hb : attributeBase e f X.env (eval e X.env) = eval e X.env := by rfl) : PE X (.Attribute e f pos) (lE (mFld C f te)) := (pe_fld he hb).mi fun s H Q ⟨r, S, M, Q', R, h, k⟩ =>
  ⟨r, S, M, _, R, h, fun d w1 v q k1 m1 rr => by
    obtain ⟨a, fs, rfl, ha, q⟩ := insD_ok q
    cases rr
    obtain ⟨x, l, q⟩ := of_opt q
    obtain ⟨dx, gs, hu, fr⟩ := m1.ins ha
    obtain ⟨y, l2, ry⟩ := fr.look l
    exact ⟨a, C, dx, gs, y, rfl, hu, c, n, l2, k x w1 y q k1 m1 ry⟩⟩
theorem ms_fld (c : Cls X.K C) (n : NoAttr X.K C f) (ho : PE X o (lE to)) (hv : PE X value (lE tv)) (hs : swapsWith value (some (.Attribute o f pos')) pos.line X.env = pure false := by rfl) : PS X (.Assign [.Attribute o f pos'] value pos) (lSx Wn (mPutF C f to tv)) :=
  (ps_fld ho hv hs).mi fun D s H ⟨r, S, M, D', R, h, fi⟩ => ⟨r, S, M, _, R, h, fun x w1 v q k1 m1 r1 => ⟨r, w1.S, w1.M, _, R.keep k1 m1, q, fun d w2 u q2 k2 m2 r2 => by
    obtain ⟨a, fs, rfl, ha, hl, q2⟩ := insD_ok q2
    cases r2
    obtain ⟨dx, gs, hu, fr⟩ := m2.ins ha
    refine ⟨a, C, dx, gs, rfl, hu, c, n, by rw [← fr.len]; exact hl, ?_⟩
    have st : Step w2 ⟨up w2.S a (.ins C (putN f x fs)), up w2.M a (.ins C (putN f x fs)), upd w2.H a (.ins C dx (putF f v gs))⟩ := Step.write ha
    have ok : Ok ⟨up w2.S a (.ins C (putN f x fs)), up w2.M a (.ins C (putN f x fs)), upd w2.H a (.ins C dx (putF f v gs))⟩ := m2.write ha (.ins (fr.put (r1.keep k2 m1)))
    exact fi.nx r _ s q2 (((R.keep k1 m1).keep k2 m2).keep st ok) ((k1.trans k2).trans st)⟩⟩
end
/-! ### methods -/
structure Met (P : Program) (w : World) (K : PySem.W.Frag) (mg : Str → Option Value) (base : Heap) (C : Addr) (m : Str) (k : Nat) (f : DSp) : Prop where
  ex : ∃ (a : Addr) (fd : FuncData) (ps : List Str), FnOk P w K mg base CX0 k a fd ps (lSp f) ∧ Meth K C m a ∧ Binds K fd ps []
structure MetX (P : Program) (w : World) (K : PySem.W.Frag) (mg : Str → Option Value) (base : Heap) (C : Addr) (m : Str) (k : Nat) (f : DSpX) : Prop where
  ex : ∃ (a : Addr) (fd : FuncData) (ps : List Str), FnOk P w K mg base (L2.CX P w) k a fd ps (lSpX mg f) ∧ Meth K C m a ∧ Binds K fd ps []
structure Mak (P : Program) (w : World) (K : PySem.W.Frag) (mg : Str → Option Value) (base : Heap) (C : Addr) (x : Str) (k : Nat) (f : DSp) : Prop where
  ex : ∃ (a : Addr) (fd : FuncData) (ps : List Str), FnOk P w K mg base CX0 k a fd ps (lSp f) ∧ Mk K C a ∧ Binds K fd ps [] ∧ mg x = some (.ref C)
theorem MetX.cal {P : Program} {w : World} {K : PySem.W.Frag} {mg : Str → Option Value} {base : Heap} {C : Addr} {m : Str} {k : Nat} {f : DSpX} (c : MetX P w K mg base C m k f) : Met P w K mg base C m k (noX f) := by
  obtain ⟨a, fd, ps, h1, h2, h3⟩ := c.ex
  exact ⟨a, fd, ps, fn_calm h1 fun vs H Q E ⟨S, M, ds, Q', o, r, q, t⟩ => ⟨S, M, ds, Q', _, o, r, q, t, fun _ _ _ _ z _ _ => z⟩, h2, h3⟩
abbrev mInv (C : Addr) (m : Str) (f : DSp) (to : DE) (t : DA) : DE := fun r S Q => to r S fun d S1 => insD C d S1 fun a fs => fs.lookup m = none ∧ t r S1 fun ds S2 => f (.obj a :: ds) S2 Q
abbrev mInvX (C : Addr) (m : Str) (f : DSpX) (to : DE) (t : DA) : DEX := fun r S Q E => to r S fun d S1 => insD C d S1 fun a fs => fs.lookup m = none ∧ t r S1 fun ds S2 => f (.obj a :: ds) S2 Q E
section
variable {X : Cx} {C : Addr} {o e : Expr} {es : List Expr} {m : Str} {pos apos : Pos} {to : DE} {t : DA} {k n : Nat} {f : DSp} {fx : DSpX} {Wx : WX}
theorem me_meth {pl : Sem Bool} (c : Cls X.K C) (F : Met X.prog X.w X.K X.mg X.base C m k f) (hr : Room n X.A) (ho : PE X o (lE to)) (ha : PA X (e :: es) (lA t)) (hk : k ≤ n := by omega)
    (hst : starEach (e :: es) X.env = (false, eval e X.env) :: starEach es X.env := by rfl) (hpl : (backTo pos (starEach es X.env)).any (·.1) = false := by rfl)
    (ht : eval (.Call (.Attribute o m apos) (e :: es) [] pos) X.env = (do
      let ov ← eval o X.env
      standAt apos.atName
      let (f, first) ← holding [ov] (getMethod ov m pl)
      callWith pos f first (backTo pos (starEach (e :: es) X.env)) (backToKw pos (keywordEach [] X.env))) := by rfl) :
    PE X (.Call (.Attribute o m apos) (e :: es) [] pos) (lE (mInv C m f to t)) := by
  obtain ⟨a, fd, ps, h1, h2, h3⟩ := F.ex
  refine (pe_meth ho c h2 h1 (hr.mono hk) h3 .nil pass0 ha hst hpl ht).mi fun s H Q ⟨r, S, M, Q', R, h, k⟩ => ⟨r, S, M, _, R, h, fun d w1 v q k1 m1 rr => ?_⟩
  obtain ⟨b, fs, rfl, hb, hl, q⟩ := insD_ok q
  cases rr
  obtain ⟨dx, gs, hu, fr⟩ := m1.ins hb
  refine ⟨b, dx, gs, rfl, hu, fr.lookN hl, r, w1.S, w1.M, _, R.keep k1 m1, q, fun ds w2 vs q2 k2 m2 r2 => ?_⟩
  show lSp f (.ref b :: (vs ++ [])) w2.H Q E0
  rw [List.append_nil]
  exact ⟨w2.S, w2.M, .obj b :: ds, Q', m2, .cons (.obj b) r2, q2, Then.after k (k1.trans k2)⟩
theorem me_meth0 {pl : Sem Bool} (c : Cls X.K C) (F : Met X.prog X.w X.K X.mg X.base C m k f) (hr : Room n X.A) (ho : PE X o (lE to)) (hk : k ≤ n := by omega)
    (ht : eval (.Call (.Attribute o m apos) [] [] pos) X.env = (do
      let ov ← eval o X.env
      standAt apos.atName
      let (f, first) ← holding [ov] (getMethod ov m pl)
      callWith pos f first (backTo pos (starEach [] X.env)) (backToKw pos (keywordEach [] X.env))) := by rfl) :
    PE X (.Call (.Attribute o m apos) [] [] pos) (lE (mInv C m f to mNil)) := by
  obtain ⟨a, fd, ps, h1, h2, h3⟩ := F.ex
  refine (pe_meth0 ho c h2 h1 (hr.mono hk) h3 .nil pass0 ht).mi fun s H Q ⟨r, S, M, Q', R, h, k⟩ => ⟨r, S, M, _, R, h, fun d w1 v q k1 m1 rr => ?_⟩
  obtain ⟨b, fs, rfl, hb, hl, q⟩ := insD_ok q
  cases rr
  obtain ⟨dx, gs, hu, fr⟩ := m1.ins hb
  refine ⟨b, dx, gs, rfl, hu, fr.lookN hl, ?_⟩
  exact ⟨w1.S, w1.M, [.obj b], Q', m1, .cons (.obj b) .nil, q, Then.after k k1⟩
end
/-! ### making -/
abbrev mMake (C : Addr) (f : DSp) (t : DA) : DE := fun r S Q => t r S fun ds S1 => ∀ a, S1 a = none → f (.obj a :: ds) (up S1 a (.ins C [])) fun d S2 => d = .non ∧ Q (.obj a) S2
section
variable {X : Cx} {C : Addr} {e : Expr} {es : List Expr} {x : Str} {p pos : Pos} {t : DA} {k n : Nat} {f : DSp}
theorem make_imp {ds : List D} {vs : List V} {w1 : W} {Q' : WK} {Q : VK} (m1 : Ok w1) (r1 : Reps w1 vs ds) (kk : Then w1 Q' Q) (q : ∀ a, w1.S a = none → f (.obj a :: ds) (up w1.S a (.ins C [])) fun d S2 => d = .non ∧ Q' (.obj a) S2) :
    ∀ x dx, w1.H x = none → w1.H dx = none → dx ≠ x → lSp f (.ref x :: (vs ++ [])) (upd (upd w1.H dx (.own x)) x (.ins C dx [])) (fun v H2 => v = .non ∧ Q (.ref x) H2) E0 := by
  intro x dx hx hdx ne
  rw [List.append_nil]
  have s1 : Step w1 ⟨w1.S, w1.M, upd w1.H dx (.own x)⟩ := Step.new hdx
  have o1 : Ok ⟨w1.S, w1.M, upd w1.H dx (.own x)⟩ := m1.new hdx
  have hx1 : upd w1.H dx (.own x) x = none := by rw [upd_ne (Ne.symm ne)]; exact hx
  have s2 : Step ⟨w1.S, w1.M, upd w1.H dx (.own x)⟩ ⟨up w1.S x (.ins C []), up w1.M x (.ins C []), upd (upd w1.H dx (.own x)) x (.ins C dx [])⟩ := Step.alloc hx1
  have o2 : Ok ⟨up w1.S x (.ins C []), up w1.M x (.ins C []), upd (upd w1.H dx (.own x)) x (.ins C dx [])⟩ := o1.alloc hx1 (.ins .nil)
  refine ⟨_, _, .obj x :: ds, _, o2, .cons (.obj x) ((r1.keep s1 m1).keep s2 o1), q x (m1.freeS hx), fun d w3 v ⟨e, q3⟩ k3 m3 r3 => ?_⟩
  subst e
  cases r3
  exact ⟨rfl, kk (.obj x) w3 (.ref x) q3 ((s1.trans s2).trans k3) m3 (.obj x)⟩
theorem me_make (F : Mak X.prog X.w X.K X.mg X.base C x k f) (hr : Room n X.A) (ha : PA X (e :: es) (lA t)) (hk : k + 1 ≤ n := by omega) (hg : Gl X x := by rfl) (hdb : (x == ("__debug__" : Str)) = false := by decide) (he : starEach (e :: es) X.env = (false, eval e X.env) :: starEach es X.env := by rfl) (hpl : (backTo pos (starEach es X.env)).any (·.1) = false := by rfl) :
    PE X (.Call (.Name x p) (e :: es) [] pos) (lE (mMake C f t)) := by
  obtain ⟨a, fd, ps, h1, h2, h3, h4⟩ := F.ex
  refine (pe_make h2 h1 (hr.mono hk) hg h4 h3 .nil pass0 ha hdb he hpl).mi fun s H Q ⟨r, S, M, Q', R, h, k⟩ => ⟨r, S, M, _, R, h, fun ds w1 vs q k1 m1 r1 => ?_⟩
  exact make_imp m1 r1 (Then.after k k1) q
theorem me_make0 (F : Mak X.prog X.w X.K X.mg X.base C x k f) (hr : Room n X.A) (hk : k + 1 ≤ n := by omega) (hg : Gl X x := by rfl) (hdb : (x == ("__debug__" : Str)) = false := by decide) :
    PE X (.Call (.Name x p) [] [] pos) (lE (mMake C f mNil)) := by
  obtain ⟨a, fd, ps, h1, h2, h3, h4⟩ := F.ex
  exact (pe_make0 h2 h1 (hr.mono hk) hg h4 h3 .nil pass0 hdb).mi fun s H Q ⟨r, S, M, Q', R, h, k⟩ => make_imp R.ok .nil k h
end
/-! ### a method keeps its promise -/
section
variable {P : Program} {w : World} {K : PySem.W.Frag} {mg : Str → Option Value} {base : Heap}
theorem def_okF' {x q : Str} {st : Stmt} {a : Addr} {fd : FuncData} {N ps : List Str} {k : Nat} {f : DSp} (F : FunD K x q (defArgs st) (defBody st) (defScope st) [] [] a fd) (Sc : FnScope N ps (defScope st)) (t : DS) (len : ∀ ds S Q, f ds S Q → ds.length = ps.length)
    (der : ∀ (cdv : Value) (A : Around) (outer : List Env) (s : Shared) (H : Hp) (E : XK), Room k (A.deeper (envOfC q (defScope st) s.heap.objs.size a cdv)) → PSs (cxOf CX0 P w K mg base N q (defScope st) a cdv A outer s H E).nox (defBody st) (lS t))
    (sem : ∀ ds S Q, f ds S Q → t (endD Q) (startD N.length ds) S) : FnOk P w K mg base CX0 (k + 1) a fd ps (lSp f) := by
  refine F.ok Sc (fun vs H Q E ⟨S, M, ds, Q', o, r, q, _⟩ => r.length.trans (len ds S Q' q)) (fun cdv A outer s H vs Q E hr ⟨S, M, ds, Q', o, r, q, k⟩ => ?_)
  refine ⟨_, PSs.nox (der cdv A outer s H E hr), startD N.length ds, S, M, endD Q', reps_start o r, sem ds S Q' q, ⟨fun r' w' s' a b c => ?_, fun d w' v a b c e => ?_, fun _ _ _ a _ _ => a.elim, fun _ _ _ a _ _ => a.elim, fun _ _ _ _ a _ _ => a.elim⟩⟩
  · exact k .non w' .non a c b.ok .non
  · obtain ⟨S'', d', sh, q'⟩ := a
    obtain ⟨M', o', r', kk⟩ := sh w'.M w'.H v c e
    refine k d' ⟨S'', M', w'.H⟩ v q' (fun c0 ob h n => ?_) o' r'
    obtain ⟨h1, h2, h3⟩ := b c0 ob h n
    obtain ⟨h4, h5⟩ := kk c0 h3
    exact ⟨h1, h5.trans h2, h4⟩
theorem def_okM {C : Addr} {x q : Str} {st : Stmt} {a : Addr} {fd : FuncData} {N ps : List Str} {k : Nat} {f : DSp} (F : FunD K x q (defArgs st) (defBody st) (defScope st) [] [] a fd) (hm : Meth K C x a) (hb : Binds K fd ps []) (Sc : FnScope N ps (defScope st)) (t : DS) (len : ∀ ds S Q, f ds S Q → ds.length = ps.length)
    (der : ∀ (cdv : Value) (A : Around) (outer : List Env) (s : Shared) (H : Hp) (E : XK), Room k (A.deeper (envOfC q (defScope st) s.heap.objs.size a cdv)) → PSs (cxOf CX0 P w K mg base N q (defScope st) a cdv A outer s H E).nox (defBody st) (lS t))
    (sem : ∀ ds S Q, f ds S Q → t (endD Q) (startD N.length ds) S) : Met P w K mg base C x (k + 1) f := ⟨a, fd, ps, def_okF' F Sc t len der sem, hm, hb⟩
theorem def_okMX {C : Addr} {x q : Str} {st : Stmt} {a : Addr} {fd : FuncData} {N ps : List Str} {k : Nat} {f : DSpX} (F : FunD K x q (defArgs st) (defBody st) (defScope st) [] [] a fd) (hm : Meth K C x a) (hb : Binds K fd ps []) (Sc : FnScope N ps (defScope st)) (t : DS) (len : ∀ ds S Q E, f ds S Q E → ds.length = ps.length)
    (der : ∀ (cdv : Value) (A : Around) (outer : List Env) (s : Shared) (H : Hp) (E : XK), Room k (A.deeper (envOfC q (defScope st) s.heap.objs.size a cdv)) → PSs (cxOf (L2.CX P w) P w K mg base N q (defScope st) a cdv A outer s H E) (defBody st) (lSx (wn mg fun cls d _ H' => E cls d H') t))
    (sem : ∀ ds S Q E, f ds S Q E → t (endX Q E) (startD N.length ds) S) : MetX P w K mg base C x (k + 1) f := ⟨a, fd, ps, def_okFX F Sc t len der sem, hm, hb⟩
theorem def_okI {C : Addr} {c q : Str} {st : Stmt} {a : Addr} {fd : FuncData} {N ps : List Str} {k : Nat} {f : DSp} (F : FunD K "__init__" q (defArgs st) (defBody st) (defScope st) [] [] a fd) (hm : Mk K C a) (hg : mg c = some (.ref C)) (hb : Binds K fd ps []) (Sc : FnScope N ps (defScope st)) (t : DS) (len : ∀ ds S Q, f ds S Q → ds.length = ps.length)
    (der : ∀ (cdv : Value) (A : Around) (outer : List Env) (s : Shared) (H : Hp) (E : XK), Room k (A.deeper (envOfC q (defScope st) s.heap.objs.size a cdv)) → PSs (cxOf CX0 P w K mg base N q (defScope st) a cdv A outer s H E).nox (defBody st) (lS t))
    (sem : ∀ ds S Q, f ds S Q → t (endD Q) (startD N.length ds) S) : Mak P w K mg base C c (k + 1) f := ⟨a, fd, ps, def_okF' F Sc t len der sem, hm, hb, hg⟩
end
end ML

set_option maxRecDepth 100000
/-! MW: methods of dicts, displays of dicts, methods of instances that may raise. -/
namespace ML
open PySem PySem.Spec PyProof.Rows L2
/-- a dict by ints and texts -/
abbrev dkD (d : D) (S : Mem) (k : Addr → List (Key × D) → Prop) : Prop := match d with
  | .obj a => match S a with
    | some (.dk kvs) => k a kvs
    | _ => False
  | _ => False
theorem dkD_ok {d : D} {S : Mem} {k : Addr → List (Key × D) → Prop} (h : dkD d S k) : ∃ a kvs, d = .obj a ∧ S a = some (.dk kvs) ∧ k a kvs := by
  unfold dkD at h
  split at h
  · next a =>
    split at h
    · next kvs e => exact ⟨a, kvs, rfl, e, h⟩
    · exact h.elim
  · exact h.elim
theorem isD_of {w : W} {a : Addr} {kvs : List (Key × D)} (m : Ok w) (h : w.S a = some (.dk kvs)) : IsD w.H a := by
  obtain ⟨kws, e, _⟩ := m.dk h
  exact .inl ⟨kws, .inl e⟩
/-- d.get(k, x) -/
abbrev mGet2 (to tk tx : DE) : DE := fun r S Q => to r S fun d S1 => dkD d S1 fun a _ => tk r S1 fun y S2 => tx r S2 fun z S3 => opt (getD S3 a y) fun o => Q (o.getD z) S3
/-- d.pop(k) -/
abbrev mPop1 (to tk : DE) : DE := fun r S Q => to r S fun d S1 => dkD d S1 fun _ _ => tk r S1 fun y S2 => dkD d S2 fun a kvs => opt (keyOf y) fun k => opt (lookD kvs k) fun v => Q v (up S2 a (.dk (ridD kvs k)))
/-- d.pop(k, x) -/
abbrev mPop2 (to tk tx : DE) : DE := fun r S Q => to r S fun d S1 => dkD d S1 fun _ _ => tk r S1 fun y S2 => tx r S2 fun z S3 => dkD d S3 fun a kvs => opt (keyOf y) fun k => match lookD kvs k with
  | some v => Q v (up S3 a (.dk (ridD kvs k)))
  | none => Q z S3
/-- d.setdefault(k, x) -/
abbrev mSetd (to : DE) (t : DA) : DE := fun r S Q => to r S fun d S1 => dkD d S1 fun _ _ => t r S1 fun ds S2 => match ds with
  | [y, z] => dkD d S2 fun a kvs => kvs.length < sizeLine ∧ opt (keyOf y) fun k => match lookD kvs k with
    | some v => Q v S2
    | none => Q z (up S2 a (.dk (putD kvs k z)))
  | _ => False
theorem look_some {w : W} {kvs : List (Key × D)} {kws : List (Key × V)} {k : Key} {d : D} (p : PrR w kvs kws) (h : lookD kvs k = some d) : ∃ v, valV kws k = some v ∧ Rep w v d := by
  have := look_rep (k := k) p
  rw [h] at this
  cases e : valV kws k with
  | none => rw [e] at this; exact False.elim this
  | some v => rw [e] at this; exact ⟨v, rfl, this⟩
theorem look_none {w : W} {kvs : List (Key × D)} {kws : List (Key × V)} {k : Key} (p : PrR w kvs kws) (h : lookD kvs k = none) : valV kws k = none := by
  have := look_rep (k := k) p
  rw [h] at this
  cases e : valV kws k with
  | none => rfl
  | some v => rw [e] at this; exact False.elim this
theorem mt_setd {X : Cx} : MtR X "dict.setdefault" rSetd := by
  intro pins s σ H x xs v us Q I rx rxs h
  obtain ⟨a, kvs, k, z, rfl, rfl, ea, hl, w1, w2⟩ := h
  cases rx
  cases rxs with
  | cons ry rv =>
    cases rv with
    | cons rd rv =>
      cases rv
      obtain ⟨zz, hd, vs0, rel, dd⟩ := dk_of I.hok ea
      have hz : vs0.length ≤ sizeLine := by rw [← rel.length]; exact zz
      refine call_meetsIn PySem.F.slot_dict_setdefault dd.typeIs PySem.F.entry_dict_setdefault (PySem.F.args_dict_setdefault_3 _ _ _) (kt_meets_setdefault (mixKind X.prog X.w) _ (kV_is ry) hd _) ⟨vs0, dd, hz, fun u hu => ?_, fun hn h' dd' hs => ?_⟩
      · have rr := rel.val k
        rw [hu] at rr
        cases hv : valV kvs k with
        | none => rw [hv] at rr; exact False.elim rr
        | some x =>
          rw [hv] at rr
          exact (⟨x, H, I.tok _, rr, w1 x hv⟩ : EP X pins σ Q u _)
      · have rr := rel.val k
        rw [hn] at rr
        cases hv : valV kvs k with
        | some x => rw [hv] at rr; exact False.elim rr
        | none =>
          have hl2 : (putK kvs k z).length ≤ sizeLine := by have := length_putK kvs k z; omega
          exact (⟨z, _, d_write (t' := s.toks + 1) I (by rw [ea]; exact True.intro) hs (let ⟨q, _, _, hq, _⟩ := dd'; ⟨q, hq⟩) (dk_new hl2 hd (rel.put k rd) dd'), rd, w2 hv⟩ : EP X pins σ Q _ _)
section
variable {X : Cx} {o e f : Expr} {apos pos : Pos} {to tk tx : DE} {n : Nat}
theorem me_get2 (hr : Room n X.A) (ho : PE X o (lE to)) (he : PE X e (lE tk)) (hf : PE X f (lE tx)) (m : M2 X o "get" apos e f pos := by exact ⟨rfl, rfl, rfl, rfl⟩) : PE X (.Call (.Attribute o "get" apos) [e, f] [] pos) (lE (mGet2 to tk tx)) :=
  (pe_dget2 (by have := hr.un; omega) ho he hf m).mi fun s H Q ⟨r, S, M, Q', R, h, k⟩ => ⟨r, S, M, _, R, h, fun d w1 v q k1 m1 r1 => by
    obtain ⟨a, kvs, rfl, ha, q⟩ := dkD_ok q
    cases r1
    refine ⟨a, rfl, isD_of m1 ha, r, w1.S, w1.M, _, R.keep k1 m1, q, fun y w2 yv q2 k2 m2 r2 => ⟨r, w2.S, w2.M, _, (R.keep k1 m1).keep k2 m2, q2, fun z w3 zv q3 k3 m3 r3 => ?_⟩⟩
    obtain ⟨od, ho, q3⟩ := of_opt q3
    obtain ⟨ov, g, rp⟩ := getD_rep m3 ho (r2.keep k3 m2)
    refine ⟨ov, g, k _ w3 _ q3 ((k1.trans k2).trans k3) m3 ?_⟩
    cases od with
    | none => cases ov with
      | none => exact r3
      | some _ => exact False.elim rp
    | some d => cases ov with
      | none => exact False.elim rp
      | some _ => exact rp⟩
theorem me_pop1 (ho : PE X o (lE to)) (he : PE X e (lE tk)) (m : M1 X o "pop" apos e pos := by exact ⟨rfl, rfl, rfl, rfl⟩) : PE X (.Call (.Attribute o "pop" apos) [e] [] pos) (lE (mPop1 to tk)) :=
  (pe_dpop1 ho he m).mi fun s H Q ⟨r, S, M, Q', R, h, k⟩ => ⟨r, S, M, _, R, h, fun d w1 v q k1 m1 r1 => by
    obtain ⟨a, kvs, rfl, ha, q⟩ := dkD_ok q
    cases r1
    refine ⟨a, rfl, isD_of m1 ha, r, w1.S, w1.M, _, R.keep k1 m1, q, fun y w2 yv q2 k2 m2 r2 => ?_⟩
    obtain ⟨b, kvs, e, hb, q2⟩ := dkD_ok q2
    cases e
    obtain ⟨key, hk, q2⟩ := of_opt q2
    obtain ⟨x, hx, q2⟩ := of_opt q2
    obtain ⟨kws, e1, pr⟩ := m2.dk hb
    obtain ⟨xv, l, rx⟩ := look_some pr hx
    have st : Step w2 ⟨up w2.S a (.dk (ridD kvs key)), up w2.M a (.dk (ridD kvs key)), upd w2.H a (.dK (dropK kws key))⟩ := Step.write hb
    exact ⟨kws, key, xv, e1, keyOf_rep hk r2, l, k x _ xv q2 ((k1.trans k2).trans st) (m2.write hb (.dk pr.rid)) (rx.keep st m2)⟩⟩
theorem me_pop2 (ho : PE X o (lE to)) (he : PE X e (lE tk)) (hf : PE X f (lE tx)) (m : M2 X o "pop" apos e f pos := by exact ⟨rfl, rfl, rfl, rfl⟩) : PE X (.Call (.Attribute o "pop" apos) [e, f] [] pos) (lE (mPop2 to tk tx)) :=
  (pe_dpop2 ho he hf m).mi fun s H Q ⟨r, S, M, Q', R, h, k⟩ => ⟨r, S, M, _, R, h, fun d w1 v q k1 m1 r1 => by
    obtain ⟨a, kvs, rfl, ha, q⟩ := dkD_ok q
    cases r1
    refine ⟨a, rfl, isD_of m1 ha, r, w1.S, w1.M, _, R.keep k1 m1, q, fun y w2 yv q2 k2 m2 r2 => ⟨r, w2.S, w2.M, _, (R.keep k1 m1).keep k2 m2, q2, fun z w3 zv q3 k3 m3 r3 => ?_⟩⟩
    obtain ⟨b, kvs, e, hb, q3⟩ := dkD_ok q3
    cases e
    obtain ⟨key, hk, q3⟩ := of_opt q3
    obtain ⟨kws, e1, pr⟩ := m3.dk hb
    refine ⟨kws, key, e1, keyOf_rep hk (r2.keep k3 m2), fun xv l => ?_, fun l => ?_⟩
    · cases hx : lookD kvs key with
      | none => rw [look_none pr hx] at l; cases l
      | some x =>
        rw [hx] at q3
        obtain ⟨xv2, l2, rx⟩ := look_some pr hx
        rw [l] at l2
        cases l2
        have st : Step w3 ⟨up w3.S a (.dk (ridD kvs key)), up w3.M a (.dk (ridD kvs key)), upd w3.H a (.dK (dropK kws key))⟩ := Step.write hb
        exact k x _ xv q3 (((k1.trans k2).trans k3).trans st) (m3.write hb (.dk pr.rid)) (rx.keep st m3)
    · cases hx : lookD kvs key with
      | none => rw [hx] at q3; exact k z w3 zv q3 ((k1.trans k2).trans k3) m3 r3
      | some x => obtain ⟨xv2, l2, _⟩ := look_some pr hx; rw [l] at l2; cases l2⟩
theorem me_setd {t : DA} (ho : PE X o (lE to)) (ha : PA X [e, f] (lA t)) (hbase : attributeBase o "setdefault" X.env (eval o X.env) = eval o X.env := by rfl)
    (hfew : ((backTo pos (starEach [e, f] X.env)).all (fun x => !x.1) && (backToKw pos (keywordEach [] X.env)).all (fun x => x.1.isSome) && decide ([e, f].length + ([] : List Keyword).length + (if ([] : List Keyword).isEmpty then 0 else 1) < 30)) = true := by rfl)
    (hline : (apos.endLine == pos.line) = true := by rfl) (hs : starEach [e, f] X.env = (false, eval e X.env) :: starEach [f] X.env := by rfl) (hpl : (backTo pos (starEach [f] X.env)).any (·.1) = false := by rfl) : PE X (.Call (.Attribute o "setdefault" apos) [e, f] [] pos) (lE (mSetd to t)) :=
  (pe_bm PySem.F.plainAttrs_dict PySem.F.slot_dict_setdefault PySem.F.type_dict_setdefault mt_setd ho ha hbase hfew hline hs hpl).mi fun s H Q ⟨r, S, M, Q', R, h, k⟩ => ⟨r, S, M, _, R, h, fun d w1 v q k1 m1 r1 => by
    obtain ⟨a, kvs, rfl, ha, q⟩ := dkD_ok q
    cases r1
    refine ⟨?_, r, w1.S, w1.M, _, R.keep k1 m1, q, fun ds w2 vs q2 k2 m2 r2 => ?_⟩
    · obtain ⟨kws, e1, _⟩ := m1.dk ha
      exact .inr (.inr (.inl ⟨rfl, .inl ⟨kws, e1⟩⟩))
    · split at q2
      · next y z =>
        obtain ⟨b, kvs, e, hb, hl, q2⟩ := dkD_ok q2
        cases e
        obtain ⟨key, hk, q2⟩ := of_opt q2
        obtain ⟨kws, e1, pr⟩ := m2.dk hb
        obtain ⟨yv, zv, rfl, ry, rz⟩ := reps2 r2
        refine ⟨a, kws, key, zv, rfl, by rw [keyOf_rep hk ry], e1, by rw [← pr.len]; exact hl, fun u l => ?_, fun l => ?_⟩
        · cases hx : lookD kvs key with
          | none => rw [look_none pr hx] at l; cases l
          | some x =>
            rw [hx] at q2
            obtain ⟨xv2, l2, rx⟩ := look_some pr hx
            rw [l] at l2
            cases l2
            exact k x w2 u q2 (k1.trans k2) m2 rx
        · cases hx : lookD kvs key with
          | none =>
            rw [hx] at q2
            have st : Step w2 ⟨up w2.S a (.dk (putD kvs key z)), up w2.M a (.dk (putD kvs key z)), upd w2.H a (.dK (putK kws key zv))⟩ := Step.write hb
            exact k z _ zv q2 ((k1.trans k2).trans st) (m2.write hb (.dk (pr.put rz))) (rz.keep st m2)
          | some x => obtain ⟨xv2, l2, _⟩ := look_some pr hx; rw [l] at l2; cases l2
      · exact q2.elim⟩
end
/-! ### {k: v, ..} -/
def mPairs : List (DE × DE) → En → Mem → (List (D × D) → Mem → Prop) → Prop
  | [], _, S, Q => Q [] S
  | (tk, tv) :: r, en, S, Q => tk en S fun x S1 => tv en S1 fun y S2 => mPairs r en S2 fun ps S3 => Q ((x, y) :: ps) S3
def keyP : List (D × D) → Option (List (Key × D))
  | [] => some []
  | (x, y) :: r => match keyOf x, keyP r with
    | some k, some kvs => some ((k, y) :: kvs)
    | _, _ => none
inductive Pairs2 (w : W) : List (V × V) → List (D × D) → Prop
  | nil : Pairs2 w [] []
  | cons {v u : V} {x y : D} {vs : List (V × V)} {xs : List (D × D)} : Rep w v x → Rep w u y → Pairs2 w vs xs → Pairs2 w ((v, u) :: vs) ((x, y) :: xs)
theorem pairs_imp : ∀ (ps : List (DE × DE)) {r : En} {S M : Mem} {H : Hp} {s : L2.St} {Q' : List (D × D) → Mem → Prop} {Q : List (V × V) → Hp → Prop}, Rel r ⟨S, M, H⟩ s → mPairs ps r S Q' →
    (∀ xs (w : W) vs, Q' xs w.S → Step ⟨S, M, H⟩ w → Ok w → Pairs2 w vs xs → Q vs w.H) → tPairs (ps.map fun p => (lE p.1, lE p.2)) s H Q
  | [], r, S, M, H, s, Q', Q, R, h, k => k [] ⟨S, M, H⟩ [] h .refl R.ok .nil
  | (tk, tv) :: ps, r, S, M, H, s, Q', Q, R, h, k =>
    ⟨r, S, M, _, R, h, fun x w1 v q1 k1 m1 r1 => ⟨r, w1.S, w1.M, _, R.keep k1 m1, q1, fun y w2 u q2 k2 m2 r2 =>
      pairs_imp ps ((R.keep k1 m1).keep k2 m2) q2 fun xs w3 vs q3 k3 m3 r3 => k _ w3 _ q3 ((k1.trans k2).trans k3) m3 (.cons ((r1.keep k2 m1).keep k3 m2) (r2.keep k3 m2) r3)⟩⟩
theorem keyP_rep {w : W} : ∀ {xs : List (D × D)} {vs : List (V × V)} {kvs : List (Key × D)}, Pairs2 w vs xs → keyP xs = some kvs → ∃ kws : List (Key × V), vs = kws.map (fun kv => (kV kv.1, kv.2)) ∧ PrR w kvs kws ∧ kws.length = xs.length
  | [], _, _, .nil, h => by cases h; exact ⟨[], rfl, .nil, rfl⟩
  | (x, y) :: xs, _, kvs, .cons r1 r2 t, h => by
    unfold keyP at h
    split at h
    · next k kk e1 e2 =>
      cases h
      obtain ⟨kws, rfl, pr, hl⟩ := keyP_rep t e2
      have := keyOf_rep e1 r1
      subst this
      exact ⟨(k, _) :: kws, rfl, .cons ⟨rfl, r2⟩ pr, by rw [List.length_cons, List.length_cons, hl]⟩
    · cases h
section
variable {X : Cx} {pos : Pos} {keys : List (Option Expr)} {values : List Expr} {ps : List (DE × DE)}
abbrev PPd (X : Cx) (pos : Pos) (keys : List (Option Expr)) (values : List Expr) (ps : List (DE × DE)) : Prop := PPs X pos keys values (ps.map fun p => (lE p.1, lE p.2))
theorem mpp_nil : PPd X pos [] [] [] := pps_nil
theorem mpp_cons {k v : Expr} {tk tv : DE} (hk : PE X k (lE tk)) (hv : PE X v (lE tv)) (h : PPd X pos keys values ps) : PPd X pos (some k :: keys) (v :: values) ((tk, tv) :: ps) := pps_cons hk hv h
abbrev mDisp (ps : List (DE × DE)) : DE := fun r S Q => ∀ a, S a = none → mPairs ps r (up S a (.dk [])) fun xs S2 => xs.length ≤ 15 ∧ S2 a = some (.dk []) ∧ opt (keyP xs) fun kvs => Q (.obj a) (up S2 a (.dk (mergeD [] kvs)))
theorem me_disp (h : PPd X pos keys values ps) (hall : keys.all (·.isSome) = true := by rfl) (hl : keys.length = values.length := by rfl) (h0 : keys ≠ [] := by (intro z; cases z)) (h15 : keys.length ≤ 15 := by decide) : PE X (.Dict keys values pos) (lE (mDisp ps)) :=
  (pe_disp h hall hl h0 h15).mi fun s H Q ⟨r, S, M, Q', R, t, k⟩ p hp => by
    have st : Step ⟨S, M, H⟩ ⟨up S p (.dk []), up M p (.dk []), upd H p (.dK [])⟩ := .alloc hp
    have ok : Ok ⟨up S p (.dk []), up M p (.dk []), upd H p (.dK [])⟩ := R.ok.alloc hp (.dk .nil)
    refine pairs_imp ps (R.keep st ok) (t p (R.ok.freeS hp)) fun xs w vs q k1 m1 r1 => ?_
    obtain ⟨hlen, hp2, q⟩ := q
    obtain ⟨kvs, hk, q⟩ := of_opt q
    obtain ⟨kws, e, pr, hl2⟩ := keyP_rep r1 hk
    obtain ⟨kw0, e1, pr0⟩ := m1.dk hp2
    cases pr0
    have st2 : Step w ⟨up w.S p (.dk (mergeD [] kvs)), up w.M p (.dk (mergeD [] kvs)), upd w.H p (.dK (mergeK [] kws))⟩ := Step.write hp2
    exact ⟨e1, kws, e, by rw [hl2]; exact hlen, k _ _ _ q ((st.trans k1).trans st2) (m1.write hp2 (.dk (PrR.merge pr .nil))) (.obj p)⟩
end
/-! ### o.m(..), m may raise -/
section
variable {X : Cx} {C : Addr} {o e : Expr} {es : List Expr} {m : Str} {pos apos : Pos} {to : DE} {t : DA} {k n : Nat} {f : DSpX} {Wx : WX}
theorem me_methX {pl : Sem Bool} (c : Cls X.K C) (F : MetX X.prog X.w X.K X.mg X.base C m k f) (hr : Room n X.A) (tk : Takes X Wx) (ho : PE X o (lE to)) (ha : PA X (e :: es) (lA t)) (hk : k ≤ n := by omega)
    (hst : starEach (e :: es) X.env = (false, eval e X.env) :: starEach es X.env := by rfl) (hpl : (backTo pos (starEach es X.env)).any (·.1) = false := by rfl)
    (ht : eval (.Call (.Attribute o m apos) (e :: es) [] pos) X.env = (do
      let ov ← eval o X.env
      standAt apos.atName
      let (f, first) ← holding [ov] (getMethod ov m pl)
      callWith pos f first (backTo pos (starEach (e :: es) X.env)) (backToKw pos (keywordEach [] X.env))) := by rfl) :
    PE X (.Call (.Attribute o m apos) (e :: es) [] pos) (lEx (wn X.mg Wx) (mInvX C m f to t)) := by
  obtain ⟨a, fd, ps, h1, h2, h3⟩ := F.ex
  refine ⟨fun pins s σ H Q I ⟨r, S, M, Q', E', R, h, k, kx⟩ => ?_⟩
  refine PySem.W.methodCall_KW (pl := pl) (thn (ho.run pins s σ H (fun v H1 => ∃ b dx gs, v = .ref b ∧ H1 b = some (.ins C dx gs) ∧ gs.lookup m = none ∧ (lA t) σ H1 fun vs H2 => lSpX X.mg f (.ref b :: vs) H2 Q (WE Wx σ)) I ⟨r, S, M, _, R, h, fun d w1 v q k1 m1 rr => ?_⟩) fun u s1 ⟨x, H1, I1, rx, b, dx, gs, ex, ea, l, q⟩ => ?_) ht
  · obtain ⟨b, fs, rfl, hb, hl, q⟩ := insD_ok q
    cases rr
    obtain ⟨dx, gs, hu, fr⟩ := m1.ins hb
    refine ⟨b, dx, gs, rfl, hu, fr.lookN hl, r, w1.S, w1.M, _, R.keep k1 m1, q, fun ds w2 vs q2 k2 m2 r2 => ?_⟩
    exact ⟨w2.S, w2.M, .obj b :: ds, Q', E', m2, .cons (.obj b) r2, q2, Then.after k (k1.trans k2), fun x C w' hC h z o => kx x w' h ((k1.trans k2).trans z) o C hC⟩
  · subst ex
    obtain rfl : u = Value.ref b := rx
    refine getmeth_ok I1 ea c h2 l ?_
    refine PySem.W.callWith_K (first := [.ref b]) (h₀ := X.base) I.ok.mod.kin h2.kp (thn (ha.run pos pins s1 σ H1 _ I1 q) fun us s2 ⟨vs, H2, I2, r, q2⟩ => ⟨I2.kIn, ?_⟩) hst hpl
    exact run_fnS (E := WE Wx) (us := .ref b :: us) (vs := .ref b :: vs) h1 (hr.mono hk) h3 (passAt tk σ) I2 (.cons rfl r) q2
end
/-! ### parts of expressions that may raise -/
abbrev mBinX (o : O2) (t : DEX) (u : DE) : DEX := fun r S Q E => t r S (fun x S1 => u r S1 fun y S2 => o x y S2 Q) E
end ML

set_option maxRecDepth 100000
/-! MB: tests and parts of expressions that may raise; try with clauses. -/
namespace ML
open PySem PySem.Spec PyProof.Rows L2
theorem binX_imp {Wn : NX} {r : R2} {o : O2} {ta : DEX} {tb : DE} (h : Op2 r o) : ∀ s H Q, lEx Wn (mBinX o ta tb) s H Q → tOp r (lEx Wn ta) (lE tb) s H Q := by
  rintro s H Q ⟨r, S, M, Q', E', R, t, k, kx⟩
  refine ⟨r, S, M, _, _, R, t, fun x w1 v t1 k1 m1 r1 => ⟨r, w1.S, w1.M, _, R.keep k1 m1, t1, fun y w2 u t2 k2 m2 r2 => ?_⟩, kx⟩
  exact h x y v u w2 Q Q' m2 (r1.keep k2 m1) r2 t2 (Then.after k (k1.trans k2))
abbrev DTX := En → Mem → (Bool → Mem → Prop) → XQ → Prop
def lTx (Wn : NX) (t : DTX) : TT := fun s H Q => ∃ r S M Q' E', Rel r ⟨S, M, H⟩ s ∧ t r S Q' E' ∧ (∀ b (w : W), Q' b w.S → Step ⟨S, M, H⟩ w → Ok w → Q b w.H) ∧ ∀ x (w' : W), E' x w'.S → Step ⟨S, M, H⟩ w' → Ok w' → Wn x s w'.H
abbrev mTstX (t : DEX) : DTX := fun r S Q E => t r S (fun d S1 => match d with
  | .bl b => Q b S1
  | _ => False) E
theorem tstX_imp {Wn : NX} {t : DEX} {s : L2.St} {H : Hp} {Q : Bool → Hp → Prop} (h : lTx Wn (mTstX t) s H Q) : lEx Wn t s H fun x H' => ∃ k, x = .bl k ∧ Q k H' := by
  obtain ⟨r, S, M, Q', E', R, h, k, kx⟩ := h
  refine ⟨r, S, M, _, _, R, h, fun d w1 v q k1 m1 r1 => ?_, kx⟩
  cases d with
  | bl b => cases r1; exact ⟨b, rfl, k b w1 q k1 m1⟩
  | _ => exact False.elim q
abbrev mIfSX (c : DTX) (t u : DS) : DS := fun N r S => c r S (fun b S1 => match b with
  | true => t N r S1
  | false => u N r S1) fun x S1 => N.xc x r S1
section
variable {X : Cx} {Wn : NX} {n : Nat} {a b : Expr} {ta : DEX} {tb : DE} {pos : Pos}
theorem me_ixX (hr : Room n X.A) (ha : PE X a (lEx Wn ta)) (hb : PE X b (lE tb)) (hs : PlainIx b := by exact fun _ _ => rfl) : PE X (.Subscript a b pos) (lEx Wn (mBinX oIx ta tb)) :=
  (pe_ix (IxR.or ix_seq (ix_dict (by have := hr.un; omega))) ha hb hs).mi (binX_imp op2_ix)
theorem mt_eqX (hr : Room n X.A) (ha : PE X a (lEx Wn ta)) (hb : PE X b (lE tb)) : PT X (.Compare a [.Eq] [b] pos) (lTx Wn (mTstX (mBinX oEq ta tb))) :=
  (pt_cmpR (op_eqA hr) ha hb (nomark _)).mi fun s H Q h => binX_imp op2_eq _ _ _ (tstX_imp h)
theorem mt_neX (hr : Room n X.A) (ha : PE X a (lEx Wn ta)) (hb : PE X b (lE tb)) : PT X (.Compare a [.NotEq] [b] pos) (lTx Wn (mTstX (mBinX oNe ta tb))) :=
  (pt_cmpR (op_neA hr) ha hb (nomark _)).mi fun s H Q h => binX_imp op2_ne _ _ _ (tstX_imp h)
theorem ms_ifX {c : Expr} {sa sb : List Stmt} {tc : DTX} {t u : DS} (hc : PT X c (lTx Wn tc)) (ha : PSs X sa (lSx Wn t)) (hb : PSs X sb (lSx Wn u)) : PS X (.If c sa sb pos) (lSx Wn (mIfSX tc t u)) := (ps_if hc ha hb).mi fun D s H ⟨r, S, M, D', R, h, f⟩ =>
  ⟨r, S, M, _, _, R, h, fun b w1 q k m => by
    cases b with
    | true => rw [if_pos rfl]; exact ⟨r, w1.S, w1.M, D', R.keep k m, q, f.after k⟩
    | false => rw [if_neg Bool.false_ne_true]; exact ⟨r, w1.S, w1.M, D', R.keep k m, q, f.after k⟩, fun x w1 q k m => f.xc x r w1 s q (R.keep k m) k⟩
end
/-! ### x = x + y, x a list that is changed later -/
def oAddO : O2 := fun x y S Q => ∃ xs ys, asW S x = some xs ∧ asW S y = some ys ∧ xs.length + ys.length ≤ sizeLine ∧ ∀ a, S a = none → Q (.obj a) (up S a (.lst (xs ++ ys)))
theorem op2_addO : Op2 rCat oAddO := by
  intro x y v u w Q Q' m rx ry h k
  obtain ⟨xs, ys, ex, ey, hz, h⟩ := h
  obtain ⟨a, vs, rfl, hv, rv, _⟩ := asW_rep m ex rx
  obtain ⟨b, ws, rfl, hw, rw', _⟩ := asW_rep m ey ry
  have l1 := rv.length
  have l2 := rw'.length
  refine ⟨a, b, vs, ws, rfl, rfl, hv, hw, by omega, fun p hp => ?_⟩
  exact k _ ⟨up w.S p (.lst (xs ++ ys)), up w.M p (.lst (xs ++ ys)), _⟩ _ (h p (m.freeS hp)) (.alloc hp) (m.alloc hp (.lst (rv.append rw') (by rw [List.length_append]; exact hz))) (.obj p)
theorem me_addO {X : Cx} {a b : Expr} {ta tb : DE} {pos : Pos} (ha : PE X a (lE ta)) (hb : PE X b (lE tb)) : PE X (.BinOp a .Add b pos) (lE (mBin oAddO ta tb)) := me_bin op_cat op2_addO ha hb
/-! ### try -/
abbrev ExTab := List ((Str × Str) × Bool)
/-- which class's exceptions are another one's -/
structure ExT (K : PySem.W.Frag) (mg : Str → Option Value) (tab : ExTab) : Prop where
  ok : ∀ x c b, tab.lookup (x, c) = some b → ∀ Cx Cc, mg x = some (.ref Cx) → mg c = some (.ref Cc) → PySem.W.exmOne K (.ref Cx) (.ref Cc) = some b
theorem ExT.nil {K : PySem.W.Frag} {mg : Str → Option Value} : ExT K mg [] := ⟨fun _ _ _ h => by cases h⟩
theorem ExT.cons {K : PySem.W.Frag} {mg : Str → Option Value} {tab : ExTab} {x c : Str} {b : Bool} {Cx Cc : Addr} (h1 : mg x = some (.ref Cx)) (h2 : mg c = some (.ref Cc)) (h : PySem.W.exmOne K (.ref Cx) (.ref Cc) = some b) (t : ExT K mg tab) : ExT K mg (((x, c), b) :: tab) := ⟨fun x' c' b' e A B h3 h4 => by
  rw [List.lookup_cons] at e
  cases q : ((x', c') == (x, c)) with
  | true =>
    rw [q] at e
    cases e
    have := eq_of_beq q
    cases this
    rw [h1] at h3; cases h3
    rw [h2] at h4; cases h4
    exact h
  | false => rw [q] at e; exact t.ok x' c' b' e A B h3 h4⟩
def hnd (tab : ExTab) : List (Str × DS) → Nd → Str → En → Mem → Prop
  | [], N, x, r, S => N.xc x r S
  | (c, t) :: hs, N, x, r, S => match tab.lookup (x, c) with
    | some true => t N r S
    | some false => hnd tab hs N x r S
    | none => False
abbrev mTry (tab : ExTab) (hs : List (Str × DS)) (tb : DS) : DS := fun N r S => tb { N with xc := hnd tab hs N } r S
inductive HdsD (X : Cx) (Wn : NX) : List ExceptHandler → List (Str × DS) → List (Value × (Addr → Value → Option Addr → TS)) → Prop
  | nil : HdsD X Wn [] [] []
  | cons {x : Str} {C : Addr} {t : DS} {b₀ : Stmt} {suite : List Stmt} {np pos' : Pos} {hds : List ExceptHandler} {hs : List (Str × DS)} {l : List (Value × (Addr → Value → Option Addr → TS))} (hm : X.mg x = some (.ref C)) (hc : Gl X x) (hd : (x == ("__debug__" : Str)) = false)
      (hsu : ∀ (a : Addr) (oe : Obj) (pn : List (Addr × Obj)), PSs (X.suite a ((a, oe) :: pn)) (b₀ :: suite) (lSx Wn t)) (r : HdsD X Wn hds hs l) :
      HdsD X Wn (.ExceptHandler (some (.Name x np)) none (b₀ :: suite) pos' :: hds) ((x, t) :: hs) ((.ref C, fun _ _ _ => lSx Wn t) :: l)
theorem HdsD.ok {X : Cx} {Wn : NX} {hds : List ExceptHandler} {hs : List (Str × DS)} {l : List (Value × (Addr → Value → Option Addr → TS))} (h : HdsD X Wn hds hs l) : HdsOk X hds l := by
  induction h with
  | nil => exact .nil
  | cons hm hc hd hsu _ ih => exact .cons ⟨hc, hd, .inl hm⟩ (fun a oe _ _ pn _ _ => hsu a oe pn) ih
theorem HdsD.imp {X : Cx} {Wn : NX} {Wout : WX} {tab : ExTab} (et : ExT X.K X.mg tab) (hW : ∀ x C s H, X.mg x = some (.ref C) → Wn x s H → Wout (.ref C) none s H) {hds : List ExceptHandler} {hs : List (Str × DS)} {l : List (Value × (Addr → Value → Option Addr → TS))} (h : HdsD X Wn hds hs l)
    {w0 : W} {N : Nd} {D : Ends} (f : Fits Wn w0 N D) {x : Str} {r : En} {w : W} {s : L2.St} (q : hnd tab hs N x r w.S) (R : Rel r w s) (k : Step w0 w) {C : Addr} (hC : X.mg x = some (.ref C)) : wMany X.K Wout D l (.ref C) none s w.H := by
  induction h with
  | nil => exact hW x C s w.H hC (f.xc x r w s q R k)
  | @cons c Cc t b₀ suite np pos' hds hs l hm hc hd hsu _ ih =>
    unfold hnd at q
    cases e : tab.lookup (x, c) with
    | none => rw [e] at q; exact q.elim
    | some b =>
      rw [e] at q
      refine ⟨b, et.ok x c b e C Cc hC hm, fun hb a _ => ?_, fun hb => ?_⟩
      · subst hb
        exact ⟨r, w.S, w.M, N, R, q, f.after k⟩
      · subst hb
        exact ih q
section
variable {X : Cx} {Wn : NX} {Wout : WX} {tab : ExTab} {body : List Stmt} {h₀ : ExceptHandler} {hds : List ExceptHandler} {hs : List (Str × DS)} {l : List (Value × (Addr → Value → Option Addr → TS))} {pos : Pos} {tb : DS}
theorem ms_try (et : ExT X.K X.mg tab) (hst : X.stack = X.env :: X.outer) (hf : X.env.frame = some X.env.locals) (tk : Takes X Wout) (hW : ∀ x C s H, X.mg x = some (.ref C) → Wn x s H → Wout (.ref C) none s H)
    (hb : ∀ (Wx : WX) (pn : List (Addr × Obj)) (xe : Value → Shared → Prop), Takes (X.tr pn xe) Wx → PassesOwn (model X.prog X.w) X.A X.env xe → PSs (X.tr pn xe) body (lSx (wn X.mg Wx) tb))
    (hh : HdsD X Wn (h₀ :: hds) hs l) : PS X (.Try body (h₀ :: hds) [] [] pos) (lSx Wn (mTry tab hs tb)) :=
  (ps_try_many (tb := fun Wx => lSx (wn X.mg Wx) tb) hst hf tk hb hh.ok).mi fun D s H ⟨r, S, M, D', R, h, f⟩ =>
    ⟨r, S, M, { D' with xc := hnd tab hs D' }, R, h, f.nx, f.rt, f.bk, f.ct, fun x r' w' s' q R' k C hC => hh.imp et hW f q R' k hC⟩
end
end ML

set_option maxRecDepth 100000
/-! MDT: dict of a tuple of pairs. -/
namespace ML
open PySem PySem.Spec PyProof.Rows L2
section
variable {X : Cx}
theorem pairs_of2 {pins : List (Addr × Obj)} {σ : L2.St} {H : Hp} {s : Shared} (I : Inv X pins σ H s) : ∀ {ps : List Addr} {kvs : List (Key × V)}, Paired (fun p kv => SqT X.K H p [kV kv.1, kv.2]) ps kvs →
    ∃ (us : List (Value × Value)) (prs : List (Key × Value)), KV kvs prs ∧ us.length = ps.length ∧ prs.length = ps.length ∧ ∀ (j : Nat) (u y : Value), us[j]? = some (u, y) → ∃ (b : Addr) (k : Key), ps[j]? = some b ∧ prs[j]? = some (k, y) ∧ IsTup s.heap b #[u, y] ∧ keyIs k u = true
  | _, _, .nil => ⟨[], [], .nil, rfl, rfl, fun j u y e => by simp at e⟩
  | _, _, .cons (a := p) (b := kv) h t => by
    obtain ⟨us, prs, r, hl, hl2, hp⟩ := pairs_of2 I t
    obtain ⟨its, rv, ht, _⟩ := I.tuple h
    obtain ⟨u, y, ei, ru, ry⟩ := vals2 rv
    subst ei
    refine ⟨(u, y) :: us, (kv.1, y) :: prs, .cons ⟨rfl, ry⟩ r, by rw [List.length_cons, List.length_cons, hl], by rw [List.length_cons, List.length_cons, hl2], fun j u' y' e => ?_⟩
    cases j with
    | zero =>
      have e' : (u, y) = (u', y') := Option.some.inj e
      cases e'
      exact ⟨p, kv.1, rfl, rfl, ht, kV_is (P := X.prog) (w := X.w) ru⟩
    | succ j =>
      obtain ⟨b, k, e1, e2, e3, e4⟩ := hp j u' y' (by simpa using e)
      exact ⟨b, k, by simpa using e1, by simpa using e2, e3, e4⟩
def rDictK (K : PySem.W.Frag) : List V → Hp → VK → Prop := fun xs H Q => ∃ (a : Addr) (o : Obj) (ps : List Addr) (kvs : List (Key × V)), xs = [.ref a] ∧ H a = some (.frz o (.tup (ps.map V.ref))) ∧ o.dict = none ∧ Paired (fun p kv => SqT K H p [kV kv.1, kv.2]) ps kvs ∧
    ∀ p, H p = none → Q (.ref p) (upd H p (.dK (mergeK [] kvs)))
theorem call_dictK (hcalm : X.calm = true) : CallR X (.type "dict") (rDictK X.K) := by
  intro pins s σ H xs us Q I r q
  obtain ⟨a, o, ps, kvs, ex, hq, hdn, hp, q⟩ := q
  subst ex
  obtain ⟨u, eu, rx⟩ := vals1 r
  subst eu
  cases rx
  obtain ⟨hget, hz, its, rv, hT⟩ := I.hok a _ hq
  have ei := refs_at rv
  subst ei
  rw [List.length_map] at hz
  obtain ⟨pus, prs, rel, hl, hl2, hpr⟩ := pairs_of2 I hp
  have P := PySem.PairArg.tuple (prog := X.prog) (w := X.w) a (ps.map Value.ref).toArray (fun j => ps.getD j 0) pus
  obtain ⟨o2, ho2, hc2, n2, hd2⟩ := id hT
  have eo : o = o2 := Option.some.inj (hget.symm.trans ho2)
  subst eo
  refine PySem.call_dict_pairs (knd := mixKind X.prog X.w) (kvs := prs) P (I.ok.hd hcalm) ⟨⟨o, n2, hget, hc2, hdn, hd2⟩, by simp [hl], fun j k v e => ?_⟩ ⟨by rw [hl2, hl], fun i key v e => ?_⟩ (by rw [hl]; exact hz) fun h' tk hd' k => ?_
  · obtain ⟨b, k2, e1, e2, e3, e4⟩ := hpr j k v e
    refine ⟨by simp [e1], ?_⟩
    show PySem.PairAt s.heap (ps.getD j 0) k v
    rw [List.getD_eq_getElem?_getD, e1]
    exact .inl e3
  · obtain ⟨b, k2, e1, e2, e3, e4⟩ := hpr i key v e
    exact ⟨k2, e2, e4⟩
  · have hm : (s.heap.objs.size == sysModules) = false := beq_eq_false_iff_ne.mpr (Nat.ne_of_gt I.big)
    have hlen : (mergeK [] kvs).length ≤ sizeLine := by
      refine Nat.le_trans (length_mergeK kvs []) ?_
      rw [List.length_nil, Nat.zero_add, rel.length, hl2]
      exact hz
    exact ⟨.ref s.heap.objs.size, upd H s.heap.objs.size (.dK (mergeK [] kvs)), I.laid (t' := tk) (fun b o e => k b o (by simp) e) (Nat.le_refl _) (show ObjOk X.prog X.w _ _ _ (.dK (mergeK [] kvs)) from ⟨hlen, hm, merged [] prs, KV.merge rel .nil, hd'⟩), rfl, q _ (I.hok.fresh (Nat.le_refl _))⟩
def oDictK : OA := fun ds S Q => match ds with
  | [.kt xs] => ∃ kvs : List (Key × D), xs = kvs.map (fun kv => pairD kv.1 kv.2) ∧ ∀ a, S a = none → Q (.obj a) (up S a (.dk (mergeD [] kvs)))
  | _ => False
theorem opA_dictK {K : PySem.W.Frag} : OpA (rDictK K) oDictK := by
  intro ds vs w Q Q' m rr h k
  unfold oDictK at h
  split at h
  · next xs =>
    obtain ⟨v, rfl, r⟩ := reps1 rr
    obtain ⟨kvs, rfl, h2⟩ := h
    cases r with
    | kt ha hd hn rs hz =>
      obtain ⟨ps, kws, rfl, g1, g2⟩ := pair_reps (K := K) rs
      exact ⟨_, _, ps, kws, rfl, ha, hd, g1, fun p hp => k _ ⟨up w.S p (.dk (mergeD [] kvs)), up w.M p (.dk (mergeD [] kvs)), _⟩ _ (h2 p (m.freeS hp)) (.alloc hp) (m.alloc hp (.dk (g2.merge .nil))) (.obj p)⟩
  · exact h.elim
theorem me_dictK {e : Expr} {p pos : Pos} {t : DA} (hc : X.calm = true) (hm : X.mg "dict" = none) (ha : PA X [e] (lA t)) (hg : Gl X "dict" := by rfl) (hs : starEach [e] X.env = (false, eval e X.env) :: starEach [] X.env := by rfl) : PE X (.Call (.Name "dict" p) [e] [] pos) (lE (mCall oDictK t)) :=
  me_callTy (call_dictK hc) opA_dictK hm ha (by decide +kernel) hg (by decide) (by decide) hs
end
end ML

set_option maxRecDepth 100000
/-! MLK: dicts that are walked: locked meanwhile. -/
namespace ML
open PySem PySem.Spec PyProof.Rows L2
def isDic : MO → Prop
  | .dk _ => True
  | .dt _ => True
  | _ => False
abbrev mLockE (t : DE) : DE := fun r S Q => ∃ a m, S a = some m ∧ isDic m ∧ ∀ od u, t r (up S a (.lck od u m)) fun v S' => S' a = some (.lck od u m) ∧ Q v (up S' a m)
abbrev mLockS (t : DS) : DS := fun N r S => ∃ a m, S a = some m ∧ isDic m ∧ ∀ od u, t { N with
    nx := fun r' S' => S' a = some (.lck od u m) ∧ N.nx r' (up S' a m), rt := fun d S' => S' a = some (.lck od u m) ∧ N.rt d (up S' a m),
    bk := fun r' S' => S' a = some (.lck od u m) ∧ N.bk r' (up S' a m), ct := fun r' S' => S' a = some (.lck od u m) ∧ N.ct r' (up S' a m), xc := fun _ _ _ => False } r (up S a (.lck od u m))
theorem dic_mut {w : W} {m : MO} {u : HO} (h : isDic m) (r : RepO w m u) : Mut (some u) := by
  cases r with
  | dk _ => trivial
  | dt _ => trivial
  | _ => exact h.elim
theorem lck_at {w : W} {a : Addr} {od : Obj} {u : HO} {m : MO} (k : Ok w) (h : w.S a = some (.lck od u m)) : w.H a = some (.frz od u) ∧ RepO w m u := by
  obtain ⟨v, hv, r⟩ := k.mem a _ (k.sub a _ h)
  cases r with
  | lck r => exact ⟨hv, r⟩
theorem lock_in {S M : Mem} {H : Hp} {a : Addr} {m : MO} {u : HO} (od : Obj) (k : Ok ⟨S, M, H⟩) (h : S a = some m) (hu : H a = some u) (r : RepO ⟨S, M, H⟩ m u) :
    Ok ⟨up S a (.lck od u m), up M a (.lck od u m), upd H a (.frz od u)⟩ ∧ Step ⟨S, M, H⟩ ⟨up S a (.lck od u m), up M a (.lck od u m), upd H a (.frz od u)⟩ := ⟨k.write h (.lck r), .write h⟩
theorem lock_out {w : W} {a : Addr} {m : MO} {u : HO} {od : Obj} (k : Ok w) (h : w.S a = some (.lck od u m)) : Ok ⟨up w.S a m, up w.M a m, upd w.H a u⟩ ∧ Step w ⟨up w.S a m, up w.M a m, upd w.H a u⟩ := by
  obtain ⟨_, r⟩ := lck_at k h
  exact ⟨k.write h r, .write h⟩
section
variable {X : Cx} {Wn : NX}
theorem me_lock {e : Expr} {t : DE} (h : PE X e (lE t)) : PE X e (lE (mLockE t)) := (pe_lock h).mi fun s H Q ⟨r, S, M, Q', R, ⟨a, m, hS, hm, t'⟩, k⟩ => by
  obtain ⟨u, hu, ro⟩ := R.ok.mem a _ (R.ok.sub a _ hS)
  refine ⟨a, u, hu, dic_mut hm ro, fun od => ?_⟩
  obtain ⟨k1, s1⟩ := lock_in od R.ok hS hu ro
  refine ⟨r, _, _, _, R.keep s1 k1, t' od u, fun d w v ⟨e, q⟩ s2 k2 rp => ?_⟩
  obtain ⟨k3, s3⟩ := lock_out k2 e
  exact ⟨(lck_at k2 e).1, k d _ v q ((s1.trans s2).trans s3) k3 (rp.keep s3 k2)⟩
theorem ms_lock {st : Stmt} {t : DS} (h : PS X st (lSx Wn t)) : PS X st (lSx Wn (mLockS t)) := (ps_lock h).mi fun D s H ⟨r, S, M, D', R, ⟨a, m, hS, hm, t'⟩, f⟩ => by
  obtain ⟨u, hu, ro⟩ := R.ok.mem a _ (R.ok.sub a _ hS)
  refine ⟨a, u, hu, dic_mut hm ro, fun od => ?_⟩
  obtain ⟨k1, s1⟩ := lock_in od R.ok hS hu ro
  refine ⟨r, _, _, _, R.keep s1 k1, t' od u, ⟨fun r' w' s' ⟨e, q⟩ R' s2 => ?_, fun d w' v ⟨e, q⟩ s2 k2 rp => ?_, fun r' w' s' ⟨e, q⟩ R' s2 => ?_, fun r' w' s' ⟨e, q⟩ R' s2 => ?_, fun _ _ _ _ z _ _ => z.elim⟩⟩
  · obtain ⟨k3, s3⟩ := lock_out R'.ok e
    exact ⟨(lck_at R'.ok e).1, f.nx r' _ s' q (R'.keep s3 k3) ((s1.trans s2).trans s3)⟩
  · obtain ⟨k3, s3⟩ := lock_out k2 e
    exact ⟨(lck_at k2 e).1, f.rt d _ v q ((s1.trans s2).trans s3) k3 (rp.keep s3 k2)⟩
  · obtain ⟨k3, s3⟩ := lock_out R'.ok e
    exact ⟨(lck_at R'.ok e).1, f.bk r' _ s' q (R'.keep s3 k3) ((s1.trans s2).trans s3)⟩
  · obtain ⟨k3, s3⟩ := lock_out R'.ok e
    exact ⟨(lck_at R'.ok e).1, f.ct r' _ s' q (R'.keep s3 k3) ((s1.trans s2).trans s3)⟩
/-! ### the keys, walked -/
def keyV : Key → D
  | .inl i => .int i
  | .inr x => .str x
theorem keyV_rep {w : W} (k : Key) : Rep w (kV k) (keyV k) := by cases k with | inl i => exact .int i | inr x => exact .str x
theorem keysV_rep {w : W} : ∀ (ks : List Key), Reps w (ks.map kV) (ks.map keyV)
  | [] => .nil
  | k :: ks => .cons (keyV_rep k) (keysV_rep ks)
abbrev wKeys (te : DE) : DI := fun r S R => te r S fun d S1 => match d with
  | .obj a => match S1 a with
    | some (.lck od u (.dk kvs)) => kvs.length ≤ 10000 ∧ R (kvs.map fun kv => keyV kv.1) (some (a, .lck od u (.dk kvs))) S1
    | some (.lck od u (.dt kvs)) => kvs.length ≤ 10000 ∧ (∀ kv ∈ kvs, kv.1.length ≤ 10000) ∧ R (kvs.map fun kv => .tup (kv.1.map keyV)) (some (a, .lck od u (.dt kvs))) S1
    | _ => False
  | _ => False
theorem get_of_map {α β : Type} {f : α → β} {l : List α} {i : Nat} {b : β} (h : (l.map f)[i]? = some b) : ∃ a, l[i]? = some a ∧ f a = b := by
  rw [List.getElem?_map] at h
  exact Option.map_eq_some_iff.mp h
theorem PrR.at {κ : Type} {w : W} : ∀ {kvs : List (κ × D)} {kws : List (κ × V)} {i : Nat} {k : κ} {v : V}, PrR w kvs kws → kws[i]? = some (k, v) → ∃ d, kvs[i]? = some (k, d) ∧ Rep w v d
  | _, _, i, k, v, .nil, h => by simp at h
  | _, _, 0, k, v, .cons (a := p) (b := q) x t, h => by
    have h : q = (k, v) := Option.some.inj h
    subst h
    obtain ⟨pk, pd⟩ := p
    obtain ⟨x1, x2⟩ := x
    have x1 : pk = k := x1
    subst x1
    exact ⟨pd, rfl, x2⟩
  | _, _, i + 1, k, v, .cons x t, h => by
    obtain ⟨d, h1, h2⟩ := PrR.at t (i := i) (by simpa using h)
    exact ⟨d, by simpa using h1, h2⟩
theorem tup_data {w : W} (k : Ok w) {q : Addr} {vs : List V} (h : w.H q = some (.tup vs)) : w.M q = none := by
  cases e : w.M q with
  | none => rfl
  | some o =>
    obtain ⟨u, hu, r⟩ := k.mem q o e
    rw [h] at hu
    cases hu
    cases r
theorem mi_keys {tg e : Expr} {te : DE} (he : PE X e (lE te)) : PI X tg e (lI (wKeys te)) := (pi_keys he).mi fun s H Rr ⟨r, S, M, R', R, t, k⟩ => ⟨r, S, M, _, R, t, fun d w1 v q k1 m1 r1 => by
  cases d with
  | obj a =>
    cases r1
    dsimp only at q
    split at q
    · next od u kvs e =>
      obtain ⟨hl, q⟩ := q
      obtain ⟨hH, ro⟩ := lck_at m1 e
      cases ro with
      | @dk _ kws p =>
        have hlen := PrR.len p
        refine ⟨a, od, rfl, .inl ⟨kws, hH, k _ _ w1 _ q k1 m1 ⟨fun i w d kk m c hd => ?_, fun i w kk m c hi => ?_, ?_⟩⟩⟩
        · have hw := (lck_at m c).1
          obtain ⟨kv, h1, h2⟩ := get_of_map hd
          have hi : i < kvs.length := (List.getElem?_eq_some_iff.mp h1).1
          refine ⟨⟨hw, by omega⟩, fun x H' hy => ?_⟩
          obtain ⟨rfl, k2, v2, h3, rfl⟩ := hy
          obtain ⟨d2, h4, _⟩ := PrR.at p h3
          rw [h1] at h4
          cases h4
          exact ⟨.refl, m, h2 ▸ keyV_rep k2⟩
        · exact ⟨(lck_at m c).1, by rw [List.length_map] at hi; omega⟩
        · rw [List.length_map]
          have := sizeLine_eq
          omega
    · next od u kvs e =>
      obtain ⟨hl, hl2, q⟩ := q
      obtain ⟨hH, ro⟩ := lck_at m1 e
      cases ro with
      | @dt _ kws p =>
        have hlen := PrR.len p
        refine ⟨a, od, rfl, .inr ⟨kws, hH, k _ _ w1 _ q k1 m1 ⟨fun i w d kk m c hd => ?_, fun i w kk m c hi => ?_, ?_⟩⟩⟩
        · have hw := (lck_at m c).1
          obtain ⟨kv, h1, h2⟩ := get_of_map hd
          have hi : i < kvs.length := (List.getElem?_eq_some_iff.mp h1).1
          refine ⟨⟨hw, by omega⟩, fun x H' hy => ?_⟩
          obtain ⟨rfl, k2, v2, q2, h3, rfl, hq⟩ := hy
          obtain ⟨d2, h4, _⟩ := PrR.at p h3
          rw [h1] at h4
          cases h4
          have := hl2 _ (List.mem_of_getElem? h1)
          have hz := sizeLine_eq
          exact ⟨.refl, m, h2 ▸ .tup hq (tup_data m hq) (keysV_rep k2) (by rw [List.length_map]; show k2.length ≤ sizeLine; have : k2.length ≤ 10000 := this; omega)⟩
        · exact ⟨(lck_at m c).1, by rw [List.length_map] at hi; omega⟩
        · rw [List.length_map]
          have := sizeLine_eq
          omega
    · exact q.elim
  | _ => exact False.elim q⟩
end
end ML

set_option maxRecDepth 100000
/-! MXC: except C as e. -/
namespace ML
open PySem PySem.Spec PyProof.Rows L2
theorem Rel.none {r : En} {w : W} {s : L2.St} (x : Rel r w s) (i : Nat) : Rel (r.set i none) w (s.set i none) := by
  refine ⟨x.ok, by rw [List.length_set, List.length_set]; exact x.len, fun j d h => ?_⟩
  obtain ⟨ne, h⟩ := set_none_get (l := r) h
  obtain ⟨v, h1, h2⟩ := x.slot j d h
  exact ⟨v, by rw [List.getElem?_set_ne (Ne.symm ne)]; exact h1, h2⟩
abbrev asNd (i : Nat) (N : Nd) : Nd := { N with nx := fun r S => N.nx (r.set i none) S, bk := fun r S => N.bk (r.set i none) S, ct := fun r S => N.ct (r.set i none) S }
abbrev mTryAs (tab : ExTab) (c : Str) (i : Nat) (th : Addr → Str → DS) (tb : DS) : DS := fun N r S => tb { N with xc := fun x r' S' => match tab.lookup (x, c) with
  | some true => ∀ a, S' a = none → th a x (asNd i N) (r'.set i (some (.obj a))) S'
  | some false => N.xc x r' S'
  | none => False } r S
section
variable {X : Cx} {Wn : NX} {Wout : WX} {tab : ExTab} {body : List Stmt} {pos np pos' : Pos} {tb : DS} {c n : Str} {C : Addr} {i : Nat} {b₀ : Stmt} {suite : List Stmt} {th : Addr → Str → DS}
theorem ms_tryAs (et : ExT X.K X.mg tab) (hst : X.stack = X.env :: X.outer) (hf : X.env.frame = some X.env.locals) (hN : X.N.Nodup) (hi : X.N[i]? = some n) (hln : X.env.kindOf n = some .local) (hm : X.mg c = some (.ref C)) (hc : Gl X c) (hd : (c == ("__debug__" : Str)) = false)
    (tk : Takes X Wout) (hW : ∀ x C s H, X.mg x = some (.ref C) → Wn x s H → Wout (.ref C) none s H)
    (hb : ∀ (Wx : WX) (pn : List (Addr × Obj)) (xe : Value → Shared → Prop), Takes (X.tr pn xe) Wx → PassesOwn (model X.prog X.w) X.A X.env xe → PSs (X.tr pn xe) body (lSx (wn X.mg Wx) tb))
    (hsu : ∀ (a : Addr) (oe : Obj) (x : Str) (Cx : Addr) (pn : List (Addr × Obj)), X.mg x = some (.ref Cx) → Zc (.ref Cx) none oe → (∃ vs, oe.data = .fields vs) → PSs (X.suite a ((a, oe) :: pn)) (b₀ :: suite) (lSx Wn (th a x))) :
    PS X (.Try body [.ExceptHandler (some (.Name c np)) (some n) (b₀ :: suite) pos'] [] [] pos) (lSx Wn (mTryAs tab c i th tb)) :=
  (ps_try_as (c := .ref C) (tb := fun Wx => lSx (wn X.mg Wx) tb) (ts := fun a cls d D σ H => ∃ x Cx, cls = .ref Cx ∧ X.mg x = some (.ref Cx) ∧ d = none ∧ lSx Wn (th a x) D σ H) (Wout := Wout) hst hf hN hi hln ⟨hc, hd, .inl hm⟩ tk hb
    (fun a oe cls d pn hz hv => ⟨fun pins s σ H D I ⟨x, Cx, e1, hx, e2, h⟩ => by subst e1; subst e2; exact (hsu a oe x Cx pn hx hz hv).run pins s σ H D I h⟩)).mi fun D s H ⟨r, S, M, D', R, h, f⟩ =>
    ⟨r, S, M, _, R, h, f.nx, f.rt, f.bk, f.ct, fun x r' w' s' q R' k C2 hC2 => by
      cases e : tab.lookup (x, c) with
      | none =>
        have q : (match tab.lookup (x, c) with | some true => ∀ a, w'.S a = none → th a x (asNd i D') (r'.set i (some (.obj a))) w'.S | some false => D'.xc x r' w'.S | none => False) := q
        rw [e] at q
        exact q.elim
      | some b =>
        have q : (match tab.lookup (x, c) with | some true => ∀ a, w'.S a = none → th a x (asNd i D') (r'.set i (some (.obj a))) w'.S | some false => D'.xc x r' w'.S | none => False) := q
        rw [e] at q
        refine ⟨b, et.ok x c b e C2 C hC2 hm, fun hb a na => ?_, fun hb => ?_⟩
        · subst hb
          refine ⟨x, C2, rfl, hC2, rfl, r'.set i (some (.obj a)), w'.S, w'.M, asNd i D', R'.set (.obj a), q a (R'.ok.freeS na), ?_⟩
          have f' := f.after k
          exact ⟨fun r2 w2 s2 q2 R2 k2 => f'.nx _ w2 _ q2 (R2.none i) k2, f'.rt, fun r2 w2 s2 q2 R2 k2 => f'.bk _ w2 _ q2 (R2.none i) k2, fun r2 w2 s2 q2 R2 k2 => f'.ct _ w2 _ q2 (R2.none i) k2, f'.xc⟩
        · subst hb
          exact hW x C2 s' w'.H hC2 (f.xc x r' w' s' q R' k)⟩
end
/-- which class's exceptions are told to be another one's -/
structure ExI (K : PySem.W.Frag) (mg : Str → Option Value) (tab : ExTab) : Prop where
  ok : ∀ x c b, tab.lookup (x, c) = some b → ∀ Cx Cc, mg x = some (.ref Cx) → mg c = some (.ref Cc) → PySem.W.kitOne K (.ref Cx) (.ref Cc) = some b ∧ ExcC K Cx
def excB (K : PySem.W.Frag) (D : Addr) : Bool := He.eqO (PySem.W.findIn K (.ref D) "__getattribute__") (some (some (.builtin "BaseException.__getattribute__"))) && (He.eqO (PySem.W.findIn K (.ref D) "__getattr__") (some none) && (decide (PySem.W.subIn K (.ref D) (.type "BaseException") = some true) && (PySem.W.hasDictIn K D &&
  (He.eqO (PySem.W.findIn K (.ref D) "__class__") (some (some (.builtin "object.__class__"))) && (He.eqO (PySem.W.specialIn K (.builtin "object.__class__") "__get__") (some (some (.builtin "getset_descriptor.__get__"))) && (decide (PySem.W.takesIn K (.builtin "object.__class__") = some true) && decide (PySem.W.mroIn K D (.type "object") = some true)))))))
theorem excB_ok {K : PySem.W.Frag} {D : Addr} (h : excB K D = true) : ExcC K D := by
  unfold excB at h
  obtain ⟨h1, h⟩ := Bool.and_eq_true_iff.mp h
  obtain ⟨h2, h⟩ := Bool.and_eq_true_iff.mp h
  obtain ⟨h3, h⟩ := Bool.and_eq_true_iff.mp h
  obtain ⟨h4, h⟩ := Bool.and_eq_true_iff.mp h
  obtain ⟨h5, h⟩ := Bool.and_eq_true_iff.mp h
  obtain ⟨h6, h⟩ := Bool.and_eq_true_iff.mp h
  obtain ⟨h7, h8⟩ := Bool.and_eq_true_iff.mp h
  exact ⟨He.eqO_ok h1, He.eqO_ok h2, of_decide_eq_true h3, h4, He.eqO_ok h5, He.eqO_ok h6, of_decide_eq_true h7, of_decide_eq_true h8⟩
def exIs (tab : ExTab) (K : PySem.W.Frag) : Bool := tab.all fun q => decide (PySem.W.kitOne K (.ref (He.ga K q.1.1)) (.ref (He.ga K q.1.2)) = some q.2) && excB K (He.ga K q.1.1)
theorem exI_of {K : PySem.W.Frag} {mg : Str → Option Value} {tab : ExTab} (h : exIs tab K = true) (hg : ∀ q ∈ tab, mg q.1.1 = some (.ref (He.ga K q.1.1)) ∧ mg q.1.2 = some (.ref (He.ga K q.1.2))) : ExI K mg tab := ⟨fun x c b e Cx Cc h1 h2 => by
  have hm : ((x, c), b) ∈ tab := by
    clear h hg
    induction tab with
    | nil => cases e
    | cons q r ih =>
      obtain ⟨k, v⟩ := q
      rw [List.lookup_cons] at e
      cases hk : ((x, c) == k) with
      | true => rw [hk] at e; cases e; have := eq_of_beq hk; subst this; exact List.mem_cons_self
      | false => rw [hk] at e; exact List.mem_cons_of_mem _ (ih e)
  obtain ⟨g1, g2⟩ := hg _ hm
  have h := List.all_eq_true.mp h _ hm
  obtain ⟨h3, h4⟩ := Bool.and_eq_true_iff.mp h
  rw [g1] at h1; cases h1
  rw [g2] at h2; cases h2
  exact ⟨of_decide_eq_true h3, excB_ok h4⟩⟩
abbrev mIsE (a : Addr) (x : Str) (tab : ExTab) (c : Str) (te : DE) : DE := fun r S Q => te r S fun d S1 => d = .obj a ∧ opt (tab.lookup (x, c)) fun b => Q (.bl b) S1
theorem me_isE {X : Cx} {tab : ExTab} {a : Addr} {oe : Obj} {pn : List (Addr × Obj)} {x c : Str} {Cx Cc : Addr} {e : Expr} {te : DE} {p q pos : Pos} (ei : ExI X.K X.mg tab) (hx : X.mg x = some (.ref Cx)) (hz : Zc (.ref Cx) none oe) (hv : ∃ vs, oe.data = .fields vs) (hm : X.mg "isinstance" = none) (hc : X.mg c = some (.ref Cc))
    (he : PE (X.suite a ((a, oe) :: pn)) e (lE te)) (hg : Gl (X.suite a ((a, oe) :: pn)) "isinstance" := by rfl) (hgc : Gl (X.suite a ((a, oe) :: pn)) c := by rfl) (hdc : (c == ("__debug__" : Str)) = false := by decide)
    (hs : starEach [e, .Name c q] X.env = (false, eval e X.env) :: starEach [.Name c q] X.env := by rfl) (hs2 : starEach [.Name c q] X.env = (false, eval (.Name c q) X.env) :: starEach [] X.env := by rfl) (hpl : (backTo pos (starEach [.Name c q] X.env)).any (·.1) = false := by rfl) :
    PE (X.suite a ((a, oe) :: pn)) (.Call (.Name "isinstance" p) [e, .Name c q] [] pos) (lE (mIsE a x tab c te)) := by
  by_cases hl : ∃ b, tab.lookup (x, c) = some b
  · obtain ⟨b, hl⟩ := hl
    obtain ⟨k1, k2⟩ := ei.ok x c b hl Cx Cc hx hc
    refine (pe_callB (call_isE (X := X) (pn := pn) k2 hz hv) hg hm (by decide +kernel) (pa_cons he (pa_cons (pe_glob (v := .ref Cc) hgc hc rfl hdc) pa_nil hs2) hs) (by decide) (by decide) hs hpl).mi fun s H Q ⟨r, S, M, Q', R, t, k⟩ => ?_
    refine ⟨r, S, M, _, R, t, fun d w1 v h kk m1 r1 => ?_⟩
    obtain ⟨rfl, h⟩ := h
    cases r1
    obtain ⟨b2, e2, h⟩ := of_opt h
    rw [hl] at e2
    cases e2
    exact ⟨.ref Cc, .ref Cc, b, rfl, fun u hu => by cases hu; rfl, k1, k _ w1 _ h kk m1 (.bl b)⟩
  · have hn : tab.lookup (x, c) = none := by cases e : tab.lookup (x, c) with | none => rfl | some b => exact absurd ⟨b, e⟩ hl
    have hno : CallR (X.suite a ((a, oe) :: pn)) (.builtin "isinstance") (fun _ _ _ => False) := fun _ _ _ _ _ _ _ _ _ h => h.elim
    refine (pe_callB hno hg hm (by decide +kernel) (pa_cons he (pa_cons (pe_glob (v := .ref Cc) hgc hc rfl hdc) pa_nil hs2) hs) (by decide) (by decide) hs hpl).mi fun s H Q ⟨r, S, M, Q', R, t, k⟩ => ?_
    refine ⟨r, S, M, _, R, t, fun d w1 v h kk m1 r1 => ?_⟩
    obtain ⟨_, h⟩ := h
    rw [hn] at h
    exact h.elim
theorem hu65m {A : Around} {k : Nat} (hr : Room k A) (v : Option Value) : (A.mark v).units + 65 < cLine := show A.units + 65 < cLine from hu65 hr
abbrev mPar3 (i j l : Nat) (ta : DA) : DS := fun D r S => ta r S fun ds S1 => match ds with
  | [d, e, f] => D.nx (((r.set i (some d)).set j (some e)).set l (some f)) S1
  | _ => False
theorem reps3 {w : W} {vs : List V} {d e f : D} (r : Reps w vs [d, e, f]) : ∃ v u x, vs = [v, u, x] ∧ Rep w v d ∧ Rep w u e ∧ Rep w x f := by
  cases r with
  | cons a b =>
    obtain ⟨u, x, rfl, q, q2⟩ := reps2 b
    exact ⟨_, _, _, rfl, a, q, q2⟩
theorem ms_par3 {X : Cx} {Wn : NX} {i j l : Nat} {x y z : Str} {a b c : Expr} {ta : DA} {px py pz pt pos : Pos} {kt k2 pt2} (hc : X.calm = true) (hN : X.N.Nodup) (hi : X.N[i]? = some x) (hj : X.N[j]? = some y) (hl : X.N[l]? = some z) (hij : i ≠ j) (hil : i ≠ l) (hjl : j ≠ l)
    (hx : X.env.scope.names.lookup x = some .local) (hy : X.env.scope.names.lookup y = some .local) (hzz : X.env.scope.names.lookup z = some .local) (ha : PA X [a, b, c] (lA ta))
    (hw : swappedStores [.Tuple [.Name x px, .Name y py, .Name z pz] kt pt] (.Tuple [a, b, c] k2 pt2) X.env = pure (some [x, y, z]) := by rfl)
    (hs : swapsWithSole [.Tuple [.Name x px, .Name y py, .Name z pz] kt pt] (.Tuple [a, b, c] k2 pt2) pos.line X.env = pure false := by rfl) :
    PS X (.Assign [.Tuple [.Name x px, .Name y py, .Name z pz] kt pt] (.Tuple [a, b, c] k2 pt2) pos) (lSx Wn (mPar3 i j l ta)) := (ps_par3 hc hN hi hj hl hij hil hjl hx hy hzz ha hw hs).mi fun D s H ⟨r, S, M, D', R, h, f⟩ =>
  ⟨r, S, M, _, R, h, fun ds w1 vs q k m rr => by
    split at q
    · next d e g =>
      obtain ⟨v, u, x3, rfl, r1, r2, r3⟩ := reps3 rr
      exact ⟨v, u, x3, rfl, f.nx _ w1 _ q ((((R.keep k m).set r1).set r2).set r3) k⟩
    · exact q.elim⟩
abbrev GlT (K : PySem.W.Frag) (mg : Str → Option Value) (tab : ExTab) : Prop := ∀ q ∈ tab, mg q.1.1 = some (.ref (He.ga K q.1.1)) ∧ mg q.1.2 = some (.ref (He.ga K q.1.2))
theorem glt_nil {K : PySem.W.Frag} {mg : Str → Option Value} : GlT K mg [] := fun q hq => by cases hq
theorem glt_cons {K : PySem.W.Frag} {mg : Str → Option Value} {tab : ExTab} {x c : Str} {b : Bool} (h1 : mg x = some (.ref (He.ga K x))) (h2 : mg c = some (.ref (He.ga K c))) (t : GlT K mg tab) : GlT K mg (((x, c), b) :: tab) := fun q hq => by
  rcases List.mem_cons.mp hq with rfl | hq
  · exact ⟨h1, h2⟩
  · exact t q hq
end ML

set_option maxRecDepth 100000
/-! MT: trees as lists of rows, with no program in sight. -/
namespace ML
open PySem PySem.Spec PyProof.Rows L2
structure TRow where
  n : Int
  p : Int
  s : Str
abbrev rowD (r : TRow) : D := .tup [.int r.n, .int r.p, .str r.s]
abbrev treeD (rows : List TRow) : D := .tup (rows.map rowD)
/-! ### sorting -/
theorem sorted_uniq {α : Type} {le : α → α → Prop} (anti : ∀ a b, le a b → le b a → a = b) : ∀ {xs ys : List α}, xs.Perm ys → xs.Pairwise le → ys.Pairwise le → xs = ys
  | [], ys, h, _, _ => h.symm.eq_nil.symm
  | x :: xs, [], h, _, _ => absurd h.length_eq (by simp)
  | x :: xs, y :: ys, h, h1, h2 => by
    have e : x = y := by
      obtain ⟨a1, a2⟩ := List.pairwise_cons.mp h1
      obtain ⟨b1, b2⟩ := List.pairwise_cons.mp h2
      rcases List.mem_cons.mp (h.mem_iff.mp List.mem_cons_self) with q | q
      · exact q
      · rcases List.mem_cons.mp (h.mem_iff.mpr List.mem_cons_self) with q' | q'
        · exact q'.symm
        · exact anti _ _ (a1 _ q') (b1 _ q)
    subst e
    rw [sorted_uniq anti h.cons_inv (List.pairwise_cons.mp h1).2 (List.pairwise_cons.mp h2).2]
abbrev Pr : Type := Str × Int
def prK (p : Pr) : Ky := [.inr p.1.cps.toList, .inl p.2]
abbrev prD (p : Pr) : D := .tup [.str p.1, .int p.2]
theorem prK_inj {a b : Pr} (h : prK a = prK b) : a = b := by
  obtain ⟨⟨c⟩, n⟩ := a
  obtain ⟨⟨d⟩, m⟩ := b
  unfold prK at h
  simp only [List.cons.injEq, Sum.inr.injEq, Sum.inl.injEq, and_true] at h
  obtain ⟨h1, h2⟩ := h
  rw [Array.toList_inj.mp h1, h2]
def prLe (a b : Pr) : Bool := !kLt (prK b) (prK a)
theorem prLe_anti (a b : Pr) (h1 : prLe a b = true) (h2 : prLe b a = true) : a = b := by
  unfold prLe at h1 h2
  rw [Bool.not_eq_true'] at h1 h2
  exact prK_inj (lex_total (O := itemOrd) _ _ h2 h1)
def prSort (l : List Pr) : List Pr := l.mergeSort prLe
theorem prSort_perm (l : List Pr) : (prSort l).Perm l := List.mergeSort_perm l _
theorem prSort_sorted (l : List Pr) : (prSort l).Pairwise fun a b => prLe a b = true := by
  refine List.pairwise_mergeSort (le := prLe) (fun a b c h1 h2 => ?_) (fun a b => ?_) l
  · unfold prLe at *
    rw [Bool.not_eq_true'] at *
    exact (swo_k prK).tr a b c h1 h2
  · unfold prLe
    cases e : kLt (prK b) (prK a) with
    | false => rfl
    | true => rw [(swo_k prK).asym _ _ e]; rfl
theorem prSort_uniq {l m : List Pr} (h : m.Perm l) (hs : m.Pairwise fun a b => prLe a b = true) : m = prSort l :=
  sorted_uniq prLe_anti (h.trans (prSort_perm l).symm) hs (prSort_sorted l)
/-! ### kids -/
def prsOf (rows : List TRow) (p : Int) : List Pr := (rows.filter fun r => decide (r.p = p)).map fun r => (r.s, r.n)
def kidsF (rows : List TRow) (p : Int) : List Int := (prSort (prsOf rows p)).map (·.2)
theorem mem_kids {rows : List TRow} {p k : Int} : k ∈ kidsF rows p ↔ ∃ r ∈ rows, r.n = k ∧ r.p = p := by
  unfold kidsF
  rw [List.mem_map]
  constructor
  · rintro ⟨x, hx, rfl⟩
    have hx := (prSort_perm _).mem_iff.mp hx
    obtain ⟨r, hr, rfl⟩ := List.mem_map.mp hx
    obtain ⟨h1, h2⟩ := List.mem_filter.mp hr
    exact ⟨r, h1, rfl, of_decide_eq_true h2⟩
  · rintro ⟨r, hr, rfl, rfl⟩
    exact ⟨(r.s, r.n), (prSort_perm _).mem_iff.mpr (List.mem_map.mpr ⟨r, List.mem_filter.mpr ⟨hr, decide_eq_true rfl⟩, rfl⟩), rfl⟩
theorem kids_len (rows : List TRow) (p : Int) : (kidsF rows p).length ≤ rows.length := by
  unfold kidsF
  rw [List.length_map, (prSort_perm _).length_eq]
  unfold prsOf
  rw [List.length_map]
  exact List.length_filter_le _ _
/-! ### trees -/
abbrev ids (rows : List TRow) : List Int := rows.map (·.n)
structure Tree (rows : List TRow) : Prop where
  inc : (ids rows).Pairwise (· < ·)
  pos : ∀ r ∈ rows, 0 < r.n
  rank : ∃ rk : Int → Nat, ∀ r ∈ rows, rk r.p < rk r.n
  par : ∀ r ∈ rows, r.p = 0 ∨ r.p ∈ ids rows
theorem Tree.nd {rows : List TRow} (T : Tree rows) : (ids rows).Nodup := T.inc.imp fun h => Int.ne_of_lt h
theorem uniq_of {rows : List TRow} (h : (ids rows).Nodup) {r q : TRow} (hr : r ∈ rows) (hq : q ∈ rows) (e : r.n = q.n) : r = q := by
  induction rows with
  | nil => cases hr
  | cons a rows ih =>
    obtain ⟨h1, h2⟩ := List.nodup_cons.mp h
    rcases List.mem_cons.mp hr with r1 | r1
    · rcases List.mem_cons.mp hq with q1 | q1
      · rw [r1, q1]
      · exact absurd (show a.n ∈ ids rows from List.mem_map.mpr ⟨q, q1, by rw [← e, r1]⟩) h1
    · rcases List.mem_cons.mp hq with q1 | q1
      · exact absurd (show a.n ∈ ids rows from List.mem_map.mpr ⟨r, r1, by rw [e, q1]⟩) h1
      · exact ih h2 r1 q1
theorem kids_nodup {rows : List TRow} (h : (ids rows).Nodup) (p : Int) : (kidsF rows p).Nodup := by
  unfold kidsF
  refine (((prSort_perm (prsOf rows p)).map (·.2)).nodup_iff).mpr ?_
  unfold prsOf
  rw [List.map_map]
  exact ((List.filter_sublist (l := rows)).map (fun r : TRow => r.n)).nodup h
/-- n's kids go at most m deep -/
def Hgt (rows : List TRow) : Nat → Int → Prop
  | 0, n => ∀ r ∈ rows, r.p ≠ n
  | m + 1, n => ∀ r ∈ rows, r.p = n → Hgt rows m r.n
def belowF (rows : List TRow) : Nat → Int → List Int
  | 0, _ => []
  | m + 1, n => (kidsF rows n).flatMap fun k => k :: belowF rows m k
theorem Hgt.succ {rows : List TRow} : ∀ {m : Nat} {n : Int}, Hgt rows m n → Hgt rows (m + 1) n
  | 0, n, h => fun r hr e => absurd e (h r hr)
  | m + 1, n, h => fun r hr e => (h r hr e).succ
theorem Hgt.mono {rows : List TRow} {m k : Nat} {n : Int} (h : Hgt rows m n) (l : m ≤ k) : Hgt rows k n := by
  induction l with
  | refl => exact h
  | step _ ih => exact ih.succ
theorem Hgt.kid {rows : List TRow} {m : Nat} {n k : Int} (h : Hgt rows (m + 1) n) (hk : k ∈ kidsF rows n) : Hgt rows m k := by
  obtain ⟨r, hr, rfl, e⟩ := mem_kids.mp hk
  exact h r hr e
theorem Hgt.none {rows : List TRow} {n : Int} (h : Hgt rows 0 n) : kidsF rows n = [] := by
  cases e : kidsF rows n with
  | nil => rfl
  | cons k ks =>
    obtain ⟨r, hr, _, e2⟩ := mem_kids.mp (show k ∈ kidsF rows n by rw [e]; exact List.mem_cons_self)
    exact absurd e2 (h r hr)
theorem hgt_of {rows : List TRow} {rk : Int → Nat} (h : ∀ r ∈ rows, rk r.p < rk r.n) : ∀ (c : Nat) (n : Int), (rows.filter fun r => decide (rk n < rk r.n)).length ≤ c → Hgt rows c n
  | 0, n, hc => fun r hr e => by
    have : r ∈ rows.filter fun r => decide (rk n < rk r.n) := List.mem_filter.mpr ⟨hr, decide_eq_true (e ▸ h r hr)⟩
    rw [List.length_eq_zero_iff.mp (Nat.le_zero.mp hc)] at this
    cases this
  | c + 1, n, hc => fun r hr e => by
    refine hgt_of h c r.n ?_
    have hn : rk n < rk r.n := e ▸ h r hr
    have : (rows.filter fun q => decide (rk r.n < rk q.n)).length < (rows.filter fun q => decide (rk n < rk q.n)).length := by
      clear hc
      induction rows with
      | nil => cases hr
      | cons a rows ih =>
        have mono : ∀ l : List TRow, (l.filter fun q => decide (rk r.n < rk q.n)).length ≤ (l.filter fun q => decide (rk n < rk q.n)).length := by
          intro l
          induction l with
          | nil => exact Nat.le_refl _
          | cons b l ih =>
            by_cases h1 : rk r.n < rk b.n
            · rw [List.filter_cons_of_pos (by simpa using h1), List.filter_cons_of_pos (by simp; omega)]
              simp only [List.length_cons]; omega
            · rw [List.filter_cons_of_neg (by simpa using h1)]
              by_cases h2 : rk n < rk b.n
              · rw [List.filter_cons_of_pos (by simpa using h2)]; simp only [List.length_cons]; omega
              · rw [List.filter_cons_of_neg (by simpa using h2)]; exact ih
        rcases List.mem_cons.mp hr with rfl | hr
        · rw [List.filter_cons_of_neg (by simp), List.filter_cons_of_pos (by simpa using hn), List.length_cons]
          exact Nat.lt_succ_of_le (mono rows)
        · have := ih (fun q hq => h q (List.mem_cons_of_mem _ hq)) hr
          by_cases h1 : rk r.n < rk a.n
          · rw [List.filter_cons_of_pos (by simpa using h1), List.filter_cons_of_pos (by simp; omega)]
            simp only [List.length_cons]; omega
          · rw [List.filter_cons_of_neg (by simpa using h1)]
            by_cases h2 : rk n < rk a.n
            · rw [List.filter_cons_of_pos (by simpa using h2)]; simp only [List.length_cons]; omega
            · rw [List.filter_cons_of_neg (by simpa using h2)]; exact this
    omega
theorem Tree.hgt {rows : List TRow} (T : Tree rows) {m : Nat} (h : rows.length ≤ m) (n : Int) : Hgt rows m n := by
  obtain ⟨rk, hk⟩ := T.rank
  exact hgt_of hk m n (Nat.le_trans (List.length_filter_le _ _) h)
/-- n is an elder of x -/
inductive Up (rows : List TRow) : Int → Int → Prop
  | one {r : TRow} : r ∈ rows → Up rows r.n r.p
  | step {r : TRow} {n : Int} : r ∈ rows → Up rows r.p n → Up rows r.n n
theorem Up.rank {rows : List TRow} {rk : Int → Nat} (h : ∀ r ∈ rows, rk r.p < rk r.n) {x n : Int} (u : Up rows x n) : rk n < rk x := by
  induction u with
  | one hr => exact h _ hr
  | step hr _ ih => exact Nat.lt_trans ih (h _ hr)
theorem Up.first {rows : List TRow} (nd : (ids rows).Nodup) {x n : Int} (u : Up rows x n) {r : TRow} (hr : r ∈ rows) (e : r.n = x) : r.p = n ∨ Up rows r.p n := by
  cases u with
  | one hq => rw [uniq_of nd hr hq e]; exact .inl rfl
  | step hq u => rw [uniq_of nd hr hq e]; exact .inr u
theorem Up.chain {rows : List TRow} (nd : (ids rows).Nodup) {x a b : Int} (u : Up rows x a) : Up rows x b → a = b ∨ Up rows a b ∨ Up rows b a := by
  induction u with
  | one hr =>
    intro v
    rcases v.first nd hr rfl with e | w
    · exact .inl e
    · exact .inr (.inl w)
  | @step r n hr u ih =>
    intro v
    rcases v.first nd hr rfl with e | w
    · exact .inr (.inr (e ▸ u))
    · exact ih w
theorem Up.trans {rows : List TRow} {x a b : Int} (u : Up rows x a) (v : Up rows a b) : Up rows x b := by
  induction u with
  | one hr => exact .step hr v
  | step hr _ ih => exact .step hr (ih v)
theorem up_of_below {rows : List TRow} : ∀ {m : Nat} {n x : Int}, x ∈ belowF rows m n → Up rows x n
  | 0, _, _, h => by cases h
  | m + 1, n, x, h => by
    obtain ⟨k, hk, hx⟩ := List.mem_flatMap.mp h
    obtain ⟨r, hr, rfl, rfl⟩ := mem_kids.mp hk
    rcases List.mem_cons.mp hx with rfl | hx
    · exact .one hr
    · exact (up_of_below hx).trans (.one hr)
theorem Up.mem {rows : List TRow} {x n : Int} (u : Up rows x n) : x ∈ ids rows := by
  cases u with
  | one hr => exact List.mem_map.mpr ⟨_, hr, rfl⟩
  | step hr _ => exact List.mem_map.mpr ⟨_, hr, rfl⟩
theorem below_nodup {rows : List TRow} (nd : (ids rows).Nodup) {rk : Int → Nat} (h : ∀ r ∈ rows, rk r.p < rk r.n) : ∀ (m : Nat) (n : Int), (belowF rows m n).Nodup
  | 0, _ => List.nodup_nil
  | m + 1, n => by
    have core : ∀ k1 k2 : Int, k1 ∈ kidsF rows n → k2 ∈ kidsF rows n → Up rows k1 k2 → False := by
      intro k1 k2 h1 h2 u
      obtain ⟨r, hr, rfl, e1⟩ := mem_kids.mp h1
      obtain ⟨q, hq, rfl, e2⟩ := mem_kids.mp h2
      have hq2 := h q hq
      rcases u.first nd hr rfl with e | v
      · rw [e2] at hq2; rw [e1] at e; rw [← e] at hq2; exact absurd hq2 (Nat.lt_irrefl _)
      · have := v.rank h
        rw [e1] at this; rw [e2] at hq2; omega
    refine List.pairwise_flatMap.mpr ⟨fun k hk => ?_, ?_⟩
    · refine List.nodup_cons.mpr ⟨fun hx => ?_, below_nodup nd h m k⟩
      exact absurd ((up_of_below hx).rank h) (Nat.lt_irrefl _)
    · refine (List.pairwise_iff_forall_sublist.mpr ?_)
      intro a b hs
      have ha : a ∈ kidsF rows n := hs.subset List.mem_cons_self
      have hb : b ∈ kidsF rows n := hs.subset (List.mem_cons_of_mem _ List.mem_cons_self)
      have hab : a ≠ b := by
        have := (kids_nodup nd n).sublist hs
        intro e; subst e
        exact absurd this (by simp)
      intro x hx y hy e
      subst e
      rcases List.mem_cons.mp hx with rfl | hx
      · rcases List.mem_cons.mp hy with e | hy
        · exact hab e
        · exact core _ _ ha hb (up_of_below hy)
      · rcases List.mem_cons.mp hy with rfl | hy
        · exact core _ _ hb ha (up_of_below hx)
        · rcases (up_of_below hx).chain nd (up_of_below hy) with e | u | u
          · exact hab e
          · exact core _ _ ha hb u
          · exact core _ _ hb ha u
theorem nodup_le {α : Type} [DecidableEq α] : ∀ {xs ys : List α}, xs.Nodup → (∀ x ∈ xs, x ∈ ys) → xs.length ≤ ys.length
  | [], _, _, _ => Nat.zero_le _
  | x :: xs, ys, h, s => by
    obtain ⟨h1, h2⟩ := List.nodup_cons.mp h
    have hx := s x List.mem_cons_self
    have := nodup_le (ys := ys.erase x) h2 fun y hy => (List.mem_erase_of_ne (fun e : y = x => h1 (e ▸ hy))).mpr (s y (List.mem_cons_of_mem _ hy))
    have hl := List.length_erase_of_mem hx
    have hp := List.length_pos_of_mem hx
    rw [List.length_cons]
    omega
theorem Tree.below_len {rows : List TRow} (T : Tree rows) (m : Nat) (n : Int) : (belowF rows m n).length ≤ rows.length := by
  obtain ⟨rk, hk⟩ := T.rank
  have := nodup_le (ys := ids rows) (below_nodup T.nd hk m n) fun x hx => (up_of_below hx).mem
  rwa [List.length_map] at this
/-! ### rows by their numbers -/
def rowOf (rows : List TRow) (n : Int) : Option TRow := rows.find? fun r => decide (r.n = n)
theorem rowOf_mem {rows : List TRow} {n : Int} {r : TRow} (h : rowOf rows n = some r) : r ∈ rows ∧ r.n = n :=
  ⟨List.mem_of_find?_eq_some h, by have := List.find?_some h; exact of_decide_eq_true this⟩
theorem rowOf_some {rows : List TRow} {n : Int} (h : n ∈ ids rows) : ∃ r, rowOf rows n = some r := by
  obtain ⟨r, hr, e⟩ := List.mem_map.mp h
  cases q : rowOf rows n with
  | some r => exact ⟨r, rfl⟩
  | none =>
    have := List.find?_eq_none.mp q r hr
    exact absurd (decide_eq_true e) this
abbrev optRow : Option TRow → D
  | none => .non
  | some r => rowD r
/-- es: the elders of n, the top one first -/
inductive Eld (rows : List TRow) : Int → List Int → Prop
  | top {n : Int} {r : TRow} : rowOf rows n = some r → r.p = 0 → Eld rows n []
  | more {n : Int} {r : TRow} {es : List Int} : rowOf rows n = some r → r.p ≠ 0 → Eld rows r.p es → Eld rows n (es ++ [r.p])
theorem Tree.eld {rows : List TRow} (T : Tree rows) {n : Int} (h : n ∈ ids rows) : ∃ es, Eld rows n es := by
  obtain ⟨rk, hk⟩ := T.rank
  have : ∀ (c : Nat) (n : Int), rk n ≤ c → n ∈ ids rows → ∃ es, Eld rows n es := by
    intro c
    induction c with
    | zero =>
      intro n hc hn
      obtain ⟨r, e⟩ := rowOf_some hn
      obtain ⟨h1, rfl⟩ := rowOf_mem e
      have := hk r h1
      omega
    | succ c ih =>
      intro n hc hn
      obtain ⟨r, e⟩ := rowOf_some hn
      obtain ⟨h1, h2⟩ := rowOf_mem e
      by_cases hp : r.p = 0
      · exact ⟨[], .top e hp⟩
      · have := hk r h1
        rw [h2] at this
        obtain ⟨es, he⟩ := ih r.p (by omega) ((T.par r h1).resolve_left hp)
        exact ⟨es ++ [r.p], .more e hp he⟩
  exact this _ n (Nat.le_refl _) h
theorem Eld.up {rows : List TRow} {n : Int} {es : List Int} (h : Eld rows n es) : ∀ e ∈ es, Up rows n e := by
  induction h with
  | top _ _ => intro e he; cases he
  | @more n r es e _ _ ih =>
    obtain ⟨h1, rfl⟩ := rowOf_mem e
    intro x hx
    rcases List.mem_append.mp hx with hx | hx
    · exact .step h1 (ih x hx)
    · rw [List.mem_singleton.mp hx]; exact .one h1
theorem Eld.det {rows : List TRow} {n : Int} {es fs : List Int} (h : Eld rows n es) : Eld rows n fs → es = fs := by
  induction h generalizing fs with
  | top e hp =>
    intro g
    cases g with
    | top _ _ => rfl
    | more e2 hp2 _ => rw [e] at e2; cases e2; exact absurd hp hp2
  | more e hp _ ih =>
    intro g
    cases g with
    | top e2 hp2 => rw [e] at e2; cases e2; exact absurd hp2 hp
    | more e2 hp2 g => rw [e] at e2; cases e2; rw [ih g]
end ML

set_option maxRecDepth 100000
/-! MS: what the defs promise. -/
namespace ML
open PySem PySem.Spec PyProof.Rows L2
def noS : DSp := fun _ _ _ => False
theorem cal_none {P : Program} {w : World} {K : PySem.W.Frag} {mg : Str → Option Value} {base : Heap} {x : Str} {k : Nat} {a : Addr} {fd : FuncData} {ps : List Str} (hm : mg x = some (.ref a)) (kp : PySem.W.keepIn K (.ref a) = true) (hb : Binds K fd ps []) : Cal P w K mg base x k noS :=
  ⟨a, fd, ps, ⟨fun vs H Q E ⟨_, _, _, _, _, _, h, _⟩ => h.elim, fun A outer s H args us vs Q E _ _ _ _ ⟨_, _, _, _, _, _, h, _⟩ => h.elim⟩, hm, kp, hb⟩
theorem big_le {n : Nat} (h : n ≤ 40000) : n ≤ sizeLine := by have := sizeLine_eq; omega
abbrev intsT (ns : List Int) : D := .tup (ns.map .int)
abbrev intsL (ns : List Int) : D := .lst (ns.map .int)
/-! ### the program's defs -/
def rowOfS : DSp := fun ds S Q => ∃ rows n, ds = [treeD rows, .int n] ∧ Q (optRow (rowOf rows n)) S
def kidsS : DSp := fun ds S Q => ∃ rows p, ds = [treeD rows, .int p] ∧ rows.length ≤ 10000 ∧ Q (intsT (kidsF rows p)) S
def belowS : Nat → DSp
  | 0 => noS
  | m + 1 => fun ds S Q => ∃ rows n, ds = [treeD rows, .int n] ∧ rows.length ≤ 10000 ∧ Hgt rows m n ∧ (belowF rows m n).length ≤ 10000 ∧ Q (intsT (belowF rows m n)) S
/-! ### the laws' own defs -/
def lkidsS : DSp := fun ds S Q => ∃ rows p, ds = [treeD rows, .int p] ∧ rows.length ≤ 10000 ∧ Q (intsL (kidsF rows p)) S
def lbelowS : Nat → DSp
  | 0 => noS
  | m + 1 => fun ds S Q => ∃ rows n, ds = [treeD rows, .int n] ∧ rows.length ≤ 10000 ∧ Hgt rows m n ∧ (belowF rows m n).length ≤ 10000 ∧ Q (intsL (belowF rows m n)) S
/-! ### what is used in their proofs -/
theorem pair_ok (p : Pr) : okT (fun i => i == 0) (prD p) := ⟨_, _, rfl, rfl, rfl, trivial⟩
theorem pairs_sorted {l : List Pr} {ys : List D} (hp : ys.Perm (l.map prD)) (hs : ys.Pairwise fun a b => kLt (keyD b) (keyD a) = false) : ys = (prSort l).map prD := by
  obtain ⟨m, h1, rfl⟩ := perm_lift hp l rfl
  rw [← prSort_uniq h1 ?_]
  refine (List.pairwise_map.mp hs).imp fun {a b} h => ?_
  show (!kLt (prK b) (prK a)) = true
  rw [show kLt (prK b) (prK a) = false from h]; rfl
theorem prs_filter (rows : List TRow) (p : Int) : (rows.filter fun r => decide (r.p = p)).map (fun r => prD (r.s, r.n)) = (prsOf rows p).map prD := by
  unfold prsOf; rw [List.map_map]; rfl
end ML

set_option maxRecDepth 100000
/-! MP: data without truth values, objects: == is =. -/
namespace ML
open PySem PySem.Spec PyProof.Rows L2
/-- the texts that can be written down -/
abbrev okStr (x : Str) : Bool := PyData.strOk x
mutual
def pu : D → Bool
  | .non => true
  | .int _ => true
  | .str x => okStr x
  | .tup xs => pus xs
  | .lst xs => pus xs
  | _ => false
def pus : List D → Bool
  | [] => true
  | x :: xs => pu x && pus xs
end
mutual
def dep : D → Nat
  | .tup xs => deps xs + 1
  | .lst xs => deps xs + 1
  | _ => 0
def deps : List D → Nat
  | [] => 0
  | x :: xs => max (dep x) (deps xs)
end
theorem pus_cons {x : D} {xs : List D} (h : pus (x :: xs) = true) : pu x = true ∧ pus xs = true := by
  unfold pus at h; rwa [Bool.and_eq_true] at h
theorem pus_all : ∀ {xs : List D}, (∀ x ∈ xs, pu x = true) → pus xs = true
  | [], _ => by unfold pus; rfl
  | x :: xs, h => by
    unfold pus
    rw [h x List.mem_cons_self, pus_all fun y hy => h y (List.mem_cons_of_mem _ hy)]; rfl
theorem pus_mem : ∀ {xs : List D}, pus xs = true → ∀ x ∈ xs, pu x = true
  | [], _, x, h => by cases h
  | y :: xs, hp, x, h => by
    obtain ⟨h1, h2⟩ := pus_cons hp
    rcases List.mem_cons.mp h with rfl | h
    · exact h1
    · exact pus_mem h2 x h
theorem deps_all {n : Nat} : ∀ {xs : List D}, (∀ x ∈ xs, dep x ≤ n) → deps xs ≤ n
  | [], _ => by unfold deps; exact Nat.zero_le _
  | x :: xs, h => by
    unfold deps
    exact Nat.max_le.mpr ⟨h x List.mem_cons_self, deps_all fun y hy => h y (List.mem_cons_of_mem _ hy)⟩
theorem deps_mem : ∀ {xs : List D} {x : D}, x ∈ xs → dep x ≤ deps xs
  | y :: xs, x, h => by
    unfold deps
    rcases List.mem_cons.mp h with rfl | h
    · exact Nat.le_max_left _ _
    · exact Nat.le_trans (deps_mem h) (Nat.le_max_right _ _)
mutual
theorem toPy_pu : ∀ (x : D), pu x = true → ∃ p, toPy x = some p ∧ p.canLay0 = true ∧ p.depth ≤ dep x
  | .non, _ => ⟨.none, rfl, by simp [PyData.canLay0], by simp [PyData.depth]⟩
  | .int i, _ => ⟨.int i, rfl, by simp [PyData.canLay0], by simp [PyData.depth]⟩
  | .str x, h => ⟨.str x, rfl, by unfold pu at h; simpa [PyData.canLay0] using h, by simp [PyData.depth]⟩
  | .tup xs, h => by
    unfold pu at h
    obtain ⟨ps, h1, h2, h3⟩ := toPys_pu xs h
    refine ⟨.tuple ps, by unfold toPy; rw [h1]; rfl, by simpa [PyData.canLay0] using h2, ?_⟩
    unfold dep
    simp only [PyData.depth]; omega
  | .lst xs, h => by
    unfold pu at h
    obtain ⟨ps, h1, h2, h3⟩ := toPys_pu xs h
    refine ⟨.list ps, by unfold toPy; rw [h1]; rfl, by simpa [PyData.canLay0] using h2, ?_⟩
    unfold dep
    simp only [PyData.depth]; omega
  | .bl _, h => by unfold pu at h; cases h
  | .kt _, h => by unfold pu at h; cases h
  | .fls _, h => by unfold pu at h; cases h
  | .obj _, h => by unfold pu at h; cases h
theorem toPys_pu : ∀ (xs : List D), pus xs = true → ∃ ps, toPys xs = some ps ∧ PyData.canLayAll0 ps = true ∧ PyData.depthAll ps ≤ deps xs
  | [], _ => ⟨[], rfl, rfl, Nat.zero_le _⟩
  | x :: xs, h => by
    obtain ⟨h1, h2⟩ := pus_cons h
    obtain ⟨p, a1, a2, a3⟩ := toPy_pu x h1
    obtain ⟨ps, b1, b2, b3⟩ := toPys_pu xs h2
    refine ⟨p :: ps, by unfold toPys; rw [a1, b1], by simp only [PyData.canLayAll0, a2, b2]; rfl, ?_⟩
    unfold deps
    simp only [PyData.depthAll]
    omega
end
mutual
theorem eqv_pu : ∀ (x y : D) (p q : PyData), pu x = true → pu y = true → toPy x = some p → toPy y = some q → (PyData.eqv p q = true ↔ x = y)
  | .non, y, p, q, _, hy, e1, e2 => by
    unfold toPy at e1; cases e1
    cases y <;> first | (unfold pu at hy; cases hy; done) | (unfold toPy at e2; cases e2; simp [PyData.eqv]; done) | skip
    all_goals (unfold toPy at e2; rw [Option.map_eq_some_iff] at e2; obtain ⟨a, _, rfl⟩ := e2; simp [PyData.eqv])
  | .int i, y, p, q, _, hy, e1, e2 => by
    unfold toPy at e1; cases e1
    cases y <;> first | (unfold pu at hy; cases hy; done) | (unfold toPy at e2; cases e2; simp [PyData.eqv]; done) | skip
    all_goals (unfold toPy at e2; rw [Option.map_eq_some_iff] at e2; obtain ⟨a, _, rfl⟩ := e2; simp [PyData.eqv])
  | .str i, y, p, q, _, hy, e1, e2 => by
    unfold toPy at e1; cases e1
    cases y <;> first | (unfold pu at hy; cases hy; done) | (unfold toPy at e2; cases e2; simp [PyData.eqv]; done) | skip
    all_goals (unfold toPy at e2; rw [Option.map_eq_some_iff] at e2; obtain ⟨a, _, rfl⟩ := e2; simp [PyData.eqv])
  | .tup xs, y, p, q, hx, hy, e1, e2 => by
    unfold toPy at e1; rw [Option.map_eq_some_iff] at e1; obtain ⟨ps, e1, rfl⟩ := e1
    unfold pu at hx
    cases y with
    | tup ys =>
      unfold toPy at e2; rw [Option.map_eq_some_iff] at e2; obtain ⟨qs, e2, rfl⟩ := e2
      unfold pu at hy
      rw [eqv_tuple, eqvAll_pu xs ys ps qs hx hy e1 e2]
      exact ⟨fun h => by rw [h], fun h => D.tup.inj h⟩
    | lst ys =>
      unfold toPy at e2; rw [Option.map_eq_some_iff] at e2; obtain ⟨qs, e2, rfl⟩ := e2
      simp [PyData.eqv]
    | non => unfold toPy at e2; cases e2; simp [PyData.eqv]
    | int j => unfold toPy at e2; cases e2; simp [PyData.eqv]
    | str j => unfold toPy at e2; cases e2; simp [PyData.eqv]
    | _ => unfold pu at hy; cases hy
  | .lst xs, y, p, q, hx, hy, e1, e2 => by
    unfold toPy at e1; rw [Option.map_eq_some_iff] at e1; obtain ⟨ps, e1, rfl⟩ := e1
    unfold pu at hx
    cases y with
    | lst ys =>
      unfold toPy at e2; rw [Option.map_eq_some_iff] at e2; obtain ⟨qs, e2, rfl⟩ := e2
      unfold pu at hy
      rw [eqv_list, eqvAll_pu xs ys ps qs hx hy e1 e2]
      exact ⟨fun h => by rw [h], fun h => D.lst.inj h⟩
    | tup ys =>
      unfold toPy at e2; rw [Option.map_eq_some_iff] at e2; obtain ⟨qs, e2, rfl⟩ := e2
      simp [PyData.eqv]
    | non => unfold toPy at e2; cases e2; simp [PyData.eqv]
    | int j => unfold toPy at e2; cases e2; simp [PyData.eqv]
    | str j => unfold toPy at e2; cases e2; simp [PyData.eqv]
    | _ => unfold pu at hy; cases hy
  | .bl _, _, _, _, h, _, _, _ => by unfold pu at h; cases h
  | .kt _, _, _, _, h, _, _, _ => by unfold pu at h; cases h
  | .fls _, _, _, _, h, _, _, _ => by unfold pu at h; cases h
  | .obj _, _, _, _, h, _, _, _ => by unfold pu at h; cases h
theorem eqvAll_pu : ∀ (xs ys : List D) (ps qs : List PyData), pus xs = true → pus ys = true → toPys xs = some ps → toPys ys = some qs → (PyData.eqvAll ps qs = true ↔ xs = ys)
  | [], ys, ps, qs, _, _, e1, e2 => by
    unfold toPys at e1; cases e1
    cases ys with
    | nil => unfold toPys at e2; cases e2; simp [PyData.eqvAll]
    | cons y ys =>
      unfold toPys at e2
      split at e2
      · cases e2; simp [PyData.eqvAll]
      · cases e2
  | x :: xs, ys, ps, qs, hx, hy, e1, e2 => by
    obtain ⟨hx1, hx2⟩ := pus_cons hx
    unfold toPys at e1
    split at e1
    · next p ps' a1 a2 =>
      cases e1
      cases ys with
      | nil => unfold toPys at e2; cases e2; simp [PyData.eqvAll]
      | cons y ys =>
        obtain ⟨hy1, hy2⟩ := pus_cons hy
        unfold toPys at e2
        split at e2
        · next q qs' b1 b2 =>
          cases e2
          have i1 := eqv_pu x y p q hx1 hy1 a1 b1
          have i2 := eqvAll_pu xs ys ps' qs' hx2 hy2 a2 b2
          simp only [PyData.eqvAll, Bool.and_eq_true, i1, i2, List.cons.injEq]
        · cases e2
    · cases e1
end
/-- x = y, as a truth value -/
noncomputable def sm (x y : D) : Bool := @decide (x = y) (Classical.propDecidable _)
theorem sm_iff {x y : D} : sm x y = true ↔ x = y := by unfold sm; exact @decide_eq_true_iff _ (Classical.propDecidable _)
theorem sm_self (x : D) : sm x x = true := sm_iff.mpr rfl
theorem sm_ne {x y : D} (h : x ≠ y) : sm x y = false := by
  cases e : sm x y with
  | false => rfl
  | true => exact absurd (sm_iff.mp e) h
def PuD (x : D) : Prop := pu x = true ∧ dep x ≤ 60
theorem shaped_pu {x : D} (h : PuD x) : ∃ p, toPy x = some p ∧ SeqAt.shaped p = true := by
  obtain ⟨p, h1, h2, h3⟩ := toPy_pu x h.1
  exact ⟨p, h1, shaped_of h2 (Nat.le_trans h3 (Nat.le_trans h.2 (by decide)))⟩
theorem eqv_sm {x y : D} {p q : PyData} (hx : pu x = true) (hy : pu y = true) (e1 : toPy x = some p) (e2 : toPy y = some q) : PyData.eqv p q = sm x y := by
  have h := eqv_pu x y p q hx hy e1 e2
  cases e : sm x y with
  | true => exact h.mpr (sm_iff.mp e)
  | false =>
    cases e3 : PyData.eqv p q with
    | false => rfl
    | true => rw [sm_iff.mpr (h.mp e3)] at e; cases e
theorem toPyM_pu {S : Mem} {x : D} {p : PyData} (h : pu x = true) (e : toPy x = some p) : toPyM S x = some p := by
  cases x with
  | obj a => unfold pu at h; cases h
  | _ => exact e
theorem eqG_pu {neg : Bool} {x y : D} {S : Mem} {Q : WK} (hx : PuD x) (hy : PuD y) (h : Q (.bl (if neg then !sm x y else sm x y)) S) : oEqG neg x y S Q := by
  obtain ⟨p, a1, a2⟩ := shaped_pu hx
  obtain ⟨q, b1, b2⟩ := shaped_pu hy
  refine ⟨p, q, toPyM_pu hx.1 a1, toPyM_pu hy.1 b1, a2, b2, ?_⟩
  rw [eqv_sm hx.1 hy.1 a1 b1]; exact h
theorem eq_pu {x y : D} {S : Mem} {Q : WK} (hx : PuD x) (hy : PuD y) (h : Q (.bl (sm x y)) S) : oEq x y S Q := by
  unfold oEq
  split
  · next i j => rw [show sm (.int i) (.int j) = decide (i = j) by (by_cases e : i = j); (subst e; rw [sm_self]; simp); (rw [sm_ne (fun z => e (D.int.inj z)), decide_eq_false e])] at h; exact h
  · next i j => rw [show sm (.str i) (.str j) = decide (i = j) by (by_cases e : i = j); (subst e; rw [sm_self]; simp); (rw [sm_ne (fun z => e (D.str.inj z)), decide_eq_false e])] at h; exact h
  · next i j => exact absurd hx.1 (by unfold pu; decide)
  · exact eqG_pu (neg := false) hx hy h
theorem ne_pu {x y : D} {S : Mem} {Q : WK} (hx : PuD x) (hy : PuD y) (h : Q (.bl (!sm x y)) S) : oNe x y S Q := by
  unfold oNe
  split
  · next i j => rw [show sm (.int i) (.int j) = decide (i = j) by (by_cases e : i = j); (subst e; rw [sm_self]; simp); (rw [sm_ne (fun z => e (D.int.inj z)), decide_eq_false e])] at h; exact h
  · next i j => rw [show sm (.str i) (.str j) = decide (i = j) by (by_cases e : i = j); (subst e; rw [sm_self]; simp); (rw [sm_ne (fun z => e (D.str.inj z)), decide_eq_false e])] at h; exact h
  · next i j => exact absurd hx.1 (by unfold pu; decide)
  · exact eqG_pu (neg := true) hx hy h
theorem pu_tup {xs : List D} (h : ∀ x ∈ xs, pu x = true) : pu (.tup xs) = true := by unfold pu; exact pus_all h
theorem pu_lst {xs : List D} (h : ∀ x ∈ xs, pu x = true) : pu (.lst xs) = true := by unfold pu; exact pus_all h
theorem PuD.int (i : Int) : PuD (.int i) := ⟨by unfold pu; rfl, by unfold dep; omega⟩
theorem PuD.non : PuD .non := ⟨by unfold pu; rfl, by unfold dep; omega⟩
theorem PuD.str {x : Str} (h : okStr x = true) : PuD (.str x) := ⟨by unfold pu; exact h, by unfold dep; omega⟩
theorem PuD.tup {xs : List D} (h : ∀ x ∈ xs, pu x = true ∧ dep x ≤ 20) : PuD (.tup xs) := ⟨pu_tup fun x hx => (h x hx).1, by unfold dep; have := deps_all (n := 20) fun x hx => (h x hx).2; omega⟩
theorem PuD.lst {xs : List D} (h : ∀ x ∈ xs, pu x = true ∧ dep x ≤ 20) : PuD (.lst xs) := ⟨pu_lst fun x hx => (h x hx).1, by unfold dep; have := deps_all (n := 20) fun x hx => (h x hx).2; omega⟩
/-- x in ys, by = -/
theorem any_sm : ∀ {ys : List D} {x : D} {ps : List PyData} {p : PyData}, pus ys = true → pu x = true → toPys ys = some ps → toPy x = some p → (ps.any fun z => PyData.eqv z p) = ys.any fun y => sm y x
  | [], x, ps, p, _, _, e, _ => by unfold toPys at e; cases e; rfl
  | y :: ys, x, ps, p, h, hx, e, ex => by
    obtain ⟨h1, h2⟩ := pus_cons h
    unfold toPys at e
    split at e
    · next q qs a1 a2 =>
      cases e
      rw [List.any_cons, List.any_cons, eqv_sm h1 hx a1 ex, any_sm h2 hx a2 ex]
    · cases e
theorem in_pu {neg : Bool} {x y : D} {ys : List D} {S : Mem} {Q : WK} (hy : y = .tup ys ∨ y = .lst ys) (py : PuD y) (px : PuD x) (h : Q (.bl (if neg then !ys.any fun z => sm z x else ys.any fun z => sm z x)) S) : oIn neg x y S Q := by
  obtain ⟨p, a1, a2⟩ := shaped_pu px
  obtain ⟨q, b1, b2⟩ := shaped_pu py
  have e3 : ∃ ps, toPys ys = some ps ∧ pyItems q = some ps ∧ pus ys = true := by
    rcases hy with rfl | rfl
    all_goals
      unfold toPy at b1; rw [Option.map_eq_some_iff] at b1; obtain ⟨ps, c1, rfl⟩ := b1
      have := py.1
      unfold pu at this
      exact ⟨ps, c1, rfl, this⟩
  obtain ⟨ps, c1, c2, c3⟩ := e3
  have c4 := any_sm c3 px.1 c1 a1
  rcases hy with rfl | rfl
  all_goals
    refine ⟨p, q, ps, toPyM_pu px.1 a1, b1, c2, a2, b2, ?_⟩
    rw [c4]; exact h
theorem sm_int (i j : Int) : sm (.int i) (.int j) = decide (i = j) := by
  by_cases e : i = j
  · subst e; rw [sm_self]; simp
  · rw [sm_ne (fun z => e (D.int.inj z)), decide_eq_false e]
theorem ints_pu (ns : List Int) : ∀ x ∈ ns.map D.int, pu x = true ∧ dep x ≤ 20 := by
  intro x hx
  obtain ⟨n, _, rfl⟩ := List.mem_map.mp hx
  exact ⟨by unfold pu; rfl, by unfold dep; omega⟩
theorem any_ints (ns : List Int) (i : Int) : ((ns.map D.int).any fun z => sm z (.int i)) = decide (i ∈ ns) := by
  induction ns with
  | nil => simp
  | cons n ns ih =>
    rw [List.map_cons, List.any_cons, ih, sm_int]
    by_cases e : n = i
    · subst e; simp
    · have : ¬ i = n := fun z => e z.symm
      simp [e, this]
/-- an int in a tuple or a list of ints -/
theorem in_ints {neg : Bool} {i : Int} {y : D} {ns : List Int} {S : Mem} {Q : WK} (hy : y = intsT ns ∨ y = intsL ns) (h : Q (.bl (if neg then !decide (i ∈ ns) else decide (i ∈ ns))) S) : oIn neg (.int i) y S Q := by
  refine in_pu (ys := ns.map D.int) hy ?_ (PuD.int i) (by rw [any_ints]; exact h)
  rcases hy with rfl | rfl
  · exact PuD.tup (ints_pu ns)
  · exact PuD.lst (ints_pu ns)
/-! ### the same, for goals that are already unfolded -/
theorem eqF {x y : D} (S : Mem) (hx : PuD x) (hy : PuD y) : ∃ p q, toPyM S x = some p ∧ toPyM S y = some q ∧ SeqAt.shaped p = true ∧ SeqAt.shaped q = true ∧ PyData.eqv p q = sm x y := by
  obtain ⟨p, a1, a2⟩ := shaped_pu hx
  obtain ⟨q, b1, b2⟩ := shaped_pu hy
  exact ⟨p, q, toPyM_pu hx.1 a1, toPyM_pu hy.1 b1, a2, b2, eqv_sm hx.1 hy.1 a1 b1⟩
theorem inF {x y : D} {ys : List D} (S : Mem) (hy : y = .tup ys ∨ y = .lst ys) (py : PuD y) (px : PuD x) : ∃ d e ds, toPyM S x = some d ∧ toPy y = some e ∧ pyItems e = some ds ∧ SeqAt.shaped d = true ∧ SeqAt.shaped e = true ∧ (ds.any fun z => PyData.eqv z d) = ys.any fun z => sm z x := by
  obtain ⟨p, a1, a2⟩ := shaped_pu px
  obtain ⟨q, b1, b2⟩ := shaped_pu py
  have e3 : ∃ ps, toPys ys = some ps ∧ pyItems q = some ps ∧ pus ys = true := by
    rcases hy with rfl | rfl
    all_goals
      unfold toPy at b1; rw [Option.map_eq_some_iff] at b1; obtain ⟨ps, c1, rfl⟩ := b1
      have := py.1
      unfold pu at this
      exact ⟨ps, c1, rfl, this⟩
  obtain ⟨ps, c1, c2, c3⟩ := e3
  exact ⟨p, q, ps, toPyM_pu px.1 a1, b1, c2, a2, b2, any_sm c3 px.1 c1 a1⟩
theorem inIntsF {y : D} {ns : List Int} (S : Mem) (i : Int) (hy : y = intsT ns ∨ y = intsL ns) : ∃ d e ds, toPyM S (.int i) = some d ∧ toPy y = some e ∧ pyItems e = some ds ∧ SeqAt.shaped d = true ∧ SeqAt.shaped e = true ∧ (ds.any fun z => PyData.eqv z d) = decide (i ∈ ns) := by
  obtain ⟨d, e, ds, h1, h2, h3, h4, h5, h6⟩ := inF (ys := ns.map D.int) S hy (hy.elim (fun e => e ▸ PuD.tup (ints_pu ns)) (fun e => e ▸ PuD.lst (ints_pu ns))) (PuD.int i)
  rw [any_ints] at h6
  exact ⟨d, e, ds, h1, h2, h3, h4, h5, h6⟩
end ML

set_option maxRecDepth 100000
/-! MQ: more promises, loops. -/
namespace ML
open PySem PySem.Spec PyProof.Rows L2
theorem whileL_inv {c : DT} {b : DS} {N : Nd} (I : Nat → En → Mem → Prop)
    (h : ∀ k r S (nx : En → Mem → Prop), I k r S → (∀ k' r' S', k' < k → I k' r' S' → nx r' S') → c r S fun t S1 => match (generalizing := false) t with
      | true => b { N with nx := nx, ct := nx, bk := N.nx } r S1
      | false => N.nx r S1) (k : Nat) (r : En) (S : Mem) (hI : I k r S) : ∃ n, whileL c b N n r S := by
  refine ⟨k + 1, ?_⟩
  have : ∀ m k r S, k ≤ m → I k r S → whileL c b N (m + 1) r S := by
    intro m
    induction m with
    | zero =>
      intro k r S hk hI
      rw [whileL_succ]
      exact h k r S _ hI fun k' _ _ hl _ => by omega
    | succ m ih =>
      intro k r S hk hI
      rw [whileL_succ]
      exact h k r S _ hI fun k' r' S' hl hI' => ih k' r' S' (by omega) hI'
  exact this k k r S (Nat.le_refl _) hI
/-! ### elders -/
def EldO (rows : List TRow) (n : Int) (es : List Int) : Prop := Eld rows n es ∨ (rowOf rows n = none ∧ es = [])
def eldersS : DSp := fun ds S Q => ∃ rows n es, ds = [treeD rows, .int n] ∧ Tree rows ∧ rows.length ≤ 10000 ∧ EldO rows n es ∧ Q (intsT es) S
def pathS : DSp := fun ds S Q => ∃ rows n es, ds = [treeD rows, .int n] ∧ Tree rows ∧ rows.length ≤ 10000 ∧ EldO rows n es ∧ Q (intsT (es ++ [n])) S
def leldersS : DSp := fun ds S Q => ∃ rows n es, ds = [treeD rows, .int n] ∧ Tree rows ∧ rows.length ≤ 10000 ∧ Eld rows n es ∧ Q (intsL es) S
def lrowS : DSp := fun ds S Q => ∃ rows n, ds = [treeD rows, .int n] ∧ Tree rows ∧ Q (optRow (rowOf rows n)) S
theorem Eld.nodup {rows : List TRow} (T : Tree rows) {n : Int} {es : List Int} (h : Eld rows n es) : es.Nodup := by
  obtain ⟨rk, hk⟩ := T.rank
  induction h with
  | top _ _ => exact List.nodup_nil
  | @more n r es e hp he ih =>
    refine List.nodup_append.mpr ⟨ih, by simp, fun a ha b hb => ?_⟩
    rw [List.mem_singleton.mp hb]
    intro z
    have := (he.up a ha).rank hk
    rw [z] at this
    exact absurd this (Nat.lt_irrefl _)
theorem Eld.len {rows : List TRow} (T : Tree rows) {n : Int} {es : List Int} (h : Eld rows n es) : es.length ≤ rows.length := by
  have h1 := h.nodup T
  have : ∀ e ∈ es, e ∈ ids rows := by
    clear h1
    induction h with
    | top _ _ => intro e he; cases he
    | @more n r es e hp he ih =>
      intro x hx
      rcases List.mem_append.mp hx with hx | hx
      · exact ih x hx
      · rw [List.mem_singleton.mp hx]; exact (T.par r (rowOf_mem e).1).resolve_left hp
  have := nodup_le h1 this
  rwa [List.length_map] at this
theorem EldO.len {rows : List TRow} (T : Tree rows) {n : Int} {es : List Int} (h : EldO rows n es) : es.length ≤ rows.length := by
  rcases h with h | ⟨_, rfl⟩
  · exact h.len T
  · exact Nat.zero_le _
theorem filter_row {rows : List TRow} (nd : (ids rows).Nodup) (n : Int) : (rows.filter fun r => decide (r.n = n)) = (rowOf rows n).toList := by
  induction rows with
  | nil => rfl
  | cons a rows ih =>
    obtain ⟨h1, h2⟩ := List.nodup_cons.mp nd
    unfold rowOf
    rw [List.find?_cons]
    by_cases e : a.n = n
    · rw [List.filter_cons_of_pos (by simpa using e), decide_eq_true e]
      have : (rows.filter fun r => decide (r.n = n)) = [] := by
        refine List.filter_eq_nil_iff.mpr fun q hq hd => h1 ?_
        exact List.mem_map.mpr ⟨q, hq, (of_decide_eq_true hd).trans e.symm⟩
      rw [this]; rfl
    · rw [List.filter_cons_of_neg (by simpa using e), decide_eq_false e]
      exact ih h2
/-! ### part -/
/-- what a part tells of a node -/
def tellD (rows : List TRow) (m : Nat) (k : Int) : D := .tup [.int k, .str ((rowOf rows k).map (·.s)).get!, .int (belowF rows m k).length]
def partS (m : Nat) : DSp := fun ds S Q => ∃ (rows : List TRow) (p : Int) (first many : Nat), ds = [treeD rows, .int p, .int first, .int many] ∧ Tree rows ∧ rows.length ≤ m ∧ rows.length ≤ 10000 ∧
  Q (.tup [.int p, .int (kidsF rows p).length, .int first, .tup ((((kidsF rows p).drop first).take many).map (tellD rows m))]) S
theorem cutX_mid {α : Type} (xs : List α) (a b : Nat) : cutX xs (some (a : Int)) (some ((a : Int) + (b : Int))) = (xs.drop a).take b := by
  unfold cutX
  rw [show (a : Int) + (b : Int) = ((a + b : Nat) : Int) by omega, HT.sIx_nat, HT.sIx_nat]
  by_cases h : a ≤ xs.length
  · rw [Nat.min_eq_left h]
    by_cases h2 : a + b ≤ xs.length
    · rw [Nat.min_eq_left h2, show a + b - a = b by omega]
    · rw [Nat.min_eq_right (by omega), List.take_of_length_le (l := xs.drop a) (i := b) (by rw [List.length_drop]; omega), List.take_of_length_le (by rw [List.length_drop]; omega)]
  · rw [List.drop_of_length_le (i := a) (by omega), List.drop_of_length_le (i := min a xs.length) (by omega), List.take_nil, List.take_nil]
theorem tell_row {rows : List TRow} {m : Nat} {k : Int} {r : TRow} (h : rowOf rows k = some r) : tellD rows m k = .tup [.int k, .str r.s, .int (belowF rows m k).length] := by
  unfold tellD; rw [h]; rfl
end ML

set_option maxRecDepth 100000
/-! MR: the laws' own helpers: drawing, picking, names, trees; sameness. -/
namespace ML
open PySem PySem.Spec PyProof.Rows L2
/-- the town has at most k things -/
def Tn (S : Mem) (t : Addr) (k : Nat) : Prop := ∃ zs, S t = some (.lst zs) ∧ zs.length ≤ k
/-- nothing but the town changed -/
def Fr (S S' : Mem) (t : Addr) : Prop := ∀ b, b ≠ t → S' b = S b
theorem Tn.mono {S : Mem} {t : Addr} {j k : Nat} (h : Tn S t j) (l : j ≤ k) : Tn S t k := let ⟨zs, h1, h2⟩ := h; ⟨zs, h1, Nat.le_trans h2 l⟩
theorem Fr.refl {S : Mem} {t : Addr} : Fr S S t := fun _ _ => rfl
theorem Fr.trans {S S1 S2 : Mem} {t : Addr} (a : Fr S S1 t) (b : Fr S1 S2 t) : Fr S S2 t := fun c h => (b c h).trans (a c h)
def drawT : DSp := fun ds S Q => ∃ (ns : List Int) (t : Addr) (many : Int) (k : Nat), ds = [.fls (ns.map .int), .obj t, .int many] ∧ Tn S t k ∧ k < 1000000 ∧ 0 < many ∧ ∀ (r : Int) (S' : Mem), 0 ≤ r → r < many → Tn S' t (k + 1) → Fr S S' t → Q (.int r) S'
theorem drawT_S {ds : List D} {S : Mem} {Q : WK} (h : drawT ds S Q) : drawS ds S Q := by
  obtain ⟨ns, t, many, k, rfl, ⟨zs, h1, h2⟩, h3, h4, q⟩ := h
  refine ⟨ns, t, zs, many, rfl, h1, by omega, h4, fun r r0 r1 => q r _ r0 r1 ⟨_, up_same, ?_⟩ fun b hb => up_ne hb⟩
  rw [List.length_append, List.length_singleton]; omega
/-- the signs of a text, as texts -/
abbrev sgnD (c : Nat) : D := .str ⟨#[c]⟩
inductive ItemsD (S : Mem) (t : Addr) : D → List D → Prop
  | lst (xs : List D) : ItemsD S t (.lst xs) xs
  | tup (xs : List D) : ItemsD S t (.tup xs) xs
  | obj {a : Addr} {xs : List D} : a ≠ t → S a = some (.lst xs) → ItemsD S t (.obj a) xs
  | str {z : Str} : z.length ≤ sizeLine → ItemsD S t (.str z) (z.cps.toList.map sgnD)
def pickT : DSp := fun ds S Q => ∃ (ns : List Int) (t : Addr) (k : Nat) (d : D) (xs : List D), ds = [.fls (ns.map .int), .obj t, d] ∧ Tn S t k ∧ k < 1000000 ∧ ItemsD S t d xs ∧ xs ≠ [] ∧ ∀ x ∈ xs, ∀ S', Tn S' t (k + 1) → Fr S S' t → Q x S'
theorem atI_mem {α : Type} {xs : List α} {i : Int} (h0 : 0 ≤ i) (h1 : i < xs.length) : ∃ x ∈ xs, atI xs i = some x := by
  obtain ⟨j, rfl⟩ := Int.eq_ofNat_of_zero_le h0
  have hj : j < xs.length := by omega
  exact ⟨xs[j], List.getElem_mem hj, atI_nat (List.getElem?_eq_getElem hj)⟩
/-! ### names -/
def okName (x : Str) : Prop := 0 < x.length ∧ x.length ≤ 6 ∧ ∀ c ∈ x.cps.toList, 97 ≤ c ∧ c ≤ 122
theorem okName.ok {x : Str} (h : okName x) : okStr x = true := by
  show x.cps.all (· < 0x110000) = true
  rw [← Array.all_toList, List.all_eq_true]
  intro c hc
  have := h.2.2 c hc
  exact decide_eq_true (by omega)
theorem okName.len {x : Str} (h : okName x) : x.length ≤ 6 := h.2.1
def nameT : DSp := fun ds S Q => ∃ (ns : List Int) (t : Addr) (k : Nat), ds = [.fls (ns.map .int), .obj t] ∧ Tn S t k ∧ k + 8 < 1000000 ∧ ∀ (x : Str) (S' : Mem), okName x → Tn S' t (k + 8) → Fr S S' t → Q (.str x) S'
/-! ### trees -/
def Named (rows : List TRow) : Prop := ∀ r ∈ rows, okName r.s
def treeT : DSp := fun ds S Q => ∃ (ns : List Int) (t : Addr) (k most : Nat), ds = [.fls (ns.map .int), .obj t, .int most] ∧ Tn S t k ∧ most ≤ 100 ∧ k + 3000 < 1000000 ∧ ∀ (rows : List TRow) (S' : Mem), Tree rows → Named rows → (∀ r ∈ rows, r.n ≤ 40 * most) → rows.length ≤ most → Tn S' t (k + 3000) → Fr S S' t → Q (treeD rows) S'
theorem tree_of {nums order : List Int} {rows : List TRow} (h1 : nums.Pairwise (· < ·)) (h2 : ∀ x ∈ nums, 0 < x) (h3 : order.Perm nums) (h4 : ids rows = nums) (h5 : ∀ r ∈ rows, r.p = 0 ∨ r.p ∈ order.take (order.idxOf r.n)) : Tree rows := by
  have nd : order.Nodup := h3.nodup_iff.mpr (h1.imp fun h => Int.ne_of_lt h)
  have mem : ∀ r ∈ rows, r.n ∈ order := fun r hr => h3.mem_iff.mpr (by rw [← h4]; exact List.mem_map.mpr ⟨r, hr, rfl⟩)
  refine ⟨by rw [h4]; exact h1, fun r hr => h2 _ (by rw [← h4]; exact List.mem_map.mpr ⟨r, hr, rfl⟩), ⟨fun x => if x ∈ order then order.idxOf x + 1 else 0, fun r hr => ?_⟩, fun r hr => ?_⟩
  · show (if r.p ∈ order then order.idxOf r.p + 1 else 0) < if r.n ∈ order then order.idxOf r.n + 1 else 0
    rw [if_pos (mem r hr)]
    rcases h5 r hr with e | e
    · rw [e]
      have h0 : (0 : Int) ∉ order := fun z => by have := h2 0 (h3.mem_iff.mp z); omega
      rw [if_neg h0]; omega
    · obtain ⟨i, hi, he⟩ := List.getElem_of_mem e
      rw [List.length_take] at hi
      rw [List.getElem_take] at he
      have hm : r.p ∈ order := List.mem_of_mem_take e
      rw [if_pos hm, ← he, nd.idxOf_getElem]
      omega
  · rcases h5 r hr with e | e
    · exact .inl e
    · right; rw [h4]; exact h3.mem_iff.mp (List.mem_of_mem_take e)
theorem forL_invC {α : Type} {ck : CK} {b : DG} {body : DS} {N : Nd} {enc : α → D} (I : List α → En → Mem → Prop) (hc : ∀ rr r S, I rr r S → ckOk ck S)
    (h : ∀ x rest r S (nx : En → Mem → Prop), I (x :: rest) r S → (∀ r' S', I rest r' S' → nx r' S') → b (enc x) r S fun r1 S1 => body { N with nx := nx, ct := nx, bk := N.nx } r1 S1)
    (hd : ∀ r S, I [] r S → N.nx r S) : ∀ (xs : List α) (r : En) (S : Mem), I xs r S → forL ck b body N (xs.map enc) r S := by
  have wk : ∀ {S : Mem} {P : Prop}, ckOk ck S → P → wck ck S P := by
    intro S P h1 h2
    unfold wck
    unfold ckOk at h1
    cases ck with
    | none => exact h2
    | some p => exact ⟨h1, h2⟩
  intro xs
  induction xs with
  | nil => intro r S q; rw [List.map_nil, forL_nil]; exact wk (hc _ _ _ q) (hd r S q)
  | cons x xs ih => intro r S q; rw [List.map_cons, forL_cons]; exact wk (hc _ _ _ q) (h x xs r S _ q fun r' S' q' => ih r' S' q')
theorem idx_int {ns : List Int} {n : Int} (h : n ∈ ns) : IdxAt (ns.map PyData.int) (.int n) (ns.idxOf n) := by
  have hl := List.idxOf_lt_length_of_mem h
  refine ⟨⟨.int n, ?_, by rw [eqv_int]; simp⟩, fun m z hm hz => ?_⟩
  · rw [List.getElem?_map, List.getElem?_eq_getElem hl, List.getElem_idxOf]; rfl
  · rw [List.getElem?_map, List.getElem?_eq_getElem (by omega)] at hz
    cases hz
    rw [eqv_int]
    have := List.not_of_lt_findIdx (xs := ns) (p := (· == n)) (i := m) hm
    simpa using this
/-! ### sameness -/
mutual
/-- data of ints, texts, truth values, None and tuples -/
def pb : D → Bool
  | .non => true
  | .bl _ => true
  | .int _ => true
  | .str _ => true
  | .tup xs => pbs xs
  | _ => false
def pbs : List D → Bool
  | [] => true
  | x :: xs => pb x && pbs xs
end
theorem pbs_mem : ∀ {xs : List D}, pbs xs = true → ∀ x ∈ xs, pb x = true
  | [], _, x, h => by cases h
  | y :: xs, hp, x, h => by
    unfold pbs at hp
    rw [Bool.and_eq_true] at hp
    rcases List.mem_cons.mp h with rfl | h
    · exact hp.1
    · exact pbs_mem hp.2 x h
theorem pbs_all : ∀ {xs : List D}, (∀ x ∈ xs, pb x = true) → pbs xs = true
  | [], _ => by unfold pbs; rfl
  | x :: xs, h => by
    unfold pbs
    rw [h x List.mem_cons_self, pbs_all fun y hy => h y (List.mem_cons_of_mem _ hy)]; rfl
theorem pb_tup {xs : List D} (h : ∀ x ∈ xs, pb x = true) : pb (.tup xs) = true := by unfold pb; exact pbs_all h
theorem pb_ints (ns : List Int) : pb (intsT ns) = true := pb_tup fun x hx => by obtain ⟨n, _, rfl⟩ := List.mem_map.mp hx; unfold pb; rfl
def sameS : Nat → DSp
  | 0 => noS
  | m + 1 => fun ds S Q => ∃ x y, ds = [x, y] ∧ pb x = true ∧ pb y = true ∧ dep y ≤ m ∧ Q (.bl (sm x y)) S
theorem sm_all : ∀ {xs ys : List D}, xs.length = ys.length → ((xs.zip ys).map fun p => sm p.1 p.2).all id = sm (.tup xs) (.tup ys)
  | [], [], _ => by rw [sm_self]; rfl
  | x :: xs, [], h => absurd h (by simp)
  | [], y :: ys, h => absurd h (by simp)
  | x :: xs, y :: ys, h => by
    have ih := sm_all (xs := xs) (ys := ys) (by simpa using h)
    rw [List.zip_cons_cons, List.map_cons, List.all_cons, ih]
    cases e1 : sm x y with
    | false =>
      rw [sm_ne (x := .tup (x :: xs))]
      · rfl
      · intro z; rw [(List.cons.inj (D.tup.inj z)).1, sm_self] at e1; cases e1
    | true =>
      cases e2 : sm (.tup xs) (.tup ys) with
      | false =>
        rw [sm_ne (x := .tup (x :: xs))]
        · rfl
        · intro z; rw [(List.cons.inj (D.tup.inj z)).2, sm_self] at e2; cases e2
      | true =>
        have h1 := sm_iff.mp e1
        have h2 := D.tup.inj (sm_iff.mp e2)
        rw [h1, h2, sm_self]; rfl
theorem sm_str (i j : Str) : sm (.str i) (.str j) = decide (i = j) := by
  by_cases e : i = j
  · subst e; rw [sm_self]; simp
  · rw [sm_ne (fun z => e (D.str.inj z)), decide_eq_false e]
theorem sm_bl (i j : Bool) : sm (.bl i) (.bl j) = decide (i = j) := by
  by_cases e : i = j
  · subst e; rw [sm_self]; simp
  · rw [sm_ne (fun z => e (D.bl.inj z)), decide_eq_false e]
theorem pb_tell (rows : List TRow) (m : Nat) (k : Int) : pb (tellD rows m k) = true := rfl
theorem dep_tup {xs : List D} {n : Nat} (h : ∀ x ∈ xs, dep x ≤ n) : dep (.tup xs) ≤ n + 1 := by unfold dep; exact Nat.succ_le_succ (deps_all h)
theorem dep_int (i : Int) (n : Nat) : dep (.int i) ≤ n := by unfold dep; exact Nat.zero_le _
theorem dep_str (i : Str) (n : Nat) : dep (.str i) ≤ n := by unfold dep; exact Nat.zero_le _
theorem dep_tell (rows : List TRow) (m : Nat) (k : Int) : dep (tellD rows m k) ≤ 1 := by
  refine dep_tup (n := 0) fun x hx => ?_
  simp only [List.mem_cons, List.not_mem_nil, or_false] at hx
  rcases hx with rfl | rfl | rfl
  · exact dep_int _ _
  · exact dep_str _ _
  · exact dep_int _ _
theorem dep_ints (ns : List Int) : dep (intsT ns) ≤ 1 := dep_tup (n := 0) fun x hx => by
  obtain ⟨i, _, rfl⟩ := List.mem_map.mp hx
  exact dep_int _ _
theorem all1 {P : D → Prop} {x : D} (h : P x) : ∀ z ∈ [x], P z := by
  intro z hz; rw [List.mem_singleton.mp hz]; exact h
theorem all2 {P : D → Prop} {x y : D} (h : P x) (h2 : P y) : ∀ z ∈ [x, y], P z := by
  intro z hz
  rcases List.mem_cons.mp hz with rfl | hz
  · exact h
  · exact all1 h2 z hz
theorem all3 {P : D → Prop} {x y z : D} (h : P x) (h2 : P y) (h3 : P z) : ∀ w ∈ [x, y, z], P w := by
  intro w hw
  rcases List.mem_cons.mp hw with rfl | hw
  · exact h
  · exact all2 h2 h3 w hw
theorem all4 {P : D → Prop} {x y z u : D} (h : P x) (h2 : P y) (h3 : P z) (h4 : P u) : ∀ w ∈ [x, y, z, u], P w := by
  intro w hw
  rcases List.mem_cons.mp hw with rfl | hw
  · exact h
  · exact all3 h2 h3 h4 w hw
theorem allM {α : Type} {P : D → Prop} {f : α → D} {xs : List α} (h : ∀ x, P (f x)) : ∀ z ∈ xs.map f, P z := by
  intro z hz
  obtain ⟨x, _, rfl⟩ := List.mem_map.mp hz
  exact h x
/-! ### trees, the other way -/
abbrev namesB : List Str := ["a", "b", "ab", "ba", "zed"]
def treeBT : DSp := fun ds S Q => ∃ (ns : List Int) (t : Addr) (k most : Nat), ds = [.fls (ns.map .int), .obj t, .int most] ∧ Tn S t k ∧ most ≤ 60 ∧ k + 300 < 1000000 ∧ ∀ (rows : List TRow) (S' : Mem), Tree rows → Named rows → (∀ r ∈ rows, r.n ≤ 999) → (∀ r ∈ rows, r.s ∈ namesB) → rows.length ≤ most → Tn S' t (k + 300) → Fr S S' t → Q (treeD rows) S'
abbrev PIn (rs : List TRow) : Prop := ∀ r ∈ rs, r.p = 0 ∨ r.p ∈ (ids rs).take ((ids rs).idxOf r.n)
theorem PIn.add {rs : List TRow} (h : PIn rs) {r : TRow} (hn : r.n ∉ ids rs) (hp : r.p = 0 ∨ r.p ∈ ids rs) : PIn (rs ++ [r]) := by
  have e0 : ids (rs ++ [r]) = ids rs ++ [r.n] := by simp
  intro q hq
  rw [e0]
  rcases List.mem_append.mp hq with hq | hq
  · have hm : q.n ∈ ids rs := List.mem_map.mpr ⟨q, hq, rfl⟩
    rw [List.idxOf_append, if_pos hm, List.take_append_of_le_length (Nat.le_of_lt (List.idxOf_lt_length_of_mem hm))]
    exact h q hq
  · rw [List.mem_singleton.mp hq, List.idxOf_append, if_neg hn]
    rcases hp with hp | hp
    · exact .inl hp
    · right
      rw [List.take_append]
      exact List.mem_append_left _ (by rw [List.take_of_length_le (Nat.le_add_left _ _)]; exact hp)
abbrev dkOf (rs : List TRow) : List (Key × D) := rs.map fun r => (Sum.inl r.n, rowD r)
theorem look_in {rs : List TRow} (nd : (ids rs).Nodup) {r : TRow} (h : r ∈ rs) : lookD (dkOf rs) (Sum.inl r.n : Key) = some (rowD r) := by
  induction rs with
  | nil => cases h
  | cons a rs ih =>
    obtain ⟨h1, h2⟩ := List.nodup_cons.mp nd
    unfold lookD
    rw [show dkOf (a :: rs) = (Sum.inl a.n, rowD a) :: dkOf rs from rfl, List.find?_cons]
    rcases List.mem_cons.mp h with e | hm
    · subst e; simp
    · have : ¬ ((Sum.inl a.n : Key) = Sum.inl r.n) := fun z => h1 (show a.n ∈ ids rs by rw [show a.n = r.n from Sum.inl.inj z]; exact List.mem_map.mpr ⟨r, hm, rfl⟩)
      rw [decide_eq_false this]
      exact ih h2 hm
theorem look_out {rs : List TRow} {k : Int} (h : k ∉ ids rs) : lookD (dkOf rs) (Sum.inl k : Key) = none := by
  induction rs with
  | nil => rfl
  | cons a rs ih =>
    unfold lookD
    rw [show dkOf (a :: rs) = (Sum.inl a.n, rowD a) :: dkOf rs from rfl, List.find?_cons]
    have : ¬ ((Sum.inl a.n : Key) = Sum.inl k) := fun z => h (by rw [← show a.n = k from Sum.inl.inj z]; simp)
    rw [decide_eq_false this]
    exact ih fun hm => h (by simp only [List.map_cons, List.mem_cons]; exact .inr hm)
theorem look_iff {rs : List TRow} (nd : (ids rs).Nodup) {k : Int} : (lookD (dkOf rs) (Sum.inl k : Key)).isSome = decide (k ∈ ids rs) := by
  by_cases h : k ∈ ids rs
  · obtain ⟨r, hr, rfl⟩ := List.mem_map.mp h
    rw [look_in nd hr, decide_eq_true h]; rfl
  · rw [look_out h, decide_eq_false h]; rfl
theorem put_out {rs : List TRow} {k : Int} (h : k ∉ ids rs) (d : D) : putD (dkOf rs) (Sum.inl k : Key) d = dkOf rs ++ [(Sum.inl k, d)] := by
  unfold putD
  rw [if_neg]
  rw [Bool.not_eq_true, List.any_eq_false]
  intro x hx
  obtain ⟨r, hr, rfl⟩ := List.mem_map.mp hx
  intro z
  exact h (by rw [← show r.n = k from Sum.inl.inj (of_decide_eq_true z)]; exact List.mem_map.mpr ⟨r, hr, rfl⟩)
theorem le_lt {ys : List Int} (h : ys.Pairwise (· ≤ ·)) (nd : ys.Nodup) : ys.Pairwise (· < ·) := (h.and nd).imp fun ⟨a, b⟩ => Int.lt_iff_le_and_ne.mpr ⟨a, b⟩
/-! ### kids as a tuple that can be asked for places -/
def kidsKS : DSp := fun ds S Q => ∃ rows p, ds = [treeD rows, .int p] ∧ rows.length ≤ 10000 ∧ Q (.kt ((kidsF rows p).map .int)) S
/-- number // many + 1 of its place -/
def aheadS : DSp := fun ds S Q => ∃ (rows : List TRow) (r : TRow) (many : Nat), ds = [treeD rows, .int r.n, .int many] ∧ Tree rows ∧ rows.length ≤ 10000 ∧ r ∈ rows ∧ 0 < many ∧ many < 1000000 ∧ Q (.int (((kidsF rows r.p).idxOf r.n / many + 1 : Nat) : Int)) S
theorem row_in {rows : List TRow} (T : Tree rows) {r : TRow} (h : r ∈ rows) : rowOf rows r.n = some r := by
  obtain ⟨q, hq⟩ := rowOf_some (rows := rows) (n := r.n) (List.mem_map.mpr ⟨r, h, rfl⟩)
  obtain ⟨h1, h2⟩ := rowOf_mem hq
  rw [hq, uniq_of T.nd h1 h h2]
end ML

set_option maxRecDepth 100000
/-! MU: dicts of pairs, sums of kids. -/
namespace ML
open PySem PySem.Spec PyProof.Rows L2
theorem putD_new {kvs : List (Key × D)} {k : Key} {d : D} (h : k ∉ kvs.map (·.1)) : putD kvs k d = kvs ++ [(k, d)] := by
  unfold putD
  rw [if_neg]
  rw [Bool.not_eq_true, List.any_eq_false]
  intro x hx z
  exact h (List.mem_map.mpr ⟨x, hx, of_decide_eq_true z⟩)
theorem mergeD_new : ∀ (more acc : List (Key × D)), (acc.map (·.1) ++ more.map (·.1)).Nodup → mergeD acc more = acc ++ more
  | [], acc, _ => by show acc = acc ++ []; simp
  | p :: more, acc, h => by
    show mergeD (putD acc p.1 p.2) more = _
    obtain ⟨h1, h2, h3⟩ := List.nodup_append.mp h
    rw [putD_new (fun hm => h3 _ hm p.1 (by simp) rfl)]
    rw [mergeD_new more (acc ++ [(p.1, p.2)]) (by simpa using h)]
    simp
theorem look_mem : ∀ {kvs : List (Key × D)} {k : Key} {d : D}, (kvs.map (·.1)).Nodup → (k, d) ∈ kvs → lookD kvs k = some d
  | [], _, _, _, h => by cases h
  | p :: kvs, k, d, nd, h => by
    obtain ⟨h1, h2⟩ := List.nodup_cons.mp nd
    unfold lookD
    rw [List.find?_cons]
    rcases List.mem_cons.mp h with e | hm
    · subst e; simp
    · have : ¬ p.1 = k := fun z => h1 (List.mem_map.mpr ⟨_, hm, z.symm⟩)
      rw [decide_eq_false this]
      exact look_mem h2 hm
theorem keys_inl {ns : List Int} (h : ns.Nodup) : (ns.map (Sum.inl : Int → Key)).Nodup := by
  refine List.pairwise_map.mpr (h.imp fun hab e => hab (Sum.inl.inj e))
theorem sum_ind {L : List Int} (nd : L.Nodup) {x : Int} (h : x ∈ L) : (L.map fun p => if x = p then 1 else 0).sum = 1 := by
  induction L with
  | nil => cases h
  | cons a L ih =>
    obtain ⟨h1, h2⟩ := List.nodup_cons.mp nd
    rw [List.map_cons, List.sum_cons]
    by_cases e : x = a
    · subst e
      rw [if_pos rfl]
      have zero : ∀ M : List Int, x ∉ M → (M.map fun p => if x = p then 1 else 0).sum = 0 := by
        intro M
        induction M with
        | nil => intro _; rfl
        | cons b M ih2 => intro hb; rw [List.map_cons, List.sum_cons, if_neg (fun z => hb (by rw [z]; simp)), ih2 (fun hm => hb (List.mem_cons_of_mem _ hm))]
      rw [zero L h1]
    · rw [if_neg e, ih h2 ((List.mem_cons.mp h).resolve_left e)]
theorem sum_add (L : List Int) (f g : Int → Nat) : (L.map fun p => f p + g p).sum = (L.map f).sum + (L.map g).sum := by
  induction L with
  | nil => rfl
  | cons a L ih => simp only [List.map_cons, List.sum_cons, ih]; omega
theorem sum_kids {L : List Int} (nd : L.Nodup) : ∀ {rows : List TRow}, (∀ r ∈ rows, r.p ∈ L) → (L.map fun p => (rows.filter fun r => decide (r.p = p)).length).sum = rows.length
  | [], _ => by
    have : ∀ L : List Int, (L.map fun p => (([] : List TRow).filter fun r => decide (r.p = p)).length).sum = 0 := by
      intro L; induction L with
      | nil => rfl
      | cons a L ih => rw [List.map_cons, List.sum_cons, ih]; rfl
    exact this L
  | a :: rows, h => by
    have ih := sum_kids nd (rows := rows) fun r hr => h r (List.mem_cons_of_mem _ hr)
    have e : (L.map fun p => ((a :: rows).filter fun r => decide (r.p = p)).length) = L.map fun p => (if a.p = p then 1 else 0) + (rows.filter fun r => decide (r.p = p)).length := by
      refine List.map_congr_left fun p _ => ?_
      by_cases e : a.p = p
      · rw [List.filter_cons_of_pos (by simpa using e), if_pos e, List.length_cons]; omega
      · rw [List.filter_cons_of_neg (by simpa using e), if_neg e]; omega
    rw [e, sum_add, sum_ind nd (h a List.mem_cons_self), ih, List.length_cons]; omega
theorem kids_count (rows : List TRow) (p : Int) : (kidsF rows p).length = (rows.filter fun r => decide (r.p = p)).length := by
  unfold kidsF prsOf
  rw [List.length_map, (prSort_perm _).length_eq, List.length_map]
theorem Tree.parents {rows : List TRow} (T : Tree rows) : (0 :: ids rows).Nodup ∧ ∀ r ∈ rows, r.p ∈ 0 :: ids rows := by
  refine ⟨List.nodup_cons.mpr ⟨fun h => ?_, T.nd⟩, fun r hr => ?_⟩
  · obtain ⟨r, hr, e⟩ := List.mem_map.mp h
    have := T.pos r hr
    omega
  · rcases T.par r hr with e | e
    · rw [e]; exact List.mem_cons_self
    · exact List.mem_cons_of_mem _ e
theorem Tree.sum {rows : List TRow} (T : Tree rows) : ((0 :: ids rows).map fun p => (kidsF rows p).length).sum = rows.length := by
  rw [← sum_kids T.parents.1 T.parents.2]
  exact congrArg List.sum (List.map_congr_left fun p _ => kids_count rows p)
theorem pu_tell {rows : List TRow} (hN : Named rows) {p k : Int} (m : Nat) (h : k ∈ kidsF rows p) : pu (tellD rows m k) = true ∧ dep (tellD rows m k) ≤ 20 := by
  obtain ⟨r, hr, e1, e2⟩ := mem_kids.mp h
  obtain ⟨r2, hr2⟩ := rowOf_some (rows := rows) (n := k) (List.mem_map.mpr ⟨r, hr, e1⟩)
  refine ⟨?_, Nat.le_trans (dep_tell rows m k) (by decide)⟩
  rw [tell_row hr2]
  refine pu_tup (all3 (by unfold pu; rfl) ?_ (by unfold pu; rfl))
  unfold pu
  exact (hN r2 (rowOf_mem hr2).1).ok
theorem enumD_ints (ns : List Int) : enumD (ns.map D.int) = ns.zipIdx.map fun p => D.tup [.int (p.2 : Nat), .int p.1] := by
  unfold enumD
  rw [List.zipIdx_map, List.map_map]
  rfl
end ML

set_option maxRecDepth 100000
/-! MV: found ones, elders as a function, sets of keys. -/
namespace ML
open PySem PySem.Spec PyProof.Rows L2
/-! ### elders as a function -/
def eldF (rows : List TRow) : Nat → Int → List Int
  | 0, _ => []
  | k + 1, n => match rowOf rows n with
    | some r => if r.p = 0 then [] else eldF rows k r.p ++ [r.p]
    | none => []
theorem eldF_of {rows : List TRow} {n : Int} {es : List Int} (h : Eld rows n es) : ∀ k, es.length < k → eldF rows k n = es := by
  induction h with
  | top e hp =>
    intro k hk
    cases k with
    | zero => omega
    | succ k => unfold eldF; rw [e]; simp only [hp, if_true]
  | more e hp _ ih =>
    intro k hk
    rw [List.length_append, List.length_singleton] at hk
    cases k with
    | zero => omega
    | succ k => unfold eldF; rw [e]; simp only [hp, if_false]; rw [ih k (by omega)]
def eldL (rows : List TRow) (n : Int) : List Int := eldF rows (rows.length + 1) n
theorem Tree.eldO {rows : List TRow} (T : Tree rows) (n : Int) : EldO rows n (eldL rows n) := by
  by_cases h : n ∈ ids rows
  · obtain ⟨es, he⟩ := T.eld h
    have := eldF_of he (rows.length + 1) (Nat.lt_succ_of_le (he.len T))
    unfold eldL
    rw [this]
    exact .inl he
  · have e : rowOf rows n = none := by
      cases q : rowOf rows n with
      | none => rfl
      | some r => obtain ⟨h1, h2⟩ := rowOf_mem q; exact absurd (List.mem_map.mpr ⟨r, h1, h2⟩) h
    refine .inr ⟨e, ?_⟩
    unfold eldL eldF
    rw [e]
theorem Tree.eldL_len {rows : List TRow} (T : Tree rows) (n : Int) : (eldL rows n).length ≤ rows.length := (T.eldO n).len T
theorem Up.eld {rows : List TRow} (T : Tree rows) {n e : Int} (u : Up rows n e) (h0 : e ≠ 0) : ∀ {es : List Int}, Eld rows n es → e ∈ es := by
  induction u with
  | @one r hr =>
    intro es he
    have e1 := row_in T hr
    cases he with
    | top e2 hp => rw [e1] at e2; cases e2; exact absurd hp h0
    | more e2 hp _ => rw [e1] at e2; cases e2; simp
  | @step r n hr u ih =>
    intro es he
    have e1 := row_in T hr
    cases he with
    | top e2 hp =>
      rw [e1] at e2; cases e2
      rw [hp] at u
      have := u.mem
      obtain ⟨q, hq, e3⟩ := List.mem_map.mp this
      have := T.pos q hq
      omega
    | more e2 hp he2 => rw [e1] at e2; cases e2; exact List.mem_append_left _ (ih h0 he2)
theorem mem_eldL {rows : List TRow} (T : Tree rows) {n e : Int} : e ∈ eldL rows n ↔ Up rows n e ∧ e ≠ 0 := by
  constructor
  · intro h
    rcases T.eldO n with he | ⟨_, e2⟩
    · refine ⟨he.up e h, fun z => ?_⟩
      subst z
      have : ∀ {n es}, Eld rows n es → (0 : Int) ∈ es → False := by
        intro n es hh
        induction hh with
        | top _ _ => intro h; cases h
        | more _ hp _ ih =>
          intro h
          rcases List.mem_append.mp h with h | h
          · exact ih h
          · exact hp (List.mem_singleton.mp h).symm
      exact this he h
    · rw [e2] at h; cases h
  · rintro ⟨u, h0⟩
    rcases T.eldO n with he | ⟨e1, _⟩
    · exact u.eld T h0 he
    · obtain ⟨r, hr⟩ := rowOf_some u.mem
      rw [hr] at e1; cases e1
/-! ### dicts as sets of ints -/
def DkSet (kvs : List (Key × D)) (L : List Int) : Prop := (∀ n : Int, (lookD kvs (Sum.inl n : Key)).isSome = decide (n ∈ L)) ∧ kvs.length ≤ L.length
theorem DkSet.nil : DkSet [] [] := ⟨fun _ => rfl, Nat.le_refl _⟩
theorem look_some_iff {kvs : List (Key × D)} {k : Key} : (lookD kvs k).isSome = kvs.any fun kv => decide (kv.1 = k) := by
  unfold lookD
  rw [Option.isSome_map]
  induction kvs with
  | nil => rfl
  | cons a kvs ih =>
    rw [List.find?_cons, List.any_cons]
    cases decide (a.1 = k) with
    | true => rfl
    | false => exact ih
theorem DkSet.put {kvs : List (Key × D)} {L : List Int} (h : DkSet kvs L) (x : Int) (d : D) : DkSet (putD kvs (Sum.inl x) d) (x :: L) := by
  obtain ⟨h1, h2⟩ := h
  constructor
  · intro n
    rw [look_some_iff]
    have h1 := h1 n
    rw [look_some_iff] at h1
    unfold putD
    split
    · next hx =>
      rw [List.any_map]
      have e : (fun kv : Key × D => decide (kv.1 = (Sum.inl n : Key))) ∘ (fun kv => if kv.1 = (Sum.inl x : Key) then (kv.1, d) else kv) = fun kv => decide (kv.1 = (Sum.inl n : Key)) := by
        funext kv
        simp only [Function.comp]
        split <;> rfl
      rw [e, h1]
      by_cases hn : n = x
      · subst hn
        rw [hx] at h1
        rw [decide_eq_true (List.mem_cons_self), ← h1]
      · simp [hn]
    · rw [List.any_append, h1]
      by_cases hn : n = x
      · subst hn; simp
      · have : ¬ ((Sum.inl x : Key) = Sum.inl n) := fun z => hn (Sum.inl.inj z).symm
        simp [this, hn]
  · unfold putD
    rw [List.length_cons]
    split
    · rw [List.length_map]; omega
    · rw [List.length_append, List.length_singleton]; omega
theorem DkSet.get {kvs : List (Key × D)} {L : List Int} (h : DkSet kvs L) {S : Mem} {a : Addr} (hS : S a = some (.dk kvs)) (n : Int) : ∃ o, getD S a (.int n) = some o ∧ o.isSome = decide (n ∈ L) :=
  ⟨_, by unfold getD; simp only [hS]; rfl, h.1 n⟩
/-! ### words -/
def hasW (word name : Str) : Bool := !(Builtin.Str.occurrences name word 0 name.length 1).isEmpty
def nameOf (rows : List TRow) (n : Int) : Str := ((rowOf rows n).map (·.s)).get!
def foundF (rows : List TRow) (m : Nat) (word : Str) : List Int := (belowF rows m 0).filter fun n => hasW word (nameOf rows n)
def foundS (m : Nat) : DSp := fun ds S Q => ∃ (rows : List TRow) (word : Str), ds = [treeD rows, .str word] ∧ Tree rows ∧ rows.length ≤ m ∧ rows.length ≤ 10000 ∧ Q (intsT (foundF rows m word)) S
def withE (rows : List TRow) (xs : List Int) : List Int := xs.flatMap fun x => eldL rows x ++ [x]
def unfE (rows : List TRow) (xs : List Int) : List Int := xs.flatMap fun x => eldL rows x
def withS (m : Nat) : DSp := fun ds S Q => ∃ (rows : List TRow) (xs : List Int), ds = [treeD rows, intsT xs] ∧ Tree rows ∧ rows.length ≤ m ∧ rows.length ≤ 100 ∧ xs.length ≤ 1000 ∧ Q (intsT ((belowF rows m 0).filter fun n => decide (n ∈ withE rows xs))) S
def unfS (m : Nat) : DSp := fun ds S Q => ∃ (rows : List TRow) (xs : List Int), ds = [treeD rows, intsT xs] ∧ Tree rows ∧ rows.length ≤ m ∧ rows.length ≤ 100 ∧ xs.length ≤ 1000 ∧ Q (intsT ((belowF rows m 0).filter fun n => decide (n ∈ unfE rows xs))) S
theorem below_kid {rows : List TRow} : ∀ {m : Nat} {n x k : Int}, Hgt rows m n → x ∈ belowF rows m n → k ∈ kidsF rows x → k ∈ belowF rows m n
  | 0, _, _, _, _, h, _ => by cases h
  | m + 1, n, x, k, hh, h, hk => by
    obtain ⟨y, hy, hx⟩ := List.mem_flatMap.mp h
    have hy2 := hh.kid hy
    refine List.mem_flatMap.mpr ⟨y, hy, List.mem_cons_of_mem _ ?_⟩
    rcases List.mem_cons.mp hx with rfl | hx
    · cases m with
      | zero => rw [hy2.none] at hk; cases hk
      | succ m => exact List.mem_flatMap.mpr ⟨k, hk, List.mem_cons_self⟩
    · exact below_kid hy2 hx hk
theorem below_of_up {rows : List TRow} {m : Nat} {n x : Int} (hh : Hgt rows m n) (u : Up rows x n) : x ∈ belowF rows m n := by
  induction u with
  | @one r hr =>
    have hk : r.n ∈ kidsF rows r.p := mem_kids.mpr ⟨r, hr, rfl, rfl⟩
    cases m with
    | zero => exact absurd rfl (hh r hr)
    | succ m => exact List.mem_flatMap.mpr ⟨r.n, hk, List.mem_cons_self⟩
  | @step r n hr _ ih => exact below_kid hh (ih hh) (mem_kids.mpr ⟨r, hr, rfl, rfl⟩)
theorem Tree.up0 {rows : List TRow} (T : Tree rows) {x : Int} (h : x ∈ ids rows) : Up rows x 0 := by
  obtain ⟨es, he⟩ := T.eld h
  clear h
  induction he with
  | top e hp =>
    obtain ⟨h1, rfl⟩ := rowOf_mem e
    rw [← hp]; exact .one h1
  | more e hp _ ih =>
    obtain ⟨h1, rfl⟩ := rowOf_mem e
    exact .step h1 ih
theorem Tree.all_below {rows : List TRow} (T : Tree rows) {m : Nat} (hm : rows.length ≤ m) {x : Int} : x ∈ belowF rows m 0 ↔ x ∈ ids rows :=
  ⟨fun h => (up_of_below h).mem, fun h => below_of_up (T.hgt hm 0) (T.up0 h)⟩
def narF (rows : List TRow) (m : Nat) (word : Str) : List TRow := rows.filter fun r => decide (r.n ∈ withE rows (foundF rows m word))
def narS (m : Nat) : DSp := fun ds S Q => ∃ (rows : List TRow) (word : Str), ds = [treeD rows, .str word] ∧ Tree rows ∧ rows.length ≤ m ∧ rows.length ≤ 100 ∧ Q (treeD (narF rows m word)) S
theorem found_len {rows : List TRow} (T : Tree rows) (m : Nat) (word : Str) : (foundF rows m word).length ≤ rows.length := Nat.le_trans (List.length_filter_le _ _) (T.below_len m 0)
end ML

set_option maxRecDepth 100000
/-! MN: names, numbers, nodes, trees asked for. -/
namespace ML
open PySem PySem.Spec PyProof.Rows L2
mutual
/-- data with no object in it, no long text -/
def sl : D → Bool
  | .non => true
  | .bl _ => true
  | .int _ => true
  | .str z => decide (z.length ≤ 1000)
  | .tup xs => sls xs
  | .lst xs => sls xs
  | _ => false
def sls : List D → Bool
  | [] => true
  | x :: xs => sl x && sls xs
end
theorem sls_cons {x : D} {xs : List D} (h : sls (x :: xs) = true) : sl x = true ∧ sls xs = true := by
  unfold sls at h; rwa [Bool.and_eq_true] at h
theorem sls_mem : ∀ {xs : List D}, sls xs = true → ∀ x ∈ xs, sl x = true
  | [], _, x, h => by cases h
  | y :: xs, hp, x, h => by
    obtain ⟨h1, h2⟩ := sls_cons hp
    rcases List.mem_cons.mp h with rfl | h
    · exact h1
    · exact sls_mem h2 x h
theorem sls_all : ∀ {xs : List D}, (∀ x ∈ xs, sl x = true) → sls xs = true
  | [], _ => by unfold sls; rfl
  | x :: xs, h => by
    unfold sls
    rw [h x List.mem_cons_self, sls_all fun y hy => h y (List.mem_cons_of_mem _ hy)]; rfl
abbrev LET : Str := "abcdefghijklmnopqrstuvwxyz"
def nameB : D → Bool
  | .str z => decide (1 ≤ (z.length : Int)) && (decide ((z.length : Int) ≤ 6) && z.cps.toList.all fun c => hasW ⟨#[c]⟩ LET)
  | _ => false
def numB (low : Int) : D → Bool
  | .int i => decide (low ≤ i) && decide (i ≤ 999)
  | _ => false
def nodeB : D → Bool
  | .tup [a, b, c] => nameB c && (numB 1 a && numB 0 b)
  | _ => false
def isNameS : DSp := fun ds S Q => ∃ x, ds = [x] ∧ sl x = true ∧ Q (.bl (nameB x)) S
def isNumS : DSp := fun ds S Q => ∃ x low, ds = [x, .int low] ∧ sl x = true ∧ Q (.bl (numB low x)) S
def isNodeS : DSp := fun ds S Q => ∃ x, ds = [x] ∧ sl x = true ∧ Q (.bl (nodeB x)) S
theorem let_has {c : Nat} (h : 97 ≤ c ∧ c ≤ 122) : hasW ⟨#[c]⟩ LET = true := by
  have : ∀ c ∈ List.range' 97 26, hasW ⟨#[c]⟩ LET = true := by decide +kernel
  exact this c (List.mem_range'_1.mpr (by omega))
theorem nameB_ok {z : Str} (h : okName z) : nameB (.str z) = true := by
  obtain ⟨h1, h2, h3⟩ := h
  show (decide (1 ≤ (z.length : Int)) && (decide ((z.length : Int) ≤ 6) && z.cps.toList.all fun c => hasW ⟨#[c]⟩ LET)) = true
  rw [decide_eq_true (by omega), decide_eq_true (by omega), List.all_eq_true.mpr fun c hc => let_has (h3 c hc)]; rfl
/-- a tree that may be handed about -/
structure Good (rows : List TRow) : Prop where
  T : Tree rows
  N : Named rows
  big : ∀ r ∈ rows, r.n ≤ 999
  len : rows.length ≤ 20
theorem Good.pbig {rows : List TRow} (G : Good rows) : ∀ r ∈ rows, 0 ≤ r.p ∧ r.p ≤ 999 := fun r hr => by
  rcases G.T.par r hr with e | e
  · rw [e]; decide
  · obtain ⟨q, hq, e⟩ := List.mem_map.mp e
    have h1 := G.T.pos q hq
    have h2 := G.big q hq
    rw [← e]; omega
theorem Good.node {rows : List TRow} (G : Good rows) {r : TRow} (hr : r ∈ rows) : nodeB (rowD r) = true := by
  have h1 := G.T.pos r hr
  have h2 := G.big r hr
  have h3 := G.pbig r hr
  show (nameB (.str r.s) && (numB 1 (.int r.n) && numB 0 (.int r.p))) = true
  rw [nameB_ok (G.N r hr)]
  show (true && ((decide (1 ≤ r.n) && decide (r.n ≤ 999)) && (decide (0 ≤ r.p) && decide (r.p ≤ 999)))) = true
  rw [decide_eq_true (by omega), decide_eq_true (by omega), decide_eq_true (by omega), decide_eq_true (by omega)]; rfl
theorem sl_row {r : TRow} (h : okName r.s) : sl (rowD r) = true := by
  unfold sl
  refine sls_all (all3 (by unfold sl; rfl) (by unfold sl; rfl) ?_)
  unfold sl
  exact decide_eq_true (by have := h.len; omega)
def isTreeP : DSp := fun ds S Q => ∃ rows, ds = [treeD rows] ∧ Good rows ∧ Q (.bl true) S
theorem zip_inc : ∀ {ns : List Int}, ns.Pairwise (· < ·) → ∀ p ∈ ns.dropLast.zip (ns.drop 1), p.1 < p.2
  | [], _, p, h => by cases h
  | [a], _, p, h => by cases h
  | a :: b :: ns, hp, p, h => by
    obtain ⟨h1, h2⟩ := List.pairwise_cons.mp hp
    rw [List.dropLast_cons₂, show (a :: b :: ns).drop 1 = b :: ns from rfl] at h
    rw [List.zip_cons_cons] at h
    rcases List.mem_cons.mp h with rfl | h
    · exact h1 b List.mem_cons_self
    · exact zip_inc h2 p h
theorem zipD_ints (xs ys : List Int) : zipD (xs.map D.int) (ys.map D.int) = (xs.zip ys).map fun p => D.tup [.int p.1, .int p.2] := by
  unfold zipD
  rw [List.zip_map, List.map_map]
  rfl
/-! ### a part of a tree -/
theorem mem_withE {rows : List TRow} {xs : List Int} {n : Int} : n ∈ withE rows xs ↔ ∃ x ∈ xs, n = x ∨ n ∈ eldL rows x := by
  unfold withE
  rw [List.mem_flatMap]
  constructor
  · rintro ⟨x, hx, h⟩
    rcases List.mem_append.mp h with h | h
    · exact ⟨x, hx, .inr h⟩
    · exact ⟨x, hx, .inl (List.mem_singleton.mp h)⟩
  · rintro ⟨x, hx, rfl | h⟩
    · exact ⟨n, hx, List.mem_append_right _ (List.mem_singleton.mpr rfl)⟩
    · exact ⟨x, hx, List.mem_append_left _ h⟩
theorem mem_unfE {rows : List TRow} {xs : List Int} {n : Int} : n ∈ unfE rows xs ↔ ∃ x ∈ xs, n ∈ eldL rows x := by
  unfold unfE
  rw [List.mem_flatMap]
theorem filter_tree {rows : List TRow} (T : Tree rows) {p : Int → Bool} (h : ∀ r ∈ rows, p r.n = true → r.p = 0 ∨ p r.p = true) : Tree (rows.filter fun r => p r.n) := by
  have sub : ∀ r ∈ rows.filter fun r => p r.n, r ∈ rows := fun r hr => (List.mem_filter.mp hr).1
  refine ⟨T.inc.sublist ((List.filter_sublist (l := rows)).map _), fun r hr => T.pos r (sub r hr), let ⟨rk, hk⟩ := T.rank; ⟨rk, fun r hr => hk r (sub r hr)⟩, fun r hr => ?_⟩
  obtain ⟨h1, h2⟩ := List.mem_filter.mp hr
  rcases h r h1 h2 with e | e
  · exact .inl e
  · rcases T.par r h1 with e0 | e0
    · exact .inl e0
    · obtain ⟨q, hq, e3⟩ := List.mem_map.mp e0
      exact .inr (List.mem_map.mpr ⟨q, List.mem_filter.mpr ⟨hq, by rw [show q.n = r.p from e3]; exact e⟩, e3⟩)
theorem nar_tree {rows : List TRow} (T : Tree rows) (xs : List Int) : Tree (rows.filter fun r => decide (r.n ∈ withE rows xs)) := by
  refine filter_tree T (p := fun n => decide (n ∈ withE rows xs)) fun r hr h => ?_
  by_cases h0 : r.p = 0
  · exact .inl h0
  · right
    obtain ⟨x, hx, e⟩ := mem_withE.mp (of_decide_eq_true h)
    refine decide_eq_true (mem_withE.mpr ⟨x, hx, .inr ((mem_eldL T).mpr ⟨?_, h0⟩)⟩)
    rcases e with e | e
    · rw [← e]; exact .one hr
    · exact ((mem_eldL T).mp e).1.trans (.one hr)
theorem nar_good {rows : List TRow} (G : Good rows) (m : Nat) (word : Str) : Good (narF rows m word) := by
  have sub : ∀ r ∈ narF rows m word, r ∈ rows := fun r hr => (List.mem_filter.mp hr).1
  exact ⟨nar_tree G.T _, fun r hr => G.N r (sub r hr), fun r hr => G.big r (sub r hr), Nat.le_trans (List.length_filter_le _ _) G.len⟩
theorem up_last {rows : List TRow} {x n : Int} (u : Up rows x n) : ∃ q ∈ rows, q.p = n ∧ (q.n = x ∨ Up rows x q.n) := by
  induction u with
  | @one r hr => exact ⟨r, hr, rfl, .inl rfl⟩
  | @step r n hr _ ih =>
    obtain ⟨q, hq, e, h⟩ := ih
    refine ⟨q, hq, e, .inr ?_⟩
    rcases h with h | h
    · rw [h]; exact .one hr
    · exact .step hr h
theorem nar_leaf {rows : List TRow} (T : Tree rows) {m : Nat} {word : Str} {r : TRow} (hr : r ∈ narF rows m word) (hk : kidsF (narF rows m word) r.n = []) : hasW word r.s = true := by
  obtain ⟨h1, h2⟩ := List.mem_filter.mp hr
  obtain ⟨x, hx, e⟩ := mem_withE.mp (of_decide_eq_true h2)
  rcases e with e | e
  · have h3 := (List.mem_filter.mp hx).2
    rw [← e] at h3
    have : nameOf rows r.n = r.s := by unfold nameOf; rw [row_in T h1]; rfl
    rwa [this] at h3
  · exfalso
    obtain ⟨q, hq, e1, e2⟩ := up_last ((mem_eldL T).mp e).1
    have q0 : q.n ≠ 0 := by have := T.pos q hq; omega
    have hqn : q ∈ narF rows m word := by
      refine List.mem_filter.mpr ⟨hq, decide_eq_true (mem_withE.mpr ⟨x, hx, ?_⟩)⟩
      rcases e2 with e2 | e2
      · exact .inl e2
      · exact .inr ((mem_eldL T).mpr ⟨e2, q0⟩)
    have : q.n ∈ kidsF (narF rows m word) r.n := mem_kids.mpr ⟨q, hqn, rfl, e1⟩
    rw [hk] at this
    cases this
end ML

set_option maxRecDepth 100000
/-! MF: a part of a tree that is closed towards the top: its kids, what is below, its elders. -/
namespace ML
open PySem PySem.Spec PyProof.Rows L2
theorem prSort_filter (l : List Pr) (q : Pr → Bool) : prSort (l.filter q) = (prSort l).filter q :=
  (prSort_uniq ((prSort_perm l).filter q) ((prSort_sorted l).sublist List.filter_sublist)).symm
theorem kids_filter (rows : List TRow) (p : Int → Bool) (n : Int) : kidsF (rows.filter fun r => p r.n) n = (kidsF rows n).filter p := by
  unfold kidsF
  have e : prsOf (rows.filter fun r => p r.n) n = (prsOf rows n).filter fun x => p x.2 := by
    unfold prsOf
    rw [List.filter_map, List.filter_filter, List.filter_filter]
    congr 1
    refine List.filter_congr fun r _ => ?_
    rw [Bool.and_comm]
    rfl
  rw [e, prSort_filter, List.filter_map]
  rfl
/-- p is closed towards the top -/
def Cls (rows : List TRow) (p : Int → Bool) : Prop := ∀ r ∈ rows, p r.n = true → r.p = 0 ∨ p r.p = true
theorem Cls.up {rows : List TRow} (T : Tree rows) {p : Int → Bool} (h : Cls rows p) {x n : Int} (u : Up rows x n) (hp : p x = true) (h0 : n ≠ 0) : p n = true := by
  induction u with
  | one hr => exact (h _ hr hp).resolve_left h0
  | @step r n hr u ih =>
    rcases h r hr hp with e | e
    · rw [e] at u
      obtain ⟨q, hq, e2⟩ := List.mem_map.mp u.mem
      have := T.pos q hq
      omega
    · exact ih e h0
theorem flat_filter {l : List Int} {p : Int → Bool} {b : Int → List Int} (h : ∀ k ∈ l, p k = false → (b k).filter p = []) : (l.flatMap fun k => k :: b k).filter p = (l.filter p).flatMap fun k => k :: (b k).filter p := by
  induction l with
  | nil => rfl
  | cons a l ih =>
    have ih := ih fun k hk => h k (List.mem_cons_of_mem _ hk)
    rw [List.flatMap_cons, List.filter_append, ih]
    cases e : p a with
    | true => rw [List.filter_cons_of_pos e, List.filter_cons_of_pos e, List.flatMap_cons]
    | false => rw [List.filter_cons_of_neg (by rw [e]; decide), h a List.mem_cons_self e, List.filter_cons_of_neg (by rw [e]; decide), List.nil_append]
theorem below_filter {rows : List TRow} (T : Tree rows) {p : Int → Bool} (h : Cls rows p) : ∀ (m : Nat) (n : Int), belowF (rows.filter fun r => p r.n) m n = (belowF rows m n).filter p
  | 0, _ => rfl
  | m + 1, n => by
    unfold belowF
    rw [flat_filter, kids_filter]
    · congr 1
      funext k
      rw [below_filter T h m k]
    · intro k hk hp
      refine List.filter_eq_nil_iff.mpr fun x hx hpx => ?_
      obtain ⟨r, hr, e1, _⟩ := mem_kids.mp hk
      have hk0 : k ≠ 0 := by have := T.pos r hr; omega
      rw [h.up T (up_of_below hx) hpx hk0] at hp
      cases hp
theorem rowOf_filter {rows : List TRow} {p : Int → Bool} {n : Int} (h : p n = true) : rowOf (rows.filter fun r => p r.n) n = rowOf rows n := by
  unfold rowOf
  rw [List.find?_filter]
  congr 1
  funext r
  by_cases e : r.n = n
  · rw [decide_eq_true e, e, h]; rfl
  · simp [e]
theorem up_filter {rows : List TRow} (T : Tree rows) {p : Int → Bool} (h : Cls rows p) {x n : Int} (u : Up rows x n) (hp : p x = true) : Up (rows.filter fun r => p r.n) x n := by
  induction u with
  | one hr => exact .one (List.mem_filter.mpr ⟨hr, hp⟩)
  | @step r n hr u ih =>
    refine .step (List.mem_filter.mpr ⟨hr, hp⟩) (ih ?_)
    rcases h r hr hp with e | e
    · rw [e] at u
      obtain ⟨q, hq, e2⟩ := List.mem_map.mp u.mem
      have := T.pos q hq
      omega
    · exact e
theorem Up.of_filter {rows : List TRow} {q : TRow → Bool} {x n : Int} (u : Up (rows.filter q) x n) : Up rows x n := by
  induction u with
  | one hr => exact .one (List.mem_filter.mp hr).1
  | step hr _ ih => exact .step (List.mem_filter.mp hr).1 ih
theorem eld_filter {rows : List TRow} (T : Tree rows) {p : Int → Bool} (h : Cls rows p) {x e : Int} (hp : p x = true) : e ∈ eldL (rows.filter fun r => p r.n) x ↔ e ∈ eldL rows x := by
  rw [mem_eldL (filter_tree T h), mem_eldL T]
  exact ⟨fun ⟨u, z⟩ => ⟨u.of_filter, z⟩, fun ⟨u, z⟩ => ⟨up_filter T h u hp, z⟩⟩
theorem nodup_perm : ∀ {xs ys : List Int}, xs.Nodup → ys.Nodup → (∀ x, x ∈ xs ↔ x ∈ ys) → xs.Perm ys
  | [], ys, _, _, h => by
    cases ys with
    | nil => exact .nil
    | cons y ys => exact absurd ((h y).mpr List.mem_cons_self) (by simp)
  | x :: xs, ys, h1, h2, h => by
    obtain ⟨n1, n2⟩ := List.nodup_cons.mp h1
    have hx : x ∈ ys := (h x).mp List.mem_cons_self
    have p1 := List.perm_cons_erase hx
    have := nodup_perm (ys := ys.erase x) n2 (h2.erase x) fun y => by
      constructor
      · intro hy
        exact (List.mem_erase_of_ne (fun e : y = x => n1 (e ▸ hy))).mpr ((h y).mp (List.mem_cons_of_mem _ hy))
      · intro hy
        have hy2 := (h y).mpr (List.mem_of_mem_erase hy)
        rcases List.mem_cons.mp hy2 with e | e
        · subst e; exact absurd hy (h2.not_mem_erase)
        · exact e
    exact (this.cons x).trans p1.symm
theorem Tree.below_perm {rows : List TRow} (T : Tree rows) {m : Nat} (hm : rows.length ≤ m) : (belowF rows m 0).Perm (ids rows) := by
  obtain ⟨rk, hk⟩ := T.rank
  exact nodup_perm (below_nodup T.nd hk m 0) T.nd fun x => T.all_below hm
theorem ids_filter (rows : List TRow) (p : Int → Bool) : ids (rows.filter fun r => p r.n) = (ids rows).filter p := by
  show (rows.filter _).map _ = (rows.map _).filter p
  rw [List.filter_map]
  rfl
/-- what the sorted ones below are -/
theorem sort_below {rows : List TRow} (T : Tree rows) {m : Nat} (hm : rows.length ≤ m) (p : Int → Bool) {ns : List Int} (h1 : ns.Perm ((belowF rows m 0).filter p)) (h2 : ns.Pairwise (· ≤ ·)) : ns = ids (rows.filter fun r => p r.n) := by
  rw [ids_filter]
  refine sorted_uniq (le := fun a b : Int => a ≤ b) (fun a b => Int.le_antisymm) (h1.trans ((T.below_perm hm).filter p)) h2 ?_
  exact (T.inc.imp fun h => Int.le_of_lt h).sublist List.filter_sublist
theorem with_cls {rows : List TRow} (T : Tree rows) (xs : List Int) : Cls rows fun n => decide (n ∈ withE rows xs) := fun r hr h => by
  by_cases h0 : r.p = 0
  · exact .inl h0
  · right
    obtain ⟨x, hx, e⟩ := mem_withE.mp (of_decide_eq_true h)
    refine decide_eq_true (mem_withE.mpr ⟨x, hx, .inr ((mem_eldL T).mpr ⟨?_, h0⟩)⟩)
    rcases e with e | e
    · rw [← e]; exact .one hr
    · exact ((mem_eldL T).mp e).1.trans (.one hr)
theorem nameOf_filter {rows : List TRow} {p : Int → Bool} {n : Int} (h : p n = true) : nameOf (rows.filter fun r => p r.n) n = nameOf rows n := by
  unfold nameOf; rw [rowOf_filter h]
theorem found_nar {rows : List TRow} (T : Tree rows) {m : Nat} (w : Str) : foundF (narF rows m w) m w = foundF rows m w := by
  have hc := with_cls T (foundF rows m w)
  unfold foundF at hc ⊢
  show (belowF (rows.filter fun r => decide (r.n ∈ withE rows (foundF rows m w))) m 0).filter _ = _
  rw [below_filter (p := fun n => decide (n ∈ withE rows (foundF rows m w))) T (with_cls T _), List.filter_filter]
  refine List.filter_congr fun n hn => ?_
  by_cases h : n ∈ withE rows (foundF rows m w)
  · rw [decide_eq_true h, Bool.and_true]
    show hasW w (nameOf (rows.filter fun r => decide (r.n ∈ withE rows (foundF rows m w))) n) = _
    rw [nameOf_filter (p := fun n => decide (n ∈ withE rows (foundF rows m w))) (decide_eq_true h)]
  · rw [decide_eq_false h, Bool.and_false]
    cases e : hasW w (nameOf rows n) with
    | false => rfl
    | true => exact absurd (mem_withE.mpr ⟨n, List.mem_filter.mpr ⟨hn, e⟩, .inl rfl⟩) h
theorem nar_nar {rows : List TRow} (T : Tree rows) {m : Nat} (w : Str) : narF (narF rows m w) m w = narF rows m w := by
  show (narF rows m w).filter (fun r => decide (r.n ∈ withE (narF rows m w) (foundF (narF rows m w) m w))) = _
  rw [found_nar T]
  refine List.filter_eq_self.mpr fun r hr => decide_eq_true ?_
  obtain ⟨h1, h2⟩ := List.mem_filter.mp hr
  obtain ⟨x, hx, e⟩ := mem_withE.mp (of_decide_eq_true h2)
  refine mem_withE.mpr ⟨x, hx, ?_⟩
  rcases e with e | e
  · exact .inl e
  · exact .inr ((eld_filter (p := fun n => decide (n ∈ withE rows (foundF rows m w))) T (with_cls T _) (decide_eq_true (mem_withE.mpr ⟨x, hx, .inl rfl⟩))).mpr e)
end ML

set_option maxRecDepth 100000
/-! MG: short roads: data compared, comprehensions by an invariant. -/
namespace ML
open PySem PySem.Spec PyProof.Rows L2
theorem exEq {x y : D} {S : Mem} {K : PyData → PyData → Prop} (hx : PuD x) (hy : PuD y) (h : ∀ p q, PyData.eqv p q = sm x y → K p q) : ∃ p q, toPyM S x = some p ∧ toPyM S y = some q ∧ SeqAt.shaped p = true ∧ SeqAt.shaped q = true ∧ K p q := by
  obtain ⟨p, q, f1, f2, f3, f4, f5⟩ := eqF S hx hy
  exact ⟨p, q, f1, f2, f3, f4, h p q f5⟩
theorem exSame {x : D} {S : Mem} {K : PyData → PyData → Prop} (hx : PuD x) (h : ∀ p q, PyData.eqv p q = true → K p q) : ∃ p q, toPyM S x = some p ∧ toPyM S x = some q ∧ SeqAt.shaped p = true ∧ SeqAt.shaped q = true ∧ K p q :=
  exEq hx hx fun p q e => h p q (by rw [e, sm_self])
theorem exIn {x y : D} {ys : List D} {S : Mem} {K : PyData → PyData → List PyData → Prop} (hy : y = .tup ys ∨ y = .lst ys) (py : PuD y) (px : PuD x) (h : ∀ d e ds, (ds.any fun z => PyData.eqv z d) = (ys.any fun z => sm z x) → K d e ds) : ∃ d e ds, toPyM S x = some d ∧ toPy y = some e ∧ pyItems e = some ds ∧ SeqAt.shaped d = true ∧ SeqAt.shaped e = true ∧ K d e ds := by
  obtain ⟨d, e, ds, f1, f2, f3, f4, f5, f6⟩ := inF S hy py px
  exact ⟨d, e, ds, f1, f2, f3, f4, f5, h d e ds f6⟩
theorem exInT {i : Int} {ns : List Int} {S : Mem} {K : PyData → PyData → List PyData → Prop} (h : ∀ d e ds, (ds.any fun z => PyData.eqv z d) = decide (i ∈ ns) → K d e ds) : ∃ d e ds, toPyM S (.int i) = some d ∧ toPy (.tup (ns.map D.int)) = some e ∧ pyItems e = some ds ∧ SeqAt.shaped d = true ∧ SeqAt.shaped e = true ∧ K d e ds := by
  obtain ⟨d, e, ds, f1, f2, f3, f4, f5, f6⟩ := inIntsF S i (y := intsT ns) (.inl rfl)
  exact ⟨d, e, ds, f1, f2, f3, f4, f5, h d e ds f6⟩
theorem exInL {i : Int} {ns : List Int} {S : Mem} {K : PyData → PyData → List PyData → Prop} (h : ∀ d e ds, (ds.any fun z => PyData.eqv z d) = decide (i ∈ ns) → K d e ds) : ∃ d e ds, toPyM S (.int i) = some d ∧ toPy (.lst (ns.map D.int)) = some e ∧ pyItems e = some ds ∧ SeqAt.shaped d = true ∧ SeqAt.shaped e = true ∧ K d e ds := by
  obtain ⟨d, e, ds, f1, f2, f3, f4, f5, f6⟩ := inIntsF S i (y := intsL ns) (.inr rfl)
  exact ⟨d, e, ds, f1, f2, f3, f4, f5, h d e ds f6⟩
theorem PuD.intsT (ns : List Int) : PuD (.tup (ns.map D.int)) := PuD.tup (ints_pu ns)
theorem PuD.intsL (ns : List Int) : PuD (.lst (ns.map D.int)) := PuD.lst (ints_pu ns)
theorem pu_row {r : TRow} (h : okName r.s) : pu (rowD r) = true ∧ dep (rowD r) ≤ 20 := by
  constructor
  · exact pu_tup (all3 (by unfold pu; rfl) (by unfold pu; rfl) (by unfold pu; exact h.ok))
  · show dep (.tup [.int r.n, .int r.p, .str r.s]) ≤ 20
    unfold dep deps dep deps dep deps dep; decide
theorem PuD.rowD {r : TRow} (h : okName r.s) : PuD (rowD r) := ⟨(pu_row h).1, by have := (pu_row h).2; omega⟩
theorem PuD.tree {rows : List TRow} (h : Named rows) : PuD (treeD rows) := PuD.tup fun x hx => by
  obtain ⟨r, hr, rfl⟩ := List.mem_map.mp hx
  exact pu_row (h r hr)
/-- a comprehension by an invariant: what is left, what is gathered, the memory -/
theorem lcL_inv {α : Type} {vs : List Nat} {b : DG} {t : DT} {e : DE} {r : En} {Q : WK} {enc : α → D} (I : List α → List D → Mem → Prop)
    (h : ∀ x rest acc S (nx : List D → Mem → Prop), I (x :: rest) acc S → (∀ acc' S', I rest acc' S' → nx acc' S') → b (enc x) (wipeD r vs) S fun r1 S1 => t r1 S1 fun c S2 => match c with
      | true => e r1 S2 fun y S3 => nx (acc ++ [y]) S3
      | false => nx acc S2)
    (hd : ∀ acc S, I [] acc S → Q (.lst acc) S) : ∀ (xs : List α) (acc : List D) (S : Mem), I xs acc S → lcL none vs b t e r Q (xs.map enc) acc S
  | [], acc, S, q => by rw [List.map_nil, lcL_nil]; exact hd acc S q
  | x :: xs, acc, S, q => by
    rw [List.map_cons, lcL_cons]
    exact h x xs acc S _ q fun acc' S' q' => lcL_inv I h hd xs acc' S' q'
theorem all_true {α : Type} (xs : List α) : (xs.map fun _ => true).all id = true := by rw [List.all_map]; exact List.all_eq_true.mpr fun _ _ => rfl
/-- all([..]) of a list of which each is true -/
theorem oAll_true {α : Type} (xs : List α) {S : Mem} {Q : WK} (q : Q (.bl true) S) : oAll [.lst ([] ++ xs.map fun _ => D.bl true)] S Q := by
  refine ⟨xs.map fun _ => true, by rw [List.nil_append, List.map_map]; rfl, ?_⟩
  rw [all_true]
  exact q
theorem sm_mem {x : D} {ys : List D} (h : x ∈ ys) : (ys.any fun z => sm z x) = true := List.any_eq_true.mpr ⟨x, h, sm_self x⟩
theorem sm_nmem {x : D} {ys : List D} (h : x ∉ ys) : (ys.any fun z => sm z x) = false := List.any_eq_false.mpr fun z hz e => h (by rw [← sm_iff.mp e]; exact hz)
end ML

set_option maxRecDepth 100000
/-! MC: trees that change, with no program in sight; what the defs that change them promise. -/
namespace ML
open PySem PySem.Spec PyProof.Rows L2
/-- rising lists with the same members are the same -/
theorem ext_inc {α : Type} (f : α → Int) : ∀ {a b : List α}, (a.map f).Pairwise (· < ·) → (b.map f).Pairwise (· < ·) → (∀ r, r ∈ a ↔ r ∈ b) → a = b
  | [], [], _, _, _ => rfl
  | [], y :: b, _, _, h => by have := (h y).mpr List.mem_cons_self; cases this
  | x :: a, [], _, _, h => by have := (h x).mp List.mem_cons_self; cases this
  | x :: a, y :: b, h1, h2, h => by
    rw [List.map_cons] at h1 h2
    obtain ⟨a1, a2⟩ := List.pairwise_cons.mp h1
    obtain ⟨b1, b2⟩ := List.pairwise_cons.mp h2
    have e : x = y := by
      rcases List.mem_cons.mp ((h x).mp List.mem_cons_self) with q | q
      · exact q
      · rcases List.mem_cons.mp ((h y).mpr List.mem_cons_self) with q' | q'
        · exact q'.symm
        · have l1 := b1 _ (List.mem_map.mpr ⟨x, q, rfl⟩)
          have l2 := a1 _ (List.mem_map.mpr ⟨y, q', rfl⟩)
          omega
    subst e
    rw [ext_inc f a2 b2 fun r => ?_]
    constructor
    · intro hr
      rcases List.mem_cons.mp ((h r).mp (List.mem_cons_of_mem _ hr)) with q | q
      · have := a1 _ (List.mem_map.mpr ⟨r, hr, rfl⟩); rw [q] at this; omega
      · exact q
    · intro hr
      rcases List.mem_cons.mp ((h r).mpr (List.mem_cons_of_mem _ hr)) with q | q
      · have := b1 _ (List.mem_map.mpr ⟨r, hr, rfl⟩); rw [q] at this; omega
      · exact q
theorem inc_ext {a b : List Int} (ha : a.Pairwise (· < ·)) (hb : b.Pairwise (· < ·)) (h : ∀ x, x ∈ a ↔ x ∈ b) : a = b :=
  ext_inc id (by rwa [List.map_id]) (by rwa [List.map_id]) h
theorem Tree.ext {a b : List TRow} (ha : Tree a) (hb : Tree b) (h : ∀ r, r ∈ a ↔ r ∈ b) : a = b := ext_inc (·.n) ha.inc hb.inc h
theorem inc_of {ns : List Int} (h1 : ns.Pairwise (· ≤ ·)) (h2 : ns.Nodup) : ns.Pairwise (· < ·) := by
  induction ns with
  | nil => exact .nil
  | cons a ns ih =>
    obtain ⟨a1, a2⟩ := List.pairwise_cons.mp h1
    obtain ⟨b1, b2⟩ := List.nodup_cons.mp h2
    refine List.pairwise_cons.mpr ⟨fun x hx => ?_, ih a2 b2⟩
    have := a1 x hx
    have : a ≠ x := fun e => b1 (e ▸ hx)
    omega
theorem Tree.not0 {rows : List TRow} (T : Tree rows) : (0 : Int) ∉ ids rows := fun h => by
  obtain ⟨r, hr, e⟩ := List.mem_map.mp h
  have := T.pos r hr
  have e : r.n = 0 := e
  omega
theorem Tree.ne0 {rows : List TRow} (T : Tree rows) {x : Int} (h : x ∈ ids rows) : x ≠ 0 := fun e => T.not0 (e ▸ h)
theorem rowOf_none {rows : List TRow} {n : Int} (h : n ∉ ids rows) : rowOf rows n = none := by
  cases q : rowOf rows n with
  | none => rfl
  | some r => obtain ⟨h1, h2⟩ := rowOf_mem q; exact absurd (List.mem_map.mpr ⟨r, h1, h2⟩) h
theorem mem_ids {rows : List TRow} {n : Int} (h : n ∈ ids rows) : ∃ r ∈ rows, r.n = n := by
  obtain ⟨r, hr, e⟩ := List.mem_map.mp h
  exact ⟨r, hr, e⟩
theorem ids_mem {rows : List TRow} {r : TRow} (h : r ∈ rows) : r.n ∈ ids rows := List.mem_map.mpr ⟨r, h, rfl⟩
/-! ### put -/
def putF (rows : List TRow) (n p : Int) (s : Str) : List TRow := (rows.filter fun r => decide (r.n < n)) ++ ⟨n, p, s⟩ :: rows.filter fun r => decide (n < r.n)
theorem mem_put {rows : List TRow} {n p : Int} {s : Str} (h : n ∉ ids rows) {r : TRow} : r ∈ putF rows n p s ↔ r = ⟨n, p, s⟩ ∨ r ∈ rows := by
  unfold putF
  rw [List.mem_append, List.mem_cons, List.mem_filter, List.mem_filter]
  constructor
  · rintro (h | h | h)
    · exact .inr h.1
    · exact .inl h
    · exact .inr h.1
  · rintro (e | e)
    · exact .inr (.inl e)
    · have : r.n ≠ n := fun z => h (List.mem_map.mpr ⟨r, e, z⟩)
      by_cases hl : r.n < n
      · exact .inl ⟨e, decide_eq_true hl⟩
      · exact .inr (.inr ⟨e, decide_eq_true (by omega)⟩)
theorem put_inc {rows : List TRow} (h : (ids rows).Pairwise (· < ·)) (n p : Int) (s : Str) : (ids (putF rows n p s)).Pairwise (· < ·) := by
  have f1 : ∀ q : TRow → Bool, (ids (rows.filter q)).Pairwise (· < ·) := fun q => h.sublist ((List.filter_sublist (l := rows)).map _)
  unfold putF ids
  rw [List.map_append, List.map_cons, List.pairwise_append, List.pairwise_cons]
  have m1 : ∀ x ∈ (rows.filter fun r => decide (r.n < n)).map (·.n), x < n := fun x hx => by
    obtain ⟨r, hr, rfl⟩ := List.mem_map.mp hx
    exact of_decide_eq_true (List.mem_filter.mp hr).2
  have m2 : ∀ x ∈ (rows.filter fun r => decide (n < r.n)).map (·.n), n < x := fun x hx => by
    obtain ⟨r, hr, rfl⟩ := List.mem_map.mp hx
    exact of_decide_eq_true (List.mem_filter.mp hr).2
  refine ⟨f1 _, ⟨m2, f1 _⟩, fun a ha b hb => ?_⟩
  have := m1 a ha
  rcases List.mem_cons.mp hb with e | hb
  · rw [e]; exact this
  · have := m2 b hb; omega
theorem rows_sorted {rows : List TRow} {n p : Int} {s : Str} {ys : List D} (hi : (ids rows).Pairwise (· < ·)) (h : n ∉ ids rows) (hp : ys.Perm ((rows ++ [(⟨n, p, s⟩ : TRow)]).map rowD)) (hs : ys.Pairwise fun a b => kLt (keyD b) (keyD a) = false) : ys = (putF rows n p s).map rowD := by
  obtain ⟨m, h1, rfl⟩ := perm_lift hp _ rfl
  refine congrArg (List.map rowD) (ext_inc (·.n) (inc_of ?_ ?_) (put_inc hi n p s) fun r => ?_)
  · refine List.pairwise_map.mpr ((List.pairwise_map.mp hs).imp fun {a b} hh => ?_)
    have := (lex_false.mp hh).1
    have : decide (b.n < a.n) = false := this
    have := of_decide_eq_false this
    omega
  · refine ((h1.map (·.n)).nodup_iff).mpr ?_
    rw [List.map_append, List.nodup_append]
    refine ⟨hi.imp fun h => Int.ne_of_lt h, by simp, fun a ha b hb => ?_⟩
    have : b = n := List.mem_singleton.mp hb
    subst this
    exact fun e => h (e ▸ ha)
  · rw [h1.mem_iff, mem_put h, List.mem_append, List.mem_singleton]
    exact ⟨fun z => z.elim .inr .inl, fun z => z.elim .inr .inl⟩
theorem put_tree {rows : List TRow} (T : Tree rows) {n p : Int} (s : Str) (h : n ∉ ids rows) (hn : 0 < n) (hp : p = 0 ∨ p ∈ ids rows) : Tree (putF rows n p s) := by
  refine ⟨put_inc T.inc n p s, fun r hr => ?_, ?_, fun r hr => ?_⟩
  · rcases (mem_put h).mp hr with e | e
    · rw [e]; exact hn
    · exact T.pos r e
  · obtain ⟨rk, hk⟩ := T.rank
    refine ⟨fun x => if x = n then rk p + 1 else rk x, fun r hr => ?_⟩
    have hpn : p ≠ n := fun e => hp.elim (fun z => by omega) (fun z => h (e ▸ z))
    rcases (mem_put h).mp hr with e | e
    · rw [e]
      show (if p = n then rk p + 1 else rk p) < if n = n then rk p + 1 else rk n
      rw [if_neg hpn, if_pos rfl]; omega
    · have h1 : r.n ≠ n := fun z => h (z ▸ ids_mem e)
      have h2 : r.p ≠ n := fun z => (T.par r e).elim (fun q => by omega) (fun q => h (z ▸ q))
      show (if r.p = n then rk p + 1 else rk r.p) < if r.n = n then rk p + 1 else rk r.n
      rw [if_neg h1, if_neg h2]; exact hk r e
  · have up : ∀ x, x ∈ ids rows → x ∈ ids (putF rows n p s) := fun x hx => by
      obtain ⟨q, hq, e⟩ := mem_ids hx
      exact List.mem_map.mpr ⟨q, (mem_put h).mpr (.inr hq), e⟩
    rcases (mem_put h).mp hr with e | e
    · rw [e]; exact hp.imp id (up p)
    · exact (T.par r e).imp id (up _)
theorem put_len {rows : List TRow} (h : (ids rows).Pairwise (· < ·)) {n p : Int} {s : Str} (hn : n ∉ ids rows) : (putF rows n p s).length = rows.length + 1 := by
  have : ∀ rows : List TRow, n ∉ ids rows → (rows.filter fun r => decide (r.n < n)).length + (rows.filter fun r => decide (n < r.n)).length = rows.length := by
    intro rows
    induction rows with
    | nil => intro _; rfl
    | cons a rows ih =>
      intro hh
      have h1 : n ≠ a.n := fun z => hh (z ▸ ids_mem List.mem_cons_self)
      have h2 := ih fun z => hh (List.mem_cons_of_mem _ z)
      rw [List.filter_cons, List.filter_cons]
      by_cases hl : a.n < n
      · rw [if_pos (decide_eq_true hl), if_neg (by simp; omega), List.length_cons, List.length_cons]; omega
      · rw [if_neg (by simpa using hl), if_pos (decide_eq_true (by omega)), List.length_cons, List.length_cons]; omega
  unfold putF
  rw [List.length_append, List.length_cons]
  have := this rows hn
  omega
/-! ### renamed, moved -/
def renF (rows : List TRow) (n : Int) (s : Str) : List TRow := rows.map fun r => if r.n = n then ⟨r.n, r.p, s⟩ else r
def movF (rows : List TRow) (n p : Int) : List TRow := rows.map fun r => if r.n = n then ⟨r.n, p, r.s⟩ else r
theorem ids_ren (rows : List TRow) (n : Int) (s : Str) : ids (renF rows n s) = ids rows := by
  unfold renF ids
  rw [List.map_map]
  refine List.map_congr_left fun r _ => ?_
  show (if r.n = n then (⟨r.n, r.p, s⟩ : TRow) else r).n = r.n
  split <;> rfl
theorem ids_mov (rows : List TRow) (n p : Int) : ids (movF rows n p) = ids rows := by
  unfold movF ids
  rw [List.map_map]
  refine List.map_congr_left fun r _ => ?_
  show (if r.n = n then (⟨r.n, p, r.s⟩ : TRow) else r).n = r.n
  split <;> rfl
theorem mem_ren {rows : List TRow} {n : Int} {s : Str} {q : TRow} (h : q ∈ renF rows n s) : ∃ r ∈ rows, q.n = r.n ∧ q.p = r.p ∧ (r.n = n → q.s = s) ∧ (r.n ≠ n → q = r) := by
  obtain ⟨r, hr, rfl⟩ := List.mem_map.mp h
  refine ⟨r, hr, ?_⟩
  split
  · next e => exact ⟨rfl, rfl, fun _ => rfl, fun z => absurd e z⟩
  · next e => exact ⟨rfl, rfl, fun z => absurd z e, fun _ => rfl⟩
theorem mem_mov {rows : List TRow} {n p : Int} {q : TRow} (h : q ∈ movF rows n p) : ∃ r ∈ rows, q.n = r.n ∧ q.s = r.s ∧ (r.n = n → q.p = p) ∧ (r.n ≠ n → q = r) := by
  obtain ⟨r, hr, rfl⟩ := List.mem_map.mp h
  refine ⟨r, hr, ?_⟩
  split
  · next e => exact ⟨rfl, rfl, fun _ => rfl, fun z => absurd e z⟩
  · next e => exact ⟨rfl, rfl, fun z => absurd z e, fun _ => rfl⟩
theorem ren_tree {rows : List TRow} (T : Tree rows) (n : Int) (s : Str) : Tree (renF rows n s) := by
  refine ⟨by rw [ids_ren]; exact T.inc, fun q hq => ?_, let ⟨rk, hk⟩ := T.rank; ⟨rk, fun q hq => ?_⟩, fun q hq => ?_⟩
  all_goals obtain ⟨r, hr, e1, e2, _⟩ := mem_ren hq
  · rw [e1]; exact T.pos r hr
  · rw [e1, e2]; exact hk r hr
  · rw [e2, ids_ren]; exact T.par r hr
/-- within n's part of the tree -/
def InT (rows : List TRow) (n x : Int) : Prop := x = n ∨ Up rows x n
open Classical in
theorem mov_tree {rows : List TRow} (T : Tree rows) {n p : Int} (hp : p = 0 ∨ p ∈ ids rows) (hr : ¬ InT rows n p) (hn : n ∈ ids rows) : Tree (movF rows n p) := by
  have n0 := T.ne0 hn
  refine ⟨by rw [ids_mov]; exact T.inc, fun q hq => ?_, ?_, fun q hq => ?_⟩
  · obtain ⟨r, hr, e1, _⟩ := mem_mov hq
    rw [e1]; exact T.pos r hr
  · obtain ⟨rk, hk⟩ := T.rank
    refine ⟨fun x => if InT rows n x then rk x + rk p + 1 else rk x, fun q hq => ?_⟩
    obtain ⟨r, hr2, e1, _, e3, e4⟩ := mem_mov hq
    dsimp only
    by_cases h : r.n = n
    · rw [e1, e3 h, if_neg hr, if_pos (.inl h)]; omega
    · rw [e4 h]
      by_cases hi : InT rows n r.n
      · have : InT rows n r.p := by
          rcases hi with hi | hi
          · exact absurd hi h
          · rcases hi.first T.nd hr2 rfl with z | z
            · exact .inl z
            · exact .inr z
        rw [if_pos hi, if_pos this]
        have := hk r hr2; omega
      · have : ¬ InT rows n r.p := fun z => hi (.inr (by
          rcases z with z | z
          · rw [← z]; exact .one hr2
          · exact .step hr2 z))
        rw [if_neg hi, if_neg this]; exact hk r hr2
  · obtain ⟨r, hr2, e1, _, e3, e4⟩ := mem_mov hq
    rw [ids_mov]
    by_cases h : r.n = n
    · rw [e3 h]; exact hp
    · rw [e4 h]; exact T.par r hr2
/-! ### dropped -/
def drpF (rows : List TRow) (m : Nat) (n : Int) : List TRow := rows.filter fun r => decide (r.n ∉ n :: belowF rows m n)
theorem drp_cls {rows : List TRow} (T : Tree rows) {m : Nat} (hm : rows.length ≤ m) {n : Int} (hn : n ≠ 0) : Cls rows fun x => decide (x ∉ n :: belowF rows m n) := fun r hr h => by
  right
  refine decide_eq_true fun z => of_decide_eq_true h (List.mem_cons_of_mem _ ?_)
  rcases List.mem_cons.mp z with z | z
  · exact below_of_up (T.hgt hm n) (z ▸ .one hr)
  · exact below_of_up (T.hgt hm n) (.step hr (up_of_below z))
theorem drp_tree {rows : List TRow} (T : Tree rows) {m : Nat} (hm : rows.length ≤ m) {n : Int} (hn : n ≠ 0) : Tree (drpF rows m n) := filter_tree T (p := fun x => decide (x ∉ n :: belowF rows m n)) (drp_cls T hm hn)
theorem drp_len (rows : List TRow) (m : Nat) (n : Int) : (drpF rows m n).length ≤ rows.length := List.length_filter_le _ _
/-! ### Good trees -/
theorem put_good {rows : List TRow} (G : Good rows) {n p : Int} {s : Str} (h : n ∉ ids rows) (hn : 0 < n) (hn9 : n ≤ 999) (hp : p = 0 ∨ p ∈ ids rows) (hs : okName s) (hl : rows.length < 20) : Good (putF rows n p s) :=
  ⟨put_tree G.T s h hn hp, fun r hr => ((mem_put h).mp hr).elim (fun e => by rw [e]; exact hs) (G.N r), fun r hr => ((mem_put h).mp hr).elim (fun e => by rw [e]; exact hn9) (G.big r), by rw [put_len G.T.inc h]; omega⟩
theorem ren_good {rows : List TRow} (G : Good rows) (n : Int) {s : Str} (hs : okName s) : Good (renF rows n s) :=
  ⟨ren_tree G.T n s, fun q hq => by
    obtain ⟨r, hr, _, _, e3, e4⟩ := mem_ren hq
    by_cases h : r.n = n
    · rw [e3 h]; exact hs
    · rw [e4 h]; exact G.N r hr, fun q hq => by
    obtain ⟨r, hr, e1, _⟩ := mem_ren hq
    rw [e1]; exact G.big r hr, by unfold renF; rw [List.length_map]; exact G.len⟩
theorem mov_good {rows : List TRow} (G : Good rows) {n p : Int} (hp : p = 0 ∨ p ∈ ids rows) (hr : ¬ InT rows n p) (hn : n ∈ ids rows) : Good (movF rows n p) :=
  ⟨mov_tree G.T hp hr hn, fun q hq => by
    obtain ⟨r, hr, _, e2, _⟩ := mem_mov hq
    rw [e2]; exact G.N r hr, fun q hq => by
    obtain ⟨r, hr, e1, _⟩ := mem_mov hq
    rw [e1]; exact G.big r hr, by unfold movF; rw [List.length_map]; exact G.len⟩
theorem drp_good {rows : List TRow} (G : Good rows) {m : Nat} (hm : rows.length ≤ m) {n : Int} (hn : n ≠ 0) : Good (drpF rows m n) := by
  have sub : ∀ r ∈ drpF rows m n, r ∈ rows := fun r hr => (List.mem_filter.mp hr).1
  exact ⟨drp_tree G.T hm hn, fun r hr => G.N r (sub r hr), fun r hr => G.big r (sub r hr), Nat.le_trans (drp_len rows m n) G.len⟩
theorem inT_below {rows : List TRow} (T : Tree rows) {m : Nat} (hm : rows.length ≤ m) {n x : Int} : InT rows n x ↔ x = n ∨ x ∈ belowF rows m n :=
  ⟨fun h => h.imp id (below_of_up (T.hgt hm n)), fun h => h.imp id up_of_below⟩
/-! ### promises -/
def needX : DSpX := fun ds S Q E => ∃ (rows : List TRow) (n : Int), ds = [treeD rows, .int n] ∧ (n ∈ ids rows → Q .non S) ∧ (n ∉ ids rows → E "NoNode" S)
def needPX : DSpX := fun ds S Q E => ∃ (rows : List TRow) (p : Int), ds = [treeD rows, .int p] ∧ (p = 0 ∨ p ∈ ids rows → Q .non S) ∧ (p ≠ 0 → p ∉ ids rows → E "NoNode" S)
def putX : DSpX := fun ds S Q E => ∃ (rows : List TRow) (n p : Int) (s : Str), ds = [treeD rows, .int n, .int p, .str s] ∧ Tree rows ∧ rows.length ≤ 100 ∧
  (p ≠ 0 → p ∉ ids rows → E "NoNode" S) ∧ ((p = 0 ∨ p ∈ ids rows) → n ∈ ids rows → E "Taken" S) ∧ ((p = 0 ∨ p ∈ ids rows) → n ∉ ids rows → 20 ≤ rows.length → E "TooMany" S) ∧ ((p = 0 ∨ p ∈ ids rows) → n ∉ ids rows → rows.length < 20 → Q (treeD (putF rows n p s)) S)
def renX : DSpX := fun ds S Q E => ∃ (rows : List TRow) (n : Int) (s : Str), ds = [treeD rows, .int n, .str s] ∧ (n ∈ ids rows → Q (treeD (renF rows n s)) S) ∧ (n ∉ ids rows → E "NoNode" S)
def movX (m : Nat) : DSpX := fun ds S Q E => ∃ (rows : List TRow) (n p : Int), ds = [treeD rows, .int n, .int p] ∧ Tree rows ∧ rows.length ≤ m ∧ rows.length ≤ 10000 ∧
  (n ∉ ids rows → E "NoNode" S) ∧ (n ∈ ids rows → p ≠ 0 → p ∉ ids rows → E "NoNode" S) ∧ (n ∈ ids rows → (p = 0 ∨ p ∈ ids rows) → InT rows n p → E "Ring" S) ∧ (n ∈ ids rows → (p = 0 ∨ p ∈ ids rows) → ¬ InT rows n p → Q (treeD (movF rows n p)) S)
def drpX (m : Nat) : DSpX := fun ds S Q E => ∃ (rows : List TRow) (n : Int), ds = [treeD rows, .int n] ∧ Tree rows ∧ rows.length ≤ m ∧ rows.length ≤ 10000 ∧ (n ∉ ids rows → E "NoNode" S) ∧ (n ∈ ids rows → Q (treeD (drpF rows m n)) S)
/-! ### touched -/
open Classical in
noncomputable def touH (one other : List TRow) : List Int := (one.filter fun r => decide (r ∉ other)).flatMap fun r => 0 :: eldL one r.n
noncomputable def touL (one other : List TRow) : List Int := touH one other ++ touH other one
open Classical in
theorem mem_touH {one other : List TRow} {x : Int} : x ∈ touH one other ↔ ∃ r ∈ one, r ∉ other ∧ (x = 0 ∨ x ∈ eldL one r.n) := by
  unfold touH
  rw [List.mem_flatMap]
  constructor
  · rintro ⟨r, hr, h⟩
    obtain ⟨h1, h2⟩ := List.mem_filter.mp hr
    exact ⟨r, h1, of_decide_eq_true h2, List.mem_cons.mp h⟩
  · rintro ⟨r, h1, h2, h⟩
    exact ⟨r, List.mem_filter.mpr ⟨h1, decide_eq_true h2⟩, List.mem_cons.mpr h⟩
theorem mem_tou {one other : List TRow} {x : Int} : x ∈ touL one other ↔ x ∈ touH one other ∨ x ∈ touH other one := by
  unfold touL
  exact List.mem_append
theorem tou_comm {one other : List TRow} {x : Int} : x ∈ touL one other ↔ x ∈ touL other one := by
  rw [mem_tou, mem_tou]; exact ⟨fun h => h.symm, fun h => h.symm⟩
def touS : DSp := fun ds S Q => ∃ one other : List TRow, ds = [treeD one, treeD other] ∧ Tree one ∧ Tree other ∧ Named one ∧ Named other ∧ one.length ≤ 20 ∧ other.length ≤ 20 ∧ ∀ ts : List Int, ts.Pairwise (· < ·) → (∀ x, x ∈ ts ↔ x ∈ touL one other) → Q (intsT ts) S
theorem tou_ids {one other : List TRow} (T1 : Tree one) (T2 : Tree other) {x : Int} (h : x ∈ touL one other) : x = 0 ∨ x ∈ ids one ∨ x ∈ ids other := by
  have up1 : ∀ {rows : List TRow}, Tree rows → ∀ {n}, x ∈ eldL rows n → x ∈ ids rows := fun {rows} T n he => by
    obtain ⟨u, z⟩ := (mem_eldL T).mp he
    obtain ⟨q, hq, e, _⟩ := up_last u
    rcases T.par q hq with h0 | h0
    · exact absurd (e.symm.trans h0) z
    · rw [← e]; exact h0
  rcases mem_tou.mp h with h | h
  · obtain ⟨r, _, _, h | h⟩ := mem_touH.mp h
    · exact .inl h
    · exact .inr (.inl (up1 T1 h))
  · obtain ⟨r, _, _, h | h⟩ := mem_touH.mp h
    · exact .inl h
    · exact .inr (.inr (up1 T2 h))
/-- nothing is touched just if both are the same -/
theorem tou_nil {one other : List TRow} (T1 : Tree one) (T2 : Tree other) : (∀ x, x ∉ touL one other) ↔ one = other := by
  constructor
  · intro h
    refine T1.ext T2 fun r => ⟨fun hr => ?_, fun hr => ?_⟩
    · exact Classical.byContradiction fun z => h 0 (mem_tou.mpr (.inl (mem_touH.mpr ⟨r, hr, z, .inl rfl⟩)))
    · exact Classical.byContradiction fun z => h 0 (mem_tou.mpr (.inr (mem_touH.mpr ⟨r, hr, z, .inl rfl⟩)))
  · rintro rfl x h
    rcases mem_tou.mp h with h | h <;> obtain ⟨r, h1, h2, _⟩ := mem_touH.mp h <;> exact h2 h1
theorem tou_zero {one other : List TRow} {x : Int} (h : x ∈ touL one other) : (0 : Int) ∈ touL one other := by
  rcases mem_tou.mp h with h | h
  · obtain ⟨r, h1, h2, _⟩ := mem_touH.mp h
    exact mem_tou.mpr (.inl (mem_touH.mpr ⟨r, h1, h2, .inl rfl⟩))
  · obtain ⟨r, h1, h2, _⟩ := mem_touH.mp h
    exact mem_tou.mpr (.inr (mem_touH.mpr ⟨r, h1, h2, .inl rfl⟩))
/-- what a touched one is in is touched -/
theorem tou_par {one other : List TRow} (T1 : Tree one) (T2 : Tree other) {r : TRow} (hr : r ∈ one) (h : r.n ∈ touL one other) : r.p ∈ touL one other := by
  by_cases h0 : r.p = 0
  · rw [h0]; exact tou_zero h
  by_cases hi : r ∈ other
  · rcases mem_tou.mp h with h | h
    · obtain ⟨q, h1, h2, h3⟩ := mem_touH.mp h
      have h3 := h3.resolve_left (T1.ne0 (ids_mem hr))
      exact mem_tou.mpr (.inl (mem_touH.mpr ⟨q, h1, h2, .inr ((mem_eldL T1).mpr ⟨((mem_eldL T1).mp h3).1.trans (.one hr), h0⟩)⟩))
    · obtain ⟨q, h1, h2, h3⟩ := mem_touH.mp h
      have h3 := h3.resolve_left (T1.ne0 (ids_mem hr))
      exact mem_tou.mpr (.inr (mem_touH.mpr ⟨q, h1, h2, .inr ((mem_eldL T2).mpr ⟨((mem_eldL T2).mp h3).1.trans (.one hi), h0⟩)⟩))
  · exact mem_tou.mpr (.inl (mem_touH.mpr ⟨r, hr, hi, .inr ((mem_eldL T1).mpr ⟨.one hr, h0⟩)⟩))
theorem tou_up {one other : List TRow} (T1 : Tree one) (T2 : Tree other) {x n : Int} (u : Up one x n) (h : x ∈ touL one other) : n ∈ touL one other := by
  induction u with
  | one hr => exact tou_par T1 T2 hr h
  | step hr _ ih => exact ih (tou_par T1 T2 hr h)
/-- of an untouched parent both tell the same -/
theorem untou_row {one other : List TRow} (T1 : Tree one) {r : TRow} (hr : r ∈ one) (h : r.p ∉ touL one other) : r ∈ other := Classical.byContradiction fun z => h (by
  by_cases h0 : r.p = 0
  · exact mem_tou.mpr (.inl (mem_touH.mpr ⟨r, hr, z, .inl h0⟩))
  · exact mem_tou.mpr (.inl (mem_touH.mpr ⟨r, hr, z, .inr ((mem_eldL T1).mpr ⟨.one hr, h0⟩)⟩)))
theorem untou_kids {one other : List TRow} (T1 : Tree one) (T2 : Tree other) {x : Int} (h : x ∉ touL one other) : kidsF one x = kidsF other x := by
  unfold kidsF prsOf
  rw [show (one.filter fun r => decide (r.p = x)) = other.filter fun r => decide (r.p = x) from ext_inc (·.n) (T1.inc.sublist ((List.filter_sublist (l := one)).map _)) (T2.inc.sublist ((List.filter_sublist (l := other)).map _)) fun r => ?_]
  rw [List.mem_filter, List.mem_filter]
  constructor
  · rintro ⟨h1, h2⟩
    have e := of_decide_eq_true h2
    exact ⟨untou_row T1 h1 (e ▸ h), h2⟩
  · rintro ⟨h1, h2⟩
    have e := of_decide_eq_true h2
    exact ⟨untou_row T2 h1 (e ▸ fun z => h (tou_comm.mp z)), h2⟩
theorem untou_kid {one other : List TRow} (T1 : Tree one) (T2 : Tree other) {x k : Int} (h : x ∉ touL one other) (hk : k ∈ kidsF one x) : k ∉ touL one other := fun z => by
  obtain ⟨r, hr, e1, e2⟩ := mem_kids.mp hk
  exact h (e2 ▸ tou_par T1 T2 hr (e1 ▸ z))
theorem untou_below {one other : List TRow} (T1 : Tree one) (T2 : Tree other) : ∀ (m : Nat) {x : Int}, x ∉ touL one other → belowF one m x = belowF other m x
  | 0, _, _ => rfl
  | m + 1, x, h => by
    unfold belowF
    rw [untou_kids T1 T2 h]
    have : ∀ k ∈ kidsF other x, k :: belowF one m k = k :: belowF other m k := fun k hk => by
      rw [untou_below T1 T2 m (untou_kid T1 T2 h (by rw [untou_kids T1 T2 h]; exact hk))]
    clear h
    generalize kidsF other x = ks at this
    induction ks with
    | nil => rfl
    | cons k ks ih => rw [List.flatMap_cons, List.flatMap_cons, this k List.mem_cons_self, ih fun q hq => this q (List.mem_cons_of_mem _ hq)]
theorem untou_name {one other : List TRow} (T1 : Tree one) (T2 : Tree other) {x k : Int} (h : x ∉ touL one other) (hk : k ∈ kidsF one x) : rowOf one k = rowOf other k := by
  obtain ⟨r, hr, e1, e2⟩ := mem_kids.mp hk
  rw [← e1, row_in T1 hr, row_in T2 (untou_row T1 hr (e2 ▸ h))]
theorem tou_step {one other : List TRow} (T1 : Tree one) (T2 : Tree other) {a x : Int} (u : Up one a x) (h0 : x ≠ 0) : Up other a x ∨ x ∈ touL one other := by
  induction u with
  | @one r hr =>
    by_cases hi : r ∈ other
    · exact .inl (.one hi)
    · exact .inr (mem_tou.mpr (.inl (mem_touH.mpr ⟨r, hr, hi, .inr ((mem_eldL T1).mpr ⟨.one hr, h0⟩)⟩)))
  | @step r n hr u ih =>
    by_cases hi : r ∈ other
    · rcases ih h0 with z | z
      · exact .inl (.step hi z)
      · exact .inr z
    · exact .inr (mem_tou.mpr (.inl (mem_touH.mpr ⟨r, hr, hi, .inr ((mem_eldL T1).mpr ⟨.step hr u, h0⟩)⟩)))
theorem touH_trans {one other third : List TRow} (T1 : Tree one) (T2 : Tree other) {x : Int} (h : x ∈ touH one third) : x ∈ touL one other ∨ x ∈ touL other third := by
  obtain ⟨r, hr, hn, hx⟩ := mem_touH.mp h
  by_cases hi : r ∈ other
  · rcases hx with hx | hx
    · exact .inr (mem_tou.mpr (.inl (mem_touH.mpr ⟨r, hi, hn, .inl hx⟩)))
    · obtain ⟨u, h0⟩ := (mem_eldL T1).mp hx
      rcases tou_step T1 T2 u h0 with z | z
      · exact .inr (mem_tou.mpr (.inl (mem_touH.mpr ⟨r, hi, hn, .inr ((mem_eldL T2).mpr ⟨z, h0⟩)⟩)))
      · exact .inl z
  · exact .inl (mem_tou.mpr (.inl (mem_touH.mpr ⟨r, hr, hi, hx⟩)))
/-- all of the first to the third lies among those of both steps -/
theorem tou_trans {one other third : List TRow} (T1 : Tree one) (T2 : Tree other) (T3 : Tree third) {x : Int} (h : x ∈ touL one third) : x ∈ touL one other ∨ x ∈ touL other third := by
  rcases mem_tou.mp h with h | h
  · exact touH_trans T1 T2 h
  · rcases touH_trans T3 T2 h with z | z
    · exact .inr (tou_comm.mp z)
    · exact .inl (tou_comm.mp z)
theorem tou_none {one : List TRow} (T : Tree one) {x : Int} : x ∈ touL one [] ↔ ∃ r ∈ one, r.p = x := by
  rw [mem_tou]
  constructor
  · rintro (h | h)
    · obtain ⟨r, hr, _, hx⟩ := mem_touH.mp h
      rcases hx with rfl | hx
      · obtain ⟨q, hq, e, _⟩ := up_last (T.up0 (ids_mem hr))
        exact ⟨q, hq, e⟩
      · obtain ⟨q, hq, e, _⟩ := up_last ((mem_eldL T).mp hx).1
        exact ⟨q, hq, e⟩
    · obtain ⟨r, hr, _⟩ := mem_touH.mp h
      cases hr
  · rintro ⟨r, hr, rfl⟩
    refine .inl (mem_touH.mpr ⟨r, hr, (fun z => by cases z), ?_⟩)
    by_cases h0 : r.p = 0
    · exact .inl h0
    · exact .inr ((mem_eldL T).mpr ⟨.one hr, h0⟩)
/-! ### dicts by ints, their keys -/
def DkI (kvs : List (Key × D)) (ks : List Int) : Prop := kvs.map (·.1) = ks.map Sum.inl ∧ ks.Nodup
theorem DkI.nil : DkI [] [] := ⟨rfl, List.nodup_nil⟩
theorem DkI.put {kvs : List (Key × D)} {ks : List Int} (h : DkI kvs ks) (x : Int) (d : D) : ∃ ks', DkI (putD kvs (Sum.inl x) d) ks' ∧ ∀ y, y ∈ ks' ↔ y = x ∨ y ∈ ks := by
  obtain ⟨h1, h2⟩ := h
  have hany : (kvs.any fun kv => decide (kv.1 = (Sum.inl x : Key))) = decide (x ∈ ks) := by
    rw [show (kvs.any fun kv => decide (kv.1 = (Sum.inl x : Key))) = (kvs.map (·.1)).any fun k => decide (k = (Sum.inl x : Key)) by rw [List.any_map]; rfl, h1, List.any_map]
    by_cases hx : x ∈ ks
    · rw [decide_eq_true hx]; exact List.any_eq_true.mpr ⟨x, hx, decide_eq_true rfl⟩
    · rw [decide_eq_false hx]; exact List.any_eq_false.mpr fun y hy e => hx (by have := Sum.inl.inj (of_decide_eq_true e); rwa [← this])
  unfold putD
  rw [hany]
  by_cases hx : x ∈ ks
  · simp only [hx, decide_true, if_true]
    refine ⟨ks, ⟨?_, h2⟩, fun y => ⟨.inr, fun h => h.elim (fun e => e ▸ hx) id⟩⟩
    rw [List.map_map, ← h1]
    refine List.map_congr_left fun kv _ => ?_
    show (if kv.1 = (Sum.inl x : Key) then (kv.1, d) else kv).1 = kv.1
    split <;> rfl
  · simp only [hx, decide_false, Bool.false_eq_true, if_false]
    refine ⟨ks ++ [x], ⟨by rw [List.map_append, List.map_append, h1]; rfl, ?_⟩, fun y => by rw [List.mem_append, List.mem_singleton]; exact ⟨fun h => h.symm, fun h => h.symm⟩⟩
    rw [List.nodup_append]
    refine ⟨h2, by simp, fun a ha b hb => ?_⟩
    rw [List.mem_singleton.mp hb]
    exact fun e => hx (e ▸ ha)
theorem DkI.get {kvs : List (Key × D)} {ks : List Int} (h : DkI kvs ks) {S : Mem} {a : Addr} (hS : S a = some (.dk kvs)) (n : Int) : ∃ o, getD S a (.int n) = some o ∧ o.isSome = decide (n ∈ ks) := by
  refine ⟨lookD kvs (Sum.inl n), by unfold getD; simp only [hS]; rfl, ?_⟩
  rw [look_some_iff, show (kvs.any fun kv => decide (kv.1 = (Sum.inl n : Key))) = (kvs.map (·.1)).any fun k => decide (k = (Sum.inl n : Key)) by rw [List.any_map]; rfl, h.1, List.any_map]
  by_cases hx : n ∈ ks
  · rw [decide_eq_true hx]; exact List.any_eq_true.mpr ⟨n, hx, decide_eq_true rfl⟩
  · rw [decide_eq_false hx]; exact List.any_eq_false.mpr fun y hy e => hx (by have := Sum.inl.inj (of_decide_eq_true e); rwa [← this])
theorem DkI.len {kvs : List (Key × D)} {ks : List Int} (h : DkI kvs ks) : kvs.length = ks.length := by
  have := congrArg List.length h.1
  rwa [List.length_map, List.length_map] at this
/-- a list without doubles whose members are among others is no longer -/
theorem nodup_len : ∀ {xs ys : List Int}, xs.Nodup → (∀ x ∈ xs, x ∈ ys) → xs.length ≤ ys.length
  | [], _, _, _ => Nat.zero_le _
  | x :: xs, ys, h, hs => by
    obtain ⟨h1, h2⟩ := List.nodup_cons.mp h
    have hx := hs x List.mem_cons_self
    have := nodup_len (xs := xs) (ys := ys.erase x) h2 fun y hy => (List.mem_erase_of_ne (fun e : y = x => h1 (e ▸ hy))).mpr (hs y (List.mem_cons_of_mem _ hy))
    rw [List.length_erase_of_mem hx] at this
    have := List.length_pos_of_mem hx
    rw [List.length_cons]; omega
/-! ### pure data, step by step -/
def Pd (n : Nat) (x : D) : Prop := pu x = true ∧ dep x ≤ n
theorem Pd.int (i : Int) : Pd 0 (.int i) := ⟨by unfold pu; rfl, by unfold dep; omega⟩
theorem Pd.non : Pd 0 .non := ⟨by unfold pu; rfl, by unfold dep; omega⟩
theorem Pd.str {x : Str} (h : okStr x = true) : Pd 0 (.str x) := ⟨by unfold pu; exact h, by unfold dep; omega⟩
theorem Pd.mono {n m : Nat} {x : D} (h : Pd n x) (l : n ≤ m) : Pd m x := ⟨h.1, Nat.le_trans h.2 l⟩
theorem Pd.tup {n : Nat} {xs : List D} (h : ∀ x ∈ xs, Pd n x) : Pd (n + 1) (.tup xs) := ⟨pu_tup fun x hx => (h x hx).1, by unfold dep; have := deps_all (n := n) fun x hx => (h x hx).2; omega⟩
theorem Pd.lst {n : Nat} {xs : List D} (h : ∀ x ∈ xs, Pd n x) : Pd (n + 1) (.lst xs) := ⟨pu_lst fun x hx => (h x hx).1, by unfold dep; have := deps_all (n := n) fun x hx => (h x hx).2; omega⟩
theorem Pd.pu {n : Nat} {x : D} (h : Pd n x) (l : n ≤ 60 := by decide) : PuD x := ⟨h.1, Nat.le_trans h.2 l⟩
theorem Pd.ints (ns : List Int) : Pd 1 (intsT ns) := Pd.tup fun x hx => by obtain ⟨i, _, rfl⟩ := List.mem_map.mp hx; exact .int i
theorem Pd.tell {rows : List TRow} (hN : Named rows) {p k : Int} (m : Nat) (h : k ∈ kidsF rows p) : Pd 20 (tellD rows m k) := pu_tell hN m h
theorem Pd.tells {rows : List TRow} (hN : Named rows) {p : Int} (m : Nat) {ks : List Int} (h : ∀ k ∈ ks, k ∈ kidsF rows p) : Pd 21 (.tup (ks.map (tellD rows m))) := Pd.tup fun x hx => by
  obtain ⟨k, hk, rfl⟩ := List.mem_map.mp hx
  exact .tell hN m (h k hk)
theorem Pd.row {r : TRow} (h : okName r.s) : Pd 1 (rowD r) := Pd.tup (all3 (.int _) (.int _) (.str h.ok))
theorem Pd.part {rows : List TRow} (hN : Named rows) {p : Int} (m : Nat) (i j : Int) (first many : Nat) : Pd 22 (.tup [.int p, .int i, .int j, .tup ((((kidsF rows p).drop first).take many).map (tellD rows m))]) :=
  Pd.tup (all4 ((Pd.int _).mono (by decide)) ((Pd.int _).mono (by decide)) ((Pd.int _).mono (by decide)) (.tells hN m fun k hk => List.mem_of_mem_drop (List.mem_of_mem_take hk)))
theorem rowD_inj {a b : TRow} (h : rowD a = rowD b) : a = b := by
  obtain ⟨an, ap, as⟩ := a
  obtain ⟨bn, bp, bs⟩ := b
  simp only [rowD, D.tup.injEq, List.cons.injEq, D.int.injEq, D.str.injEq, and_true] at h
  obtain ⟨rfl, rfl, rfl⟩ := h
  rfl
theorem map_inj {α β : Type} {f : α → β} (hf : ∀ a b, f a = f b → a = b) : ∀ {xs ys : List α}, xs.map f = ys.map f → xs = ys
  | [], [], _ => rfl
  | [], _ :: _, h => by cases h
  | _ :: _, [], h => by cases h
  | x :: xs, y :: ys, h => by
    rw [List.map_cons, List.map_cons, List.cons.injEq] at h
    rw [hf _ _ h.1, map_inj hf h.2]
theorem treeD_inj {a b : List TRow} (h : treeD a = treeD b) : a = b := map_inj (fun _ _ => rowD_inj) (D.tup.inj h)
theorem intsT_inj {a b : List Int} (h : (D.tup (a.map D.int)) = .tup (b.map D.int)) : a = b := map_inj (fun _ _ => D.int.inj) (D.tup.inj h)
theorem sm_dec {x y : D} {p : Prop} [Decidable p] (h : x = y ↔ p) : sm x y = decide p := by
  by_cases e : x = y
  · rw [decide_eq_true (h.mp e), e, sm_self]
  · rw [decide_eq_false (fun z => e (h.mpr z)), sm_ne e]
def someT : DSp := fun ds S Q => ∃ (ns : List Int) (t : Addr) (k : Nat) (rows : List TRow), ds = [.fls (ns.map .int), .obj t, treeD rows] ∧ Tn S t k ∧ k < 1000000 ∧ ∀ (x : Int) (S' : Mem), (rows = [] → x = 0) → (rows ≠ [] → x ∈ ids rows) → Tn S' t (k + 1) → Fr S S' t → Q (.int x) S'
end ML

set_option maxRecDepth 100000
/-! MI: not, or, and as values, by truth. -/
namespace ML
open PySem PySem.Spec PyProof.Rows L2
section
variable {X : Cx} {a b : Expr} {ta tb : DE} {rest : List Expr} {pos : Pos}
abbrev mNotT (t : DE) : DE := fun r S Q => t r S fun d S1 => oTru d S1 fun b => Q (.bl (!b)) S1
theorem me_notT (ha : PE X a (lE ta)) : PE X (.UnaryOp .Not a pos) (lE (mNotT ta)) := (pe_notT ha).mi fun s H Q ⟨r, S, M, Q', R, t, k⟩ => ⟨r, S, M, _, R, t, fun d w1 v h k1 m1 r1 => by
  obtain ⟨b, h1, h2⟩ := tru_rep (K := X.K) m1 h r1
  exact ⟨b, h1, k _ w1 _ h2 k1 m1 (.bl _)⟩⟩
abbrev mOrT (t u : DE) : DE := fun r S Q => t r S fun d S1 => oTru d S1 fun b => match b with
  | true => Q d S1
  | false => u r S1 Q
theorem me_orT (ha : PE X a (lE ta)) (hb : PE X (.BoolOp .Or (b :: rest) pos) (lE tb)) : PE X (.BoolOp .Or (a :: b :: rest) pos) (lE (mOrT ta tb)) := (pe_orT ha hb).mi fun s H Q ⟨r, S, M, Q', R, t, k⟩ => ⟨r, S, M, _, R, t, fun d w1 v h k1 m1 r1 => by
  obtain ⟨b, h1, h2⟩ := tru_rep (K := X.K) m1 h r1
  refine ⟨b, h1, ?_⟩
  cases b with
  | true => rw [if_pos rfl]; exact k _ w1 _ h2 k1 m1 r1
  | false => rw [if_neg Bool.false_ne_true]; exact ⟨r, w1.S, w1.M, Q', R.keep k1 m1, h2, Then.after k k1⟩⟩
abbrev mAndT (t u : DE) : DE := fun r S Q => t r S fun d S1 => oTru d S1 fun b => match b with
  | true => u r S1 Q
  | false => Q d S1
theorem me_andT (ha : PE X a (lE ta)) (hb : PE X (.BoolOp .And (b :: rest) pos) (lE tb)) : PE X (.BoolOp .And (a :: b :: rest) pos) (lE (mAndT ta tb)) := (pe_andT ha hb).mi fun s H Q ⟨r, S, M, Q', R, t, k⟩ => ⟨r, S, M, _, R, t, fun d w1 v h k1 m1 r1 => by
  obtain ⟨b, h1, h2⟩ := tru_rep (K := X.K) m1 h r1
  refine ⟨b, h1, ?_⟩
  cases b with
  | true => rw [if_pos rfl]; exact ⟨r, w1.S, w1.M, Q', R.keep k1 m1, h2, Then.after k k1⟩
  | false => rw [if_neg Bool.false_ne_true]; exact k _ w1 _ h2 k1 m1 r1⟩
end
/-- what is seen no more -/
theorem Shift.sub {S S' : Mem} {d : D} (h : ∀ a o, S' a = some o → S a = some o) : Shift S d S' d := fun M H v o r => by
  have kk : Keeps ⟨S, M, H⟩ ⟨S', M, H⟩ := fun _ _ h n => ⟨h, n⟩
  refine ⟨M, ⟨fun a u ha => o.sub a u (h a u ha), fun a u ha => ?_⟩, r.keeps kk, fun a ha => ⟨?_, rfl⟩⟩
  · obtain ⟨ho, hu, ro⟩ := o.mem a u ha
    exact ⟨ho, hu, ro.keeps kk⟩
  · cases e : S' a with
    | none => rfl
    | some u => rw [h a u e] at ha; cases ha
/-- a list that was made, and all that was made beside it -/
theorem Shift.made {S S' : Mem} {g : Addr} {xs : List D} (hg : S' g = some (.lst xs)) (hn : S g = none) (h : ∀ a o, S a = some o → S' a = some o) : Shift S' (.obj g) S (.lst xs) :=
  (Shift.freeze hg).trans (Shift.sub fun a o ha => by
    have ne : a ≠ g := fun e => by rw [e, hn] at ha; cases ha
    rw [rid_ne ne]; exact h a o ha)
end ML

set_option maxRecDepth 100000
/-! MJ: dicts by tuples: sorted, pop. -/
namespace ML
open PySem PySem.Spec PyProof.Rows L2
section
open Srt SrtO
variable {prog : Program} {w : World} {A : Around} {E : Value → Shared → Prop} {s : Shared}
theorem sortedRaw {d : Addr} {es : Array DictEntry} {ep : Nat} {lt : Value → Value → Bool} {Q : Value → Shared → Prop} (hh : A.in1.handled = none) (lo : (d == sysModules) = false) (hm : s.heap.DictRaw d es ep) (O : Swo lt) (hz : es.size ≤ sizeLine)
    (hS : 2 ≤ es.size → ∀ (h1 : Heap) (tk : Nat) (a : Addr), h1.get? a = some (seqObj "list" (es.toList.map (·.key)).toArray 0) → (∀ b u, s.heap.get? b = some u → b ≠ a ∧ h1.get? b = some u) → SortableO prog w A.in1.in1 { s with heap := h1, toks := tk } a (es.toList.map (·.key)) lt)
    (h : ∀ (h1 h2 : Heap) (tk : Nat) (d : Addr) (out : List Value), Srtd lt out → Stb lt out (es.toList.map (·.key)) → (∀ b u, s.heap.get? b = some u → h1.get? b = some u) → (∀ b u, h1.get? b = some u → h2.get? b = some u) → h1.objs.size ≤ d → (∃ e, h2.get? d = some (seqObj "list" out.toArray e)) → Q (.ref d) { s with heap := h2, toks := tk }) :
    wpAny (model prog w) A (call (.builtin "sorted") [.ref d]) Q E s := by
  refine Calls.call_function_entry kind_sorted plain_sorted entry_sorted (args_sorted1 _) ?_
  unfold Builtin.«sorted»
  refine wpAny_bind (m := checkCount "sorted" 1 1 _) (wpAny_pure ?_)
  refine wpAny_bind (PySem.W.kdu_collect (A := A.in1) (PySem.KdlSrc.rawDict (prog := prog) (w := w) (es := es) (ep := ep) lo) hh hm hz fun h1 tk acc kp hacc => ?_)
  have ea : acc.toList = es.toList.map (·.key) := by
    refine List.ext_getElem? fun j => ?_
    rw [List.getElem?_map, Array.getElem?_toList, Array.getElem?_toList]
    by_cases hj : j < es.size
    · have hj2 : j < acc.size := by rw [hacc.1]; exact hj
      obtain ⟨hi, e⟩ := hacc.2 j acc[j] (Array.getElem?_eq_getElem hj2)
      rw [Array.getElem?_eq_getElem hj2, Array.getElem?_eq_getElem hj, e]; rfl
    · have hj2 : ¬ j < acc.size := by rw [hacc.1]; exact hj
      rw [Array.getElem?_eq_none (by omega), Array.getElem?_eq_none (by omega)]; rfl
  rw [ea]
  have hz2 : (es.toList.map (·.key)).length ≤ sizeLine := by rw [List.length_map, Array.length_toList]; exact hz
  refine wpAny_bind (wpAny_newList ?_ hz2)
  have at1 : (h1.push (seqObj "list" (es.toList.map (·.key)).toArray 0)).get? h1.objs.size = some (seqObj "list" (es.toList.map (·.key)).toArray 0) := Heap.get?_push_size _ rfl
  have old : ∀ b u, h1.get? b = some u → b ≠ h1.objs.size ∧ (h1.push (seqObj "list" (es.toList.map (·.key)).toArray 0)).get? b = some u := fun b u e =>
    ⟨Nat.ne_of_lt (Heap.lt_size e), Heap.get?_push_of_some _ e⟩
  show wpAny _ _ _ _ _ { s with heap := h1.push (seqObj "list" (es.toList.map (·.key)).toArray 0), toks := tk }
  refine wpAny_bind (wpAny_holding (wpAny_call_entry slot_list_sort ⟨_, at1, rfl⟩ entry_list_sort (list_sort_ord O at1 hz2 (fun h2 => hS (by rw [List.length_map, Array.length_toList] at h2; exact h2) _ _ _ at1 fun b u e => old b u (kp b u e)) fun out hs hb => ⟨_, rfl, ?_⟩) (args_list_sort _)))
  refine wpAny_pure ⟨_, rfl, h h1 _ _ h1.objs.size out hs hb kp (fun b u e => ?_) (Nat.le_refl _) ?_⟩
  · exact (sortedHeap_old (old b u e).1 (Heap.lt_size (old b u e).2)).trans (old b u e).2
  · exact sortedHeap_at at1
end
/-! ### sorted(d), d by tuples -/
def kyI : Key → Int ⊕ List Nat
  | .inl i => .inl i
  | .inr x => .inr x.cps.toList
def kyK (ks : List Key) : Ky := ks.map kyI
def okShK (sh : Nat → Bool) : Nat → List Key → Prop
  | _, [] => True
  | i, .inl _ :: r => sh i = false ∧ okShK sh (i + 1) r
  | i, .inr _ :: r => sh i = true ∧ okShK sh (i + 1) r
theorem itemsK {sh : Nat → Bool} : ∀ {ks : List Key} {i : Nat}, okShK sh i ks → itemsV sh i (ks.map kV) = some (kyK ks)
  | [], _, _ => rfl
  | .inl n :: ks, i, h => by
    show itemsV sh i (V.int n :: ks.map kV) = _
    unfold itemsV
    rw [if_neg (by rw [h.1]; decide), itemsK h.2]; rfl
  | .inr x :: ks, i, h => by
    show itemsV sh i (V.str x :: ks.map kV) = _
    unfold itemsV
    rw [if_pos h.1, itemsK h.2]; rfl
def rSortDT : List V → Hp → VK → Prop := fun vs H Q => ∃ (a : Addr) (kvs : List (List Key × V)) (sh : Nat → Bool), vs = [.ref a] ∧ H a = some (.dT kvs) ∧ (∀ kv ∈ kvs, kv.1 ≠ [] ∧ okShK sh 0 kv.1) ∧
  ∀ (qs : List (Addr × List Key)) (p : Addr), (qs.map (·.2)).Perm (kvs.map (·.1)) → (∀ q ∈ qs, H q.1 = some (.tup (q.2.map kV))) → qs.Pairwise (fun a b => kLt (kyK b.2) (kyK a.2) = false) → H p = none → Q (.ref p) (upd H p (.lst (qs.map fun q => V.ref q.1)))
section
variable {X : Cx}
theorem paired_keys {H : Hp} : ∀ {kvs : List (List Key × V)} {xs : List (List Key × Addr × Value)}, Paired (fun (p : List Key × V) (q : List Key × Addr × Value) => p.1 = q.1 ∧ H q.2.1 = some (.tup (p.1.map kV)) ∧ RelV p.2 q.2.2) kvs xs → kvs.map (·.1) = xs.map (·.1) ∧ ∀ x ∈ xs, H x.2.1 = some (.tup (x.1.map kV)) ∧ x.1 ∈ kvs.map (·.1)
  | [], [], .nil => ⟨rfl, fun _ h => by cases h⟩
  | p :: _, q :: _, .cons h t => by
    obtain ⟨h1, h2⟩ := paired_keys t
    refine ⟨by rw [List.map_cons, List.map_cons, h1, h.1], fun x hx => ?_⟩
    rcases List.mem_cons.mp hx with rfl | hx
    · exact ⟨h.1 ▸ h.2.1, by rw [List.map_cons, h.1]; exact List.mem_cons_self⟩
    · exact ⟨(h2 x hx).1, by rw [List.map_cons]; exact List.mem_cons_of_mem _ (h2 x hx).2⟩
theorem vals_refs : ∀ (ps : List Addr), Vals (ps.map V.ref) (ps.map Value.ref)
  | [] => .nil
  | p :: ps => .cons rfl (vals_refs ps)
theorem cr_sortDT (hc : X.calm = true) : CallR X (.builtin "sorted") rSortDT := by
  intro pins s σ H vs us Q I r h
  obtain ⟨a, kvs, sh, rfl, ha, hk, q⟩ := h
  obtain ⟨z, hd, xs, rel, o, es, ep, ho, hx, hdat, he, his, hn⟩ := dt_of I.hok ha
  rw [Vals.ref1 r]
  obtain ⟨pk1, pk2⟩ := paired_keys rel
  have ek : es.toList.map (·.key) = xs.map fun x => Value.ref x.2.1 := by rw [he, List.map_map]; rfl
  have kat : ∀ x ∈ xs, KAt s.heap sh (.ref x.2.1) (kyK x.1) := fun x hxm => by
    obtain ⟨h1, h2⟩ := pk2 x hxm
    obtain ⟨kv, hkv, e1⟩ := List.mem_map.mp h2
    obtain ⟨k1, k2⟩ := hk kv hkv
    rw [e1] at k1 k2
    obtain ⟨its2, r2, ⟨o2, ho2, hc2, n2, hd2⟩, _⟩ := I.tuple (show SqT X.K H x.2.1 (x.1.map kV) from .inl (.inl h1))
    have hit := itemsK k2
    match hks : x.1, its2, r2 with
    | [], _, _ => exact absurd hks k1
    | k :: ks, u :: us, r2 =>
      rw [hks] at hit
      exact ⟨x.2.1, o2, u, us, n2, rfl, ho2, hc2, hd2, itemsV_ok r2 hit⟩
  have hsz : es.size ≤ sizeLine := by
    have := congrArg List.length he
    rw [Array.length_toList, List.length_map] at this
    rw [this, ← Paired.length rel]; exact z
  refine sortedRaw (I.ok.hd hc) hd ⟨o, ho, hx, hdat⟩ (swo_k fun v => (tupKey s.heap sh v).getD []) hsz (fun h2 h1 tk a' _ kk => ?_) fun h1 h2 tk d out o1 o2 kp kp2 hd2 ⟨e, hee⟩ => ?_
  · refine tup_sortable (by rw [ek, List.length_map]; have := congrArg List.length he; rw [Array.length_toList, List.length_map] at this; omega) (fun v hv => ?_) kk
    rw [ek] at hv
    obtain ⟨x, hxm, rfl⟩ := List.mem_map.mp hv
    exact ⟨_, kat x hxm⟩
  · obtain ⟨ys, p1, p2⟩ := perm_lift (f := fun x : List Key × Addr × Value => Value.ref x.2.1) (l := out) (by have := o2.perm; rw [ek] at this; exact this) xs rfl
    subst p2
    have I1 : Inv X pins σ H { s with heap := h1, toks := tk } := I.kept kp
    have ev : (ys.map fun x => ((x.2.1, x.1) : Addr × List Key)).map (fun q => V.ref q.1) = (ys.map fun x => x.2.1).map V.ref := by rw [List.map_map, List.map_map]; rfl
    have eo : (ys.map fun x : List Key × Addr × Value => Value.ref x.2.1) = (ys.map fun x => x.2.1).map Value.ref := by rw [List.map_map]; rfl
    refine ⟨.ref d, upd H d (.lst ((ys.map fun x => ((x.2.1, x.1) : Addr × List Key)).map (fun q => V.ref q.1))), I1.laid (t' := tk) kp2 hd2 ⟨?_, _, e, ?_, hee⟩, rfl, q _ d ?_ ?_ ?_ (I1.hok.fresh hd2)⟩
    · rw [List.length_map, List.length_map, p1.length_eq, ← Paired.length rel]; exact z
    · rw [ev, eo]; exact vals_refs _
    · rw [List.map_map, pk1]; exact p1.map (·.1)
    · intro q hq
      obtain ⟨x, hxm, rfl⟩ := List.mem_map.mp hq
      exact (pk2 x (p1.mem_iff.mp hxm)).1
    · refine List.pairwise_map.mpr ((List.pairwise_map.mp o1).imp_of_mem fun {x y} hxm hym hl => ?_)
      have e1 := (kat x (p1.mem_iff.mp hxm)).key
      have e2 := (kat y (p1.mem_iff.mp hym)).key
      have hl : kLt ((tupKey s.heap sh (.ref y.2.1)).getD []) ((tupKey s.heap sh (.ref x.2.1)).getD []) = false := hl
      rw [e1, e2] at hl
      exact hl
end
def oSortDT : OA := fun ds S Q => match ds with
  | [.obj a] => match S a with
    | some (.dt kvs) => ∃ sh, (∀ kv ∈ kvs, kv.1 ≠ [] ∧ kv.1.length ≤ 10000 ∧ okShK sh 0 kv.1) ∧ kvs.length ≤ 10000 ∧ ∀ ys : List (List Key), ys.Perm (kvs.map (·.1)) → ys.Pairwise (fun a b => kLt (kyK b) (kyK a) = false) → Q (.lst (ys.map fun k => .tup (k.map keyV))) S
    | _ => False
  | _ => False
theorem tups_rep {w : W} (m : Ok w) : ∀ {qs : List (Addr × List Key)}, (∀ q ∈ qs, w.H q.1 = some (.tup (q.2.map kV)) ∧ q.2.length ≤ 10000) → Reps w (qs.map fun q => V.ref q.1) ((qs.map (·.2)).map fun k => D.tup (k.map keyV))
  | [], _ => .nil
  | q :: qs, h => by
    obtain ⟨h1, h2⟩ := h q List.mem_cons_self
    have hz := sizeLine_eq
    exact .cons (.tup h1 (tup_data m h1) (keysV_rep q.2) (by rw [List.length_map]; show q.2.length ≤ sizeLine; omega)) (tups_rep m fun x hx => h x (List.mem_cons_of_mem _ hx))
theorem opA_sortDT : OpA rSortDT oSortDT := by
  intro ds vs w Q Q' m rr h k
  unfold oSortDT at h
  split at h
  · next a =>
    obtain ⟨v, rfl, r⟩ := reps1 rr
    cases r
    split at h
    · next kvs e =>
      obtain ⟨sh, h1, hl, h3⟩ := h
      obtain ⟨kws, e1, pr⟩ := m.dt e
      have pk := pr.keys
      refine ⟨a, kws, sh, rfl, e1, fun kv hkv => ?_, fun qs p hp hq hs hn => ?_⟩
      · have : kv.1 ∈ kvs.map (·.1) := by rw [pk]; exact List.mem_map.mpr ⟨kv, hkv, rfl⟩
        obtain ⟨kd, hkd, e2⟩ := List.mem_map.mp this
        obtain ⟨g1, g2, g3⟩ := h1 kd hkd
        rw [e2] at g1 g3
        exact ⟨g1, g3⟩
      · have hp2 : (qs.map (·.2)).Perm (kvs.map (·.1)) := by rw [pk]; exact hp
        have rz : Reps w (qs.map fun q => V.ref q.1) ((qs.map (·.2)).map fun k => D.tup (k.map keyV)) := tups_rep m fun q hqm => ⟨hq q hqm, by
          obtain ⟨kd, hkd, e2⟩ := List.mem_map.mp (hp2.mem_iff.mp (List.mem_map.mpr ⟨q, hqm, rfl⟩))
          rw [← e2]; exact (h1 kd hkd).2.1⟩
        refine k _ ⟨w.S, w.M, _⟩ _ (h3 _ hp2 (List.pairwise_map.mpr hs)) (.new hn) (m.new hn) (.lst upd_same (m.free hn) (rz.keep (.new hn) m) ?_)
        rw [List.length_map, hp2.length_eq, List.length_map]
        have := sizeLine_eq
        omega
    · exact h.elim
  · exact h.elim
section
variable {X : Cx} {pos : Pos}
theorem me_sortDT {e : Expr} {p : Pos} {t : DA} (hc : X.calm = true) (hm : X.mg "sorted" = none) (ha : PA X [e] (lA t)) (hg : Gl X "sorted" := by rfl) (hs : starEach [e] X.env = (false, eval e X.env) :: starEach [] X.env := by rfl) : PE X (.Call (.Name "sorted" p) [e] [] pos) (lE (mCall oSortDT t)) :=
  me_callB (cr_sortDT hc) opA_sortDT hm ha (by decide +kernel) hg (by decide) (by decide) hs
end
/-! ### d.pop(k), d.pop(k, x), d by tuples -/
section
variable {K : Type} [DecidableEq K] {prog : Program} {w : World} {knd : HeapKind prog w K} {A : Around} {E : Value → Shared → Prop} {s : Shared}
theorem meetsPop1 {d b : Addr} {k : K} (hd : (d == sysModules) = false) :
    MeetsIn prog w (Builtin.«dict.pop» ⟨[.ref d, .ref b], []⟩) (fun A R s => ∃ xs p, knd.room A.in1 ∧ knd.is s.heap k b ∧ s.heap.DictOfH knd d xs ∧ xs.length ≤ sizeLine ∧
      atKey xs k = some p ∧ ∀ h' tk, h'.DictOfH knd d (DT.dropH xs k) → Heap.SameBut d s.heap h' → R (.ok (.ret p.2)) { s with heap := h', toks := tk }) :=
  .of_wp fun A R s ⟨xs, p, hu, hkey, hm, hsz, hat, hsome⟩ => by
    obtain ⟨o, es, ep, ho, hc, hdat, he, his, hn⟩ := id hm
    have hes : es.size = xs.length := size_of_entries he
    have hpart : (keyPart (Value.ref b)).isSome = false := rfl
    unfold Builtin.«dict.pop»
    refine wpAny_bind ?_
    unfold Builtin.Dict.keyAndDefault
    refine wpAny_bind (wpAny_notOrdered_dict hm.typeIs ?_)
    show wpAny _ _ (pure (d, Value.ref b, none)) _ _ s
    refine wpAny_pure ?_
    simp only [hpart, Bool.false_eq_true, if_false]
    refine wpAny_bind (wpAny_dictEntries ho hdat (wpAny_bind (wpAny_pure ?_)))
    cases hem : es.isEmpty with
    | true =>
      have h0 : xs = [] := by
        have z : es.size = 0 := by simpa using hem
        exact List.length_eq_zero_iff.mp (by omega)
      rw [h0] at hat; cases hat
    | false =>
      simp only [Bool.false_eq_true, if_false]
      refine wpAny_bind (DT.takeH hu hkey hm hsz (fun hno => ?_) fun p' e hp hev h' hm' hs' => ?_)
      · rw [hat] at hno; cases hno
      · simp only [Option.isNone_some, Bool.false_eq_true, if_false]
        rw [hat] at hp
        cases hp
        exact wpAny_bind (wpAny_letGo (wpAny_pure ⟨e.val, rfl, by rw [hev]; exact hsome h' _ hm' hs'⟩))
end
def rPopT1 : V → List V → Hp → VK → Prop := fun x xs H Q => ∃ (a : Addr) (kvs : List (List Key × V)) (k : List Key) (b : Addr) (v : V), x = .ref a ∧ xs = [.ref b] ∧ H a = some (.dT kvs) ∧ H b = some (.tup (k.map kV)) ∧
  valV kvs k = some v ∧ Q v (upd H a (.dT (dropK kvs k)))
theorem mt_popT1 {X : Cx} (hu : X.A.units + 1 < cLine) : MtR X "dict.pop" rPopT1 := by
  intro pins s σ H x xs v us Q I rx rxs h
  obtain ⟨a, kvs, k, b, v0, rfl, rfl, ha, hb, ev, q1⟩ := h
  cases rx
  obtain ⟨u1, rfl, r1⟩ := vals1 rxs
  cases r1
  obtain ⟨z, hd, xs', rel, dd⟩ := dt_of I.hok ha
  have hz : xs'.length ≤ sizeLine := by rw [← Paired.length rel]; exact z
  have r := rel.val k
  rw [ev] at r
  cases hp : atKey xs' k with
  | none => rw [hp] at r; exact False.elim r
  | some p =>
    rw [hp] at r
    have rv : RelV v0 p.2 := r
    refine call_meetsIn PySem.F.slot_dict_pop dd.typeIs PySem.F.entry_dict_pop (PySem.F.args_dict_pop_2 _ _) (meetsPop1 (knd := tupleKind (mixKind X.prog X.w)) (k := k) hd)
      ⟨xs', p, tupleKind_room_in1 hu, key_of I.hok hb, dd, hz, hp, fun h' tk dd' hs => ?_⟩
    obtain ⟨o, es, ep, hq, h2, h3, h4, _, h5⟩ := dd'
    have I2 : Inv X pins σ (upd H a (.dT (dropK kvs k))) { s with heap := h', toks := tk } :=
      d_write I (by rw [ha]; exact True.intro) hs ⟨o, hq⟩ ⟨Nat.le_trans (dropK_le kvs k) z, hd, _, (L2.DX.KT_drop k rel).keeps (fun c ys ec => (by rw [upd_ne (ne_of ec ha (fun z => nomatch z))]; exact ec)), o, es, ep, hq, h2, h3, h4, h5⟩
    show EP X pins σ Q p.2 _
    exact ⟨v0, _, I2, rv, q1⟩
/-- a dict by tuples -/
abbrev dtD (d : D) (S : Mem) (k : Addr → List (List Key × D) → Prop) : Prop := match d with
  | .obj a => match S a with
    | some (.dt kvs) => k a kvs
    | _ => False
  | _ => False
theorem dtD_ok {d : D} {S : Mem} {k : Addr → List (List Key × D) → Prop} (h : dtD d S k) : ∃ a kvs, d = .obj a ∧ S a = some (.dt kvs) ∧ k a kvs := by
  unfold dtD at h
  split at h
  · next a =>
    split at h
    · next kvs e => exact ⟨a, kvs, rfl, e, h⟩
    · exact h.elim
  · exact h.elim
/-- a tuple's keys -/
abbrev tupK (y : D) (k : List Key → Prop) : Prop := match y with
  | .tup ds => opt (keysOf ds) k
  | _ => False
theorem tupK_ok {y : D} {k : List Key → Prop} (h : tupK y k) : ∃ ds ks, y = .tup ds ∧ keysOf ds = some ks ∧ k ks := by
  unfold tupK at h
  split at h
  · next ds => obtain ⟨ks, h1, h2⟩ := of_opt h; exact ⟨ds, ks, rfl, h1, h2⟩
  · exact h.elim
abbrev mPop1T (to : DE) (t : DA) : DE := fun r S Q => to r S fun d S1 => dtD d S1 fun _ _ => t r S1 fun ds S2 => match ds with
  | [y] => dtD d S2 fun a kvs => tupK y fun k => opt (lookD kvs k) fun v => Q v (up S2 a (.dt (ridD kvs k)))
  | _ => False
abbrev mPop2T (to : DE) (t : DA) : DE := fun r S Q => to r S fun d S1 => dtD d S1 fun _ _ => t r S1 fun ds S2 => match ds with
  | [y, z] => dtD d S2 fun a kvs => tupK y fun k => match lookD kvs k with
    | some v => Q v (up S2 a (.dt (ridD kvs k)))
    | none => Q z S2
  | _ => False
theorem lookT_some {w : W} {kvs : List (List Key × D)} {kws : List (List Key × V)} {k : List Key} {d : D} (p : PrR w kvs kws) (h : lookD kvs k = some d) : ∃ v, valV kws k = some v ∧ Rep w v d := by
  have := look_rep (k := k) p
  rw [h] at this
  cases e : valV kws k with
  | none => rw [e] at this; exact False.elim this
  | some v => rw [e] at this; exact ⟨v, rfl, this⟩
theorem lookT_none {w : W} {kvs : List (List Key × D)} {kws : List (List Key × V)} {k : List Key} (p : PrR w kvs kws) (h : lookD kvs k = none) : valV kws k = none := by
  have := look_rep (k := k) p
  rw [h] at this
  cases e : valV kws k with
  | none => rfl
  | some v => rw [e] at this; exact False.elim this
section
variable {X : Cx} {o e f : Expr} {apos pos : Pos} {to : DE} {t : DA} {n : Nat}
theorem me_pop1T (hr : Room n X.A) (ho : PE X o (lE to)) (ha : PA X [e] (lA t)) (hbase : attributeBase o "pop" X.env (eval o X.env) = eval o X.env := by rfl)
    (hfew : ((backTo pos (starEach [e] X.env)).all (fun x => !x.1) && (backToKw pos (keywordEach [] X.env)).all (fun x => x.1.isSome) && decide ([e].length + ([] : List Keyword).length + (if ([] : List Keyword).isEmpty then 0 else 1) < 30)) = true := by rfl)
    (hline : (apos.endLine == pos.line) = true := by rfl) (hs : starEach [e] X.env = (false, eval e X.env) :: starEach [] X.env := by rfl) (hpl : (backTo pos (starEach [] X.env)).any (·.1) = false := by rfl) : PE X (.Call (.Attribute o "pop" apos) [e] [] pos) (lE (mPop1T to t)) :=
  (pe_bm PySem.F.plainAttrs_dict PySem.F.slot_dict_pop PySem.F.type_dict_pop (mt_popT1 (by have := hr.un; omega)) ho ha hbase hfew hline hs hpl).mi fun s H Q ⟨r, S, M, Q', R, h, k⟩ => ⟨r, S, M, _, R, h, fun d w1 v q k1 m1 r1 => by
    obtain ⟨a, kvs, rfl, ha, q⟩ := dtD_ok q
    cases r1
    refine ⟨?_, r, w1.S, w1.M, _, R.keep k1 m1, q, fun ds w2 vs q2 k2 m2 r2 => ?_⟩
    · obtain ⟨kws, e1, _⟩ := m1.dt ha
      exact .inr (.inr (.inl ⟨rfl, .inr ⟨kws, e1⟩⟩))
    · split at q2
      · next y =>
        obtain ⟨b, kvs, e, hb, q2⟩ := dtD_ok q2
        cases e
        obtain ⟨dks, key, rfl, hk, q2⟩ := tupK_ok q2
        obtain ⟨x, hx, q2⟩ := of_opt q2
        obtain ⟨kws, e1, pr⟩ := m2.dt hb
        obtain ⟨xv, l, rx⟩ := lookT_some pr hx
        obtain ⟨yv, rfl, ry⟩ := reps1 r2
        cases ry with
        | @tup c vs _ hc hn rs hz =>
          have := keysOf_rep hk rs
          subst this
          have st : Step w2 ⟨up w2.S a (.dt (ridD kvs key)), up w2.M a (.dt (ridD kvs key)), upd w2.H a (.dT (dropK kws key))⟩ := Step.write hb
          exact ⟨a, kws, key, c, xv, rfl, rfl, e1, hc, l, k x _ xv q2 ((k1.trans k2).trans st) (m2.write hb (.dt pr.rid)) (rx.keep st m2)⟩
      · exact q2.elim⟩
theorem me_pop2T (hr : Room n X.A) (ho : PE X o (lE to)) (ha : PA X [e, f] (lA t)) (hbase : attributeBase o "pop" X.env (eval o X.env) = eval o X.env := by rfl)
    (hfew : ((backTo pos (starEach [e, f] X.env)).all (fun x => !x.1) && (backToKw pos (keywordEach [] X.env)).all (fun x => x.1.isSome) && decide ([e, f].length + ([] : List Keyword).length + (if ([] : List Keyword).isEmpty then 0 else 1) < 30)) = true := by rfl)
    (hline : (apos.endLine == pos.line) = true := by rfl) (hs : starEach [e, f] X.env = (false, eval e X.env) :: starEach [f] X.env := by rfl) (hpl : (backTo pos (starEach [f] X.env)).any (·.1) = false := by rfl) : PE X (.Call (.Attribute o "pop" apos) [e, f] [] pos) (lE (mPop2T to t)) :=
  (pe_bm PySem.F.plainAttrs_dict PySem.F.slot_dict_pop PySem.F.type_dict_pop (L2.DX.mt_popT (by have := hr.un; omega)) ho ha hbase hfew hline hs hpl).mi fun s H Q ⟨r, S, M, Q', R, h, k⟩ => ⟨r, S, M, _, R, h, fun d w1 v q k1 m1 r1 => by
    obtain ⟨a, kvs, rfl, ha, q⟩ := dtD_ok q
    cases r1
    refine ⟨?_, r, w1.S, w1.M, _, R.keep k1 m1, q, fun ds w2 vs q2 k2 m2 r2 => ?_⟩
    · obtain ⟨kws, e1, _⟩ := m1.dt ha
      exact .inr (.inr (.inl ⟨rfl, .inr ⟨kws, e1⟩⟩))
    · split at q2
      · next y z =>
        obtain ⟨b, kvs, e, hb, q2⟩ := dtD_ok q2
        cases e
        obtain ⟨dks, key, rfl, hk, q2⟩ := tupK_ok q2
        obtain ⟨kws, e1, pr⟩ := m2.dt hb
        obtain ⟨yv, zv, rfl, ry, rz⟩ := reps2 r2
        cases ry with
        | @tup c vs _ hc hn rs hz =>
          have := keysOf_rep hk rs
          subst this
          refine ⟨a, kws, key, c, zv, rfl, rfl, e1, hc, fun u l => ?_, fun l => ?_⟩
          · cases hx : lookD kvs key with
            | none => rw [lookT_none pr hx] at l; cases l
            | some x =>
              rw [hx] at q2
              obtain ⟨xv2, l2, rx⟩ := lookT_some pr hx
              rw [l] at l2
              cases l2
              have st : Step w2 ⟨up w2.S a (.dt (ridD kvs key)), up w2.M a (.dt (ridD kvs key)), upd w2.H a (.dT (dropK kws key))⟩ := Step.write hb
              exact k x _ u q2 ((k1.trans k2).trans st) (m2.write hb (.dt pr.rid)) (rx.keep st m2)
          · cases hx : lookD kvs key with
            | none => rw [hx] at q2; exact k z w2 zv q2 (k1.trans k2) m2 rz
            | some x => obtain ⟨xv2, l2, _⟩ := lookT_some pr hx; rw [l] at l2; cases l2
      · exact q2.elim⟩
end
end ML

set_option maxRecDepth 100000
/-! MK: dict of a list or tuple of pairs, by tuples. -/
namespace ML
open PySem PySem.Spec PyProof.Rows L2
def mergeT {α : Type} (put : List (List Key × α) → List Key → α → List (List Key × α)) (kvs more : List (List Key × α)) : List (List Key × α) := more.foldl (fun acc kv => put acc kv.1 kv.2) kvs
abbrev mergeTV (kvs more : List (List Key × V)) : List (List Key × V) := mergeT putK kvs more
abbrev mergeTD (kvs more : List (List Key × D)) : List (List Key × D) := mergeT putD kvs more
theorem kt_merge {H : Hp} : ∀ {more : List (List Key × V)} {ps : List (List Key × Addr × Value)} {kvs : List (List Key × V)} {xs : List (List Key × Addr × Value)}, KT H more ps → KT H kvs xs → KT H (mergeTV kvs more) (storedAllH xs ps)
  | [], [], _, _, .nil, h => h
  | p :: more, q :: ps, kvs, xs, .cons h t, h0 => by
    obtain ⟨h1, h2, h3⟩ := h
    show KT H (mergeTV (putK kvs p.1 p.2) more) (storedAllH (storedH xs q.1 q.2.1 q.2.2) ps)
    rw [← h1]
    exact kt_merge t (h0.put p.1 h2 h3)
theorem mergeT_len : ∀ (more kvs : List (List Key × V)), (mergeTV kvs more).length ≤ kvs.length + more.length
  | [], kvs => Nat.le_refl _
  | p :: more, kvs => by
    have h1 := mergeT_len more (putK kvs p.1 p.2)
    have h2 := length_putK kvs p.1 p.2
    show (mergeTV (putK kvs p.1 p.2) more).length ≤ _
    rw [List.length_cons]; omega
theorem prr_merge {w : W} : ∀ {more : List (List Key × D)} {rs : List (List Key × V)} {kvs : List (List Key × D)} {vs : List (List Key × V)}, PrR w more rs → PrR w kvs vs → PrR w (mergeTD kvs more) (mergeTV vs rs)
  | [], [], _, _, .nil, h => h
  | p :: more, q :: rs, kvs, vs, .cons h t, h0 => by
    show PrR w (mergeTD (putD kvs p.1 p.2) more) (mergeTV (putK vs q.1 q.2) rs)
    rw [← h.1]
    exact prr_merge t (h0.put h.2)
section
variable {X : Cx}
/-- pairs of a tuple and a value -/
abbrev PrT (K : PySem.W.Frag) (H : Hp) (p : Addr) (kv : List Key × V) : Prop := ∃ b, SqT K H p [.ref b, kv.2] ∧ H b = some (.tup (kv.1.map kV))
theorem pairs_ofT {pins : List (Addr × Obj)} {σ : L2.St} {H : Hp} {s : Shared} (I : Inv X pins σ H s) : ∀ {ps : List Addr} {kvs : List (List Key × V)}, Paired (PrT X.K H) ps kvs →
    ∃ (us : List (Value × Value)) (prs : List (List Key × Addr × Value)), KT H kvs prs ∧ us.length = ps.length ∧ prs.length = ps.length ∧ ∀ (j : Nat) (u y : Value), us[j]? = some (u, y) → ∃ (b c : Addr) (k : List Key), ps[j]? = some b ∧ prs[j]? = some (k, c, y) ∧ IsTup s.heap b #[u, y] ∧ u = .ref c
  | _, _, .nil => ⟨[], [], .nil, rfl, rfl, fun j u y e => by simp at e⟩
  | _, _, .cons (a := p) (b := kv) h t => by
    obtain ⟨us, prs, r, hl, hl2, hp⟩ := pairs_ofT I t
    obtain ⟨c, h1, h2⟩ := h
    obtain ⟨its, rv, ht, _⟩ := I.tuple h1
    obtain ⟨u, y, ei, ru, ry⟩ := vals2 rv
    subst ei
    cases ru
    refine ⟨(.ref c, y) :: us, (kv.1, c, y) :: prs, .cons ⟨rfl, h2, ry⟩ r, by rw [List.length_cons, List.length_cons, hl], by rw [List.length_cons, List.length_cons, hl2], fun j u' y' e => ?_⟩
    cases j with
    | zero =>
      have e' : (Value.ref c, y) = (u', y') := Option.some.inj e
      cases e'
      exact ⟨p, c, kv.1, rfl, rfl, ht, rfl⟩
    | succ j =>
      obtain ⟨b, c', k, e1, e2, e3, e4⟩ := hp j u' y' (by simpa using e)
      exact ⟨b, c', k, by simpa using e1, by simpa using e2, e3, e4⟩
def rDictT (K : PySem.W.Frag) : List V → Hp → VK → Prop := fun xs H Q => ∃ (a : Addr) (ps : List Addr) (kvs : List (List Key × V)), xs = [.ref a] ∧ (H a = some (.lst (ps.map V.ref)) ∨ ∃ o : Obj, o.dict = none ∧ H a = some (.frz o (.tup (ps.map V.ref)))) ∧ Paired (PrT K H) ps kvs ∧
    ∀ p, H p = none → Q (.ref p) (upd H p (.dT (mergeTV [] kvs)))
theorem kt_mem {H : Hp} : ∀ {kvs : List (List Key × V)} {xs : List (List Key × Addr × Value)}, KT H kvs xs → ∀ x ∈ xs, H x.2.1 = some (.tup (x.1.map kV)) := fun h x hx => (paired_keys h).2 x hx |>.1
theorem call_dictT {n : Nat} (hr : Room n X.A) (hcalm : X.calm = true) : CallR X (.type "dict") (rDictT X.K) := by
  intro pins s σ H xs us Q I r q
  obtain ⟨a, ps, kvs, ex, hq, hp, q⟩ := q
  subst ex
  obtain ⟨u, eu, rx⟩ := vals1 r
  subst eu
  cases rx
  obtain ⟨pus, prs, rel, hl, hl2, hpr⟩ := pairs_ofT I hp
  have hm : (s.heap.objs.size == sysModules) = false := beq_eq_false_iff_ne.mpr (Nat.ne_of_gt I.big)
  have fin : ∀ (hz : ps.length ≤ sizeLine) (h' : Heap) (tk : Nat), h'.DictOfH (tupleKind (mixKind X.prog X.w)) s.heap.objs.size (storedAllH [] prs) → (∀ b o, b ∉ ([] : List Addr) → s.heap.get? b = some o → h'.get? b = some o) → EP X pins σ Q (.ref s.heap.objs.size) { s with heap := h', toks := tk } := by
    intro hz h' tk dd kp
    have kp : ∀ b o, s.heap.get? b = some o → h'.get? b = some o := fun b o e => kp b o (by simp) e
    have hlen : (mergeTV [] kvs).length ≤ sizeLine := by
      refine Nat.le_trans (mergeT_len kvs []) ?_
      rw [List.length_nil, Nat.zero_add, Paired.length rel, hl2]
      exact hz
    obtain ⟨o, es, ep, g1, g2, g3, g4, _, g5⟩ := dd
    have hf := I.hok.fresh (Nat.le_refl s.heap.objs.size)
    refine ⟨.ref s.heap.objs.size, upd H s.heap.objs.size (.dT (mergeTV [] kvs)), I.laid (t' := tk) kp (Nat.le_refl _) (show ObjOk X.prog X.w _ _ _ (.dT (mergeTV [] kvs)) from ⟨hlen, hm, storedAllH [] prs, ?_, o, es, ep, g1, g2, g3, g4, g5⟩), rfl, q _ hf⟩
    exact (kt_merge rel .nil).keeps fun b ys e => by rw [upd_ne (fun z => by rw [z, hf] at e; cases e)]; exact e
  have room : (tupleKind (mixKind X.prog X.w)).room X.A.in1.in1 := by
    have := hr.un
    exact tupleKind_room_in1 (show X.A.in1.units + 1 < cLine from by first | omega | (show X.A.units + 1 + 1 < cLine; omega))
  have stay : PySem.KeysStay (tupleKind (mixKind X.prog X.w)) s.heap s.heap.objs.size [] prs := fun h' hk x hx => by
    have hx2 := kt_mem rel x hx
    have lt : ∀ b o, s.heap.get? b = some o → h'.get? b = some o := fun b o e => hk b o (Nat.ne_of_lt (Heap.lt_size e)) (by simp) e
    have I2 : Inv X pins σ H { s with heap := h', toks := s.toks } := I.kept lt
    exact key_of I2.hok hx2
  have items : ∀ (j : Nat) (k v : Value), pus[j]? = some (k, v) → (ps.map Value.ref).toArray[j]? = some (.ref (ps.getD j 0)) ∧ PySem.PairAt s.heap (ps.getD j 0) k v := fun j k v e => by
    obtain ⟨b, c, k2, e1, e2, e3, e4⟩ := hpr j k v e
    refine ⟨by simp [e1], ?_⟩
    rw [List.getD_eq_getElem?_getD, e1]
    exact .inl e3
  have have_ : PySem.PairsHaveH (tupleKind (mixKind X.prog X.w)) pus.length (PySem.PairRel pus) prs := ⟨by rw [hl2, hl], fun i key v e => by
    obtain ⟨b, c, k2, e1, e2, e3, e4⟩ := hpr i key v e
    exact ⟨k2, c, e2, e4⟩⟩
  rcases hq with hq | ⟨o, hdn, hq⟩
  · obtain ⟨hz, its, n2, rv, hget⟩ := I.hok a _ hq
    have ei := refs_at rv
    subst ei
    rw [List.length_map] at hz
    have P := PySem.PairArg.list (prog := X.prog) (w := X.w) a (ps.map Value.ref).toArray (fun j => ps.getD j 0) pus
    exact PySem.call_dict_pairsH (knd := tupleKind (mixKind X.prog X.w)) (ps := prs) P (I.ok.hd hcalm) room ⟨⟨_, n2, hget, rfl, rfl, rfl⟩, by simp [hl], items⟩ have_ stay (by rw [hl]; exact hz) (fin hz)
  · obtain ⟨hget, hz, its, rv, hT⟩ := I.hok a _ hq
    have ei := refs_at rv
    subst ei
    rw [List.length_map] at hz
    obtain ⟨o2, ho2, hc2, n2, hd2⟩ := id hT
    have eo : o = o2 := Option.some.inj (hget.symm.trans ho2)
    subst eo
    have P := PySem.PairArg.tuple (prog := X.prog) (w := X.w) a (ps.map Value.ref).toArray (fun j => ps.getD j 0) pus
    exact PySem.call_dict_pairsH (knd := tupleKind (mixKind X.prog X.w)) (ps := prs) P (I.ok.hd hcalm) room ⟨⟨o, n2, hget, hc2, hdn, hd2⟩, by simp [hl], items⟩ have_ stay (by rw [hl]; exact hz) (fin hz)
end
/-- a pair of a tuple and a value, as data -/
abbrev pairT (k : List Key) (d : D) : D := .tup [.tup (k.map keyV), d]
def oDictT : OA := fun ds S Q => match ds with
  | [.lst xs] => ∃ kvs : List (List Key × D), xs = kvs.map (fun kv => pairT kv.1 kv.2) ∧ ∀ a, S a = none → Q (.obj a) (up S a (.dt (mergeTD [] kvs)))
  | [.kt xs] => ∃ kvs : List (List Key × D), xs = kvs.map (fun kv => pairT kv.1 kv.2) ∧ ∀ a, S a = none → Q (.obj a) (up S a (.dt (mergeTD [] kvs)))
  | _ => False
theorem keys_back {w : W} : ∀ {k : List Key} {vs : List V}, Reps w vs (k.map keyV) → vs = k.map kV
  | [], _, r => by cases r; rfl
  | .inl i :: k, _, .cons r t => by cases r; rw [keys_back t]; rfl
  | .inr x :: k, _, .cons r t => by cases r; rw [keys_back t]; rfl
theorem pair_repsT {K : PySem.W.Frag} {w : W} : ∀ {kvs : List (List Key × D)} {vs : List V}, Reps w vs (kvs.map fun kv => pairT kv.1 kv.2) → ∃ (ps : List Addr) (kws : List (List Key × V)), vs = ps.map V.ref ∧ Paired (PrT K w.H) ps kws ∧ PrR w kvs kws
  | [], _, .nil => ⟨[], [], rfl, .nil, .nil⟩
  | (k, d) :: kvs, _, .cons r t => by
    obtain ⟨ps, kws, rfl, h2, h3⟩ := pair_repsT (K := K) t
    cases r with
    | @tup a vs _ ha hn rs hz =>
      cases rs with
      | cons r1 rs =>
        cases rs with
        | cons r2 rs =>
          cases rs
          cases r1 with
          | @tup b vs2 _ hb hn2 rs2 hz2 =>
            have e := keys_back rs2
            subst e
            exact ⟨a :: ps, (k, _) :: kws, rfl, .cons ⟨b, .inl (.inl ha), hb⟩ h2, .cons ⟨rfl, r2⟩ h3⟩
theorem opA_dictT {K : PySem.W.Frag} : OpA (rDictT K) oDictT := by
  intro ds vs w Q Q' m rr h k
  unfold oDictT at h
  split at h
  · next xs =>
    obtain ⟨v, rfl, r⟩ := reps1 rr
    obtain ⟨kvs, rfl, h2⟩ := h
    cases r with
    | lst ha hn rs hz =>
      obtain ⟨ps, kws, rfl, g1, g2⟩ := pair_repsT (K := K) rs
      exact ⟨_, ps, kws, rfl, .inl ha, g1, fun p hp => k _ ⟨up w.S p (.dt (mergeTD [] kvs)), up w.M p (.dt (mergeTD [] kvs)), _⟩ _ (h2 p (m.freeS hp)) (.alloc hp) (m.alloc hp (.dt (prr_merge g2 .nil))) (.obj p)⟩
  · next xs =>
    obtain ⟨v, rfl, r⟩ := reps1 rr
    obtain ⟨kvs, rfl, h2⟩ := h
    cases r with
    | kt ha hd hn rs hz =>
      obtain ⟨ps, kws, rfl, g1, g2⟩ := pair_repsT (K := K) rs
      exact ⟨_, ps, kws, rfl, .inr ⟨_, hd, ha⟩, g1, fun p hp => k _ ⟨up w.S p (.dt (mergeTD [] kvs)), up w.M p (.dt (mergeTD [] kvs)), _⟩ _ (h2 p (m.freeS hp)) (.alloc hp) (m.alloc hp (.dt (prr_merge g2 .nil))) (.obj p)⟩
  · exact h.elim
section
variable {X : Cx} {pos : Pos}
theorem me_dictT {n : Nat} {e : Expr} {p : Pos} {t : DA} (hr : Room n X.A) (hc : X.calm = true) (hm : X.mg "dict" = none) (ha : PA X [e] (lA t)) (hg : Gl X "dict" := by rfl) (hs : starEach [e] X.env = (false, eval e X.env) :: starEach [] X.env := by rfl) : PE X (.Call (.Name "dict" p) [e] [] pos) (lE (mCall oDictT t)) :=
  me_callTy (call_dictT hr hc) opA_dictT hm ha (by decide +kernel) hg (by decide) (by decide) hs
end
/-! ### range(i, j, -1) -/
def downD (i : Int) (n : Nat) : List D := (List.range n).map fun k => D.int (i - (k : Nat))
theorem wk_dwn {w : W} {i : Int} {n : Nat} (hz : n ≤ sizeLine) : Wk (Itc i (-1) n) (downD i n) none w := by
  refine ⟨fun k w' d kk m c e => ?_, fun k w' kk m c e => ?_, by unfold downD; rw [List.length_map, List.length_range]; exact hz⟩
  · unfold downD at e
    rw [List.getElem?_map] at e
    obtain ⟨j, h1, h2⟩ := Option.map_eq_some_iff.mp e
    subst h2
    obtain ⟨hi, ej⟩ := List.getElem?_eq_some_iff.mp h1
    rw [List.length_range] at hi
    rw [List.getElem_range] at ej
    subst ej
    refine ⟨hi, fun x H' ⟨eH, ex⟩ => ?_⟩
    subst eH; subst ex
    refine ⟨.refl, m, ?_⟩
    rw [show i + ((k : Nat) : Int) * (-1) = i - (k : Nat) by omega]
    exact .int _
  · unfold downD at e
    rw [List.length_map, List.length_range] at e
    exact e
abbrev wRng3 (t : DA) : DI := fun r S R => t r S fun ds S1 => match ds with
  | [.int i, .int j, .int c] => (c = -1 ∧ -16777216 ≤ i ∧ i ≤ 1000000 ∧ -1000000 ≤ j ∧ j ≤ 16777216) ∧ R (downD i (i - j).toNat) none S1
  | _ => False
section
variable {X : Cx} {tg : Expr}
theorem mi_rng3 {e f g : Expr} {p pos : Pos} {t : DA} (hm : X.mg "range" = none) (ha : PA X [e, f, g] (lA t)) (hg : Gl X "range" := by rfl) (hs : starEach [e, f, g] X.env = (false, eval e X.env) :: starEach [f, g] X.env := by rfl) (hpl : (backTo pos (starEach [f, g] X.env)).any (·.1) = false := by rfl) : PI X tg (.Call (.Name "range" p) [e, f, g] [] pos) (lI (wRng3 t)) :=
  (pi_range3 hg hm ha hs hpl).mi fun s H Rr ⟨r, S, M, R', R, t, k⟩ => ⟨r, S, M, _, R, t, fun ds w1 vs q k1 m1 r1 => by
    have hl := sizeLine_eq
    split at q
    · next i j c =>
      obtain ⟨v, u, x, rfl, rv, ru, rx⟩ := reps3 r1
      cases rv; cases ru; cases rx
      obtain ⟨⟨rfl, b1, b2, b3, b4⟩, q⟩ := q
      exact ⟨i, j, -1, (i - j).toNat, rfl, RgC.neg (by omega) (by omega) (by omega) (by omega), k _ _ w1 _ q k1 m1 (wk_dwn (by omega))⟩
    · exact q.elim⟩
end
end ML

set_option maxRecDepth 100000
/-! MLP: lists that change: pop, extend, list() as an object. -/
namespace ML
open PySem PySem.Spec PyProof.Rows L2
section
variable {X : Cx} {pos : Pos}
theorem reps_erase {w : W} : ∀ {vs : List V} {ds : List D} (k : Nat), Reps w vs ds → Reps w (vs.eraseIdx k) (ds.eraseIdx k)
  | _, _, _, .nil => .nil
  | _, _, 0, .cons _ t => t
  | _, _, k + 1, .cons r t => .cons r (reps_erase k t)
/-- xs.pop(i), i not below 0 -/
abbrev mPopL (te : DE) (t : DA) : DE := fun r S Q => te r S fun d S1 => isLst S1 d ∧ t r S1 fun ds S2 => match d, ds with
  | .obj a, [.int i] => ∃ (xs : List D) (k : Nat) (y : D), S2 a = some (.lst xs) ∧ i = (k : Int) ∧ xs[k]? = some y ∧ Q y (up S2 a (.lst (xs.eraseIdx k)))
  | _, _ => False
theorem me_popL {o e : Expr} {apos : Pos} {to : DE} {t : DA} (ho : PE X o (lE to)) (ha : PA X [e] (lA t)) (hbase : attributeBase o "pop" X.env (eval o X.env) = eval o X.env := by rfl)
    (hfew : ((backTo pos (starEach [e] X.env)).all (fun x => !x.1) && (backToKw pos (keywordEach [] X.env)).all (fun x => x.1.isSome) && decide ([e].length + ([] : List Keyword).length + (if ([] : List Keyword).isEmpty then 0 else 1) < 30)) = true := by rfl)
    (hline : (apos.endLine == pos.line) = true := by rfl) (hs : starEach [e] X.env = (false, eval e X.env) :: starEach [] X.env := by rfl) (hpl : (backTo pos (starEach [] X.env)).any (·.1) = false := by rfl) : PE X (.Call (.Attribute o "pop" apos) [e] [] pos) (lE (mPopL to t)) :=
  (pe_bm PySem.F.plainAttrs_list PySem.F.slot_list_pop PySem.F.type_list_pop mt_popAt ho ha hbase hfew hline hs hpl).mi fun s H Q ⟨r, S, M, Q', R, t, k⟩ => ⟨r, S, M, _, R, t, fun d w1 v q k1 m1 r1 => by
    obtain ⟨hd, q⟩ := q
    cases d with
    | obj a =>
      cases r1
      refine ⟨?_, r, w1.S, w1.M, _, R.keep k1 m1, q, fun ds w2 vs q2 k2 m2 r2 => ?_⟩
      · unfold isLst at hd
        dsimp only at hd
        split at hd
        · next xs e =>
          obtain ⟨vs, e1, _, _⟩ := m1.lst e
          exact .inl ⟨rfl, vs, .inl (.inl e1)⟩
        · exact hd.elim
      · split at q2
        · next a i eq =>
          cases eq
          obtain ⟨xs, j, y, h1, rfl, h2, h3⟩ := q2
          obtain ⟨vy, rfl, ry⟩ := reps1 r2
          cases ry
          obtain ⟨vs, e1, e2, z⟩ := m2.lst h1
          have hl := e2.length
          obtain ⟨vy, hvy, rvy⟩ := e2.get h2
          have hj : j < vs.length := (List.getElem?_eq_some_iff.mp hvy).1
          have hz := sizeLine_eq
          have st : Step w2 ⟨up w2.S a (.lst (xs.eraseIdx j)), up w2.M a (.lst (xs.eraseIdx j)), upd w2.H a (.lst (vs.eraseIdx j))⟩ := .write h1
          have hle : (xs.eraseIdx j).length ≤ xs.length := (List.eraseIdx_sublist ..).length_le
          refine ⟨a, vs, (j : Int), j, vy, rfl, rfl, e1, by omega, by omega, ?_, hvy, k _ ⟨up w2.S a (.lst (xs.eraseIdx j)), up w2.M a (.lst (xs.eraseIdx j)), _⟩ _ h3 ((k1.trans k2).trans st) (m2.write h1 (.lst (reps_erase j e2) (by omega))) (rvy.keep st m2)⟩
          have hh : seqIndex? (j : Int) vs.length = some ((j : Int)).toNat := PySem.seqIndex_of (by omega) (by omega)
          rw [hh]; rfl
        · exact q2.elim
    | _ => exact hd.elim⟩
/-- xs.extend(ys) -/
abbrev mExt (te : DE) (t : DA) : DE := fun r S Q => te r S fun d S1 => isLst S1 d ∧ t r S1 fun ds S2 => match d, ds with
  | .obj a, [y] => ∃ xs ys, S2 a = some (.lst xs) ∧ (y = .lst ys) ∧ xs.length + ys.length ≤ sizeLine ∧ Q .non (up S2 a (.lst (xs ++ ys)))
  | _, _ => False
theorem me_ext {o e : Expr} {apos : Pos} {to : DE} {t : DA} (ho : PE X o (lE to)) (ha : PA X [e] (lA t)) (hbase : attributeBase o "extend" X.env (eval o X.env) = eval o X.env := by rfl)
    (hfew : ((backTo pos (starEach [e] X.env)).all (fun x => !x.1) && (backToKw pos (keywordEach [] X.env)).all (fun x => x.1.isSome) && decide ([e].length + ([] : List Keyword).length + (if ([] : List Keyword).isEmpty then 0 else 1) < 30)) = true := by rfl)
    (hline : (apos.endLine == pos.line) = true := by rfl) (hs : starEach [e] X.env = (false, eval e X.env) :: starEach [] X.env := by rfl) (hpl : (backTo pos (starEach [] X.env)).any (·.1) = false := by rfl) : PE X (.Call (.Attribute o "extend" apos) [e] [] pos) (lE (mExt to t)) :=
  (pe_bm PySem.F.plainAttrs_list PySem.F.slot_list_extend PySem.F.type_list_extend mt_extend ho ha hbase hfew hline hs hpl).mi fun s H Q ⟨r, S, M, Q', R, t, k⟩ => ⟨r, S, M, _, R, t, fun d w1 v q k1 m1 r1 => by
    obtain ⟨hd, q⟩ := q
    cases d with
    | obj a =>
      cases r1
      refine ⟨?_, r, w1.S, w1.M, _, R.keep k1 m1, q, fun ds w2 vs q2 k2 m2 r2 => ?_⟩
      · unfold isLst at hd
        dsimp only at hd
        split at hd
        · next xs e =>
          obtain ⟨vs, e1, _, _⟩ := m1.lst e
          exact .inl ⟨rfl, vs, .inl (.inl e1)⟩
        · exact hd.elim
      · split at q2
        · next a y eq =>
          cases eq
          obtain ⟨xs, ys, h1, rfl, h2, h3⟩ := q2
          obtain ⟨vy, rfl, ry⟩ := reps1 r2
          obtain ⟨vs, e1, e2, z⟩ := m2.lst h1
          cases ry with
          | @lst b ws _ hb hn rs hz =>
            have hl := e2.length
            have hl2 := rs.length
            have st : Step w2 ⟨up w2.S a (.lst (xs ++ ys)), up w2.M a (.lst (xs ++ ys)), upd w2.H a (.lst (vs ++ ws))⟩ := .write h1
            have hab : a ≠ b := fun e => by
              have := m2.sub a _ h1
              rw [e, hn] at this; cases this
            refine ⟨a, b, vs, ws, rfl, rfl, e1, hb, by omega, k _ ⟨up w2.S a (.lst (xs ++ ys)), up w2.M a (.lst (xs ++ ys)), _⟩ _ h3 ((k1.trans k2).trans st) (m2.write h1 (.lst (e2.append rs) (by rw [List.length_append]; exact h2))) .non⟩
        · exact q2.elim
    | _ => exact hd.elim⟩
/-- list(xs), an object -/
def oListO : OA := fun ds S Q => match ds with
  | [d] => opt (asQ S d) fun xs => ∀ a, S a = none → Q (.obj a) (up S a (.lst xs))
  | _ => False
theorem opA_listO {K : PySem.W.Frag} : OpA (fun xs H Q => ∃ p ys, xs = [.ref p] ∧ (SqL K H p ys ∨ SqT K H p ys) ∧ ∀ l, H l = none → Q (.ref l) (upd H l (.lst ys))) oListO := by
  intro ds vs w Q Q' m rr h k
  unfold oListO at h
  split at h
  · next d =>
    obtain ⟨v, rfl, r⟩ := reps1 rr
    obtain ⟨xs, h1, h2⟩ := of_opt h
    obtain ⟨a, vs, rfl, e1, e2, z⟩ := asQ_rep (K := K) m h1 r
    exact ⟨a, vs, rfl, e1, fun p hp => k _ ⟨up w.S p (.lst xs), up w.M p (.lst xs), _⟩ _ (h2 p (m.freeS hp)) (.alloc hp) (m.alloc hp (.lst e2 z)) (.obj p)⟩
  · exact h.elim
theorem me_listO {e : Expr} {p : Pos} {t : DA} (hm : X.mg "list" = none) (ha : PA X [e] (lA t)) (hg : Gl X "list" := by rfl) (hs : starEach [e] X.env = (false, eval e X.env) :: starEach [] X.env := by rfl) : PE X (.Call (.Name "list" p) [e] [] pos) (lE (mCall oListO t)) :=
  me_callTy call_list_of opA_listO hm ha (by decide +kernel) hg (by decide) (by decide) hs
end
end ML

set_option maxRecDepth 100000
/-! MPT: paths of nodes. -/
namespace ML
open PySem PySem.Spec PyProof.Rows L2
def pthL (rows : List TRow) (p : Int) : List Int := if p = 0 then [] else eldL rows p ++ [p]
theorem eld_of {rows : List TRow} {n : Int} (T : Tree rows) (h : n ∈ ids rows) : Eld rows n (eldL rows n) := by
  rcases T.eldO n with z | z
  · exact z
  · obtain ⟨r, hr⟩ := rowOf_some h
    rw [hr] at z; cases z.1
theorem eld_kid {rows : List TRow} (T : Tree rows) {p k : Int} (hk : k ∈ kidsF rows p) : eldL rows k = pthL rows p := by
  obtain ⟨r, hr, rfl, rfl⟩ := mem_kids.mp hk
  have h := eld_of T (ids_mem hr)
  generalize eldL rows r.n = es at h ⊢
  unfold pthL
  cases h with
  | top e hp => rw [row_in T hr] at e; cases e; rw [if_pos hp]
  | more e hp he =>
    rw [row_in T hr] at e; cases e
    rw [if_neg hp, he.det (eld_of T ((T.par r hr).resolve_left hp))]
theorem pth_kid {rows : List TRow} (T : Tree rows) {p k : Int} (hk : k ∈ kidsF rows p) : pthL rows k = pthL rows p ++ [k] := by
  obtain ⟨r, hr, e, _⟩ := mem_kids.mp hk
  have h0 : k ≠ 0 := by have := T.pos r hr; omega
  rw [← eld_kid T hk]
  unfold pthL
  rw [if_neg h0]
theorem kid_pos {rows : List TRow} (T : Tree rows) {p k : Int} (hk : k ∈ kidsF rows p) : 0 < k := by
  obtain ⟨r, hr, e, _⟩ := mem_kids.mp hk
  rw [← e]; exact T.pos r hr
theorem kid_ids {rows : List TRow} {p k : Int} (hk : k ∈ kidsF rows p) : k ∈ ids rows := by
  obtain ⟨r, hr, e, _⟩ := mem_kids.mp hk
  rw [← e]; exact ids_mem hr
theorem pth_ne {rows : List TRow} {n : Int} (h : n ≠ 0) : pthL rows n = eldL rows n ++ [n] := by unfold pthL; rw [if_neg h]
theorem pth_nil {rows : List TRow} {n : Int} (h : n ≠ 0) : pthL rows n ≠ [] := by rw [pth_ne h]; simp
theorem pth_row {rows : List TRow} (T : Tree rows) {r : TRow} (h : r ∈ rows) : pthL rows r.n = pthL rows r.p ++ [r.n] := pth_kid T (mem_kids.mpr ⟨r, h, rfl, rfl⟩)
theorem pth_up {rows : List TRow} (T : Tree rows) {m n : Int} (u : Up rows m n) : pthL rows n <+: pthL rows m := by
  induction u with
  | one hr => rw [pth_row T hr]; exact List.prefix_append _ _
  | step hr _ ih => rw [pth_row T hr]; exact ih.trans (List.prefix_append _ _)
theorem mem_pth {rows : List TRow} (T : Tree rows) {m n : Int} (hm : m ≠ 0) : n ∈ pthL rows m ↔ n = m ∨ (Up rows m n ∧ n ≠ 0) := by
  rw [pth_ne hm, List.mem_append, List.mem_singleton, mem_eldL T]
  exact ⟨fun h => h.symm, fun h => h.symm⟩
theorem pre_pth {rows : List TRow} (T : Tree rows) {m n : Int} (hn : n ≠ 0) (hm : m ≠ 0) : pthL rows n <+: pthL rows m ↔ n = m ∨ Up rows m n := by
  constructor
  · intro h
    have : n ∈ pthL rows m := h.subset ((mem_pth T hn).mpr (.inl rfl))
    exact ((mem_pth T hm).mp this).imp id (·.1)
  · rintro (rfl | h)
    · exact List.prefix_refl _
    · exact pth_up T h
theorem pth_inj {rows : List TRow} {m n : Int} (hn : n ≠ 0) (hm : m ≠ 0) (h : pthL rows n = pthL rows m) : n = m := by
  rw [pth_ne hn, pth_ne hm] at h
  exact (List.append_inj' h rfl).2 |> List.singleton_inj.mp
theorem pth_len {rows : List TRow} (T : Tree rows) (n : Int) : (pthL rows n).length ≤ rows.length + 1 := by
  unfold pthL
  split
  · exact Nat.zero_le _
  · rw [List.length_append, List.length_singleton]
    have := T.eldL_len n
    omega
theorem pth_last {rows : List TRow} {n : Int} (h : n ≠ 0) : (pthL rows n).getLastD 0 = n := by
  rw [pth_ne h, List.getLastD_eq_getLast?, List.getLast?_append]; rfl
theorem pth_mem {rows : List TRow} (T : Tree rows) {n e : Int} (h : e ∈ pthL rows n) (hn : n ∈ ids rows) : e ∈ ids rows := by
  rcases (mem_pth T (T.ne0 hn)).mp h with rfl | ⟨u, z⟩
  · exact hn
  · obtain ⟨q, hq, e1, _⟩ := up_last u
    rw [← e1]
    exact (T.par q hq).resolve_left (fun h0 => z (e1.symm.trans h0))
end ML

set_option maxRecDepth 100000
/-! MSD: sorted of data that are alike (nested tuples). -/
namespace ML
open PySem PySem.Spec PyProof.Rows L2
/-- the datum that a value reads as -/
noncomputable def pdOf (h : Heap) (ds : List PyData) (v : Value) : PyData := open Classical in if q : ∃ d, d ∈ ds ∧ ∃ as, Reads h v d as then q.choose else .none
theorem pdOf_eq {h : Heap} {ds : List PyData} (hal : PySem.W.AllAlike ds) {v : Value} {d : PyData} {as : List Addr} (hd : d ∈ ds) (r : Reads h v d as) : pdOf h ds v = d := by
  have q : ∃ d, d ∈ ds ∧ ∃ as, Reads h v d as := ⟨d, hd, as, r⟩
  unfold pdOf
  rw [dif_pos q]
  obtain ⟨h1, as', h2⟩ := q.choose_spec
  exact PySem.W.alike_unique _ _ _ _ _ (hal _ h1 _ hd) h2 r
def rSortD (K : PySem.W.Frag) : List V → Hp → VK → Prop := fun vs H Q => ∃ (a : Addr) (ps : List (V × PyData)), vs = [.ref a] ∧ (SqL K H a (ps.map (·.1)) ∨ SqT K H a (ps.map (·.1))) ∧ (∀ p ∈ ps, Dp K H p.1 p.2) ∧ PySem.W.AllAlike (ps.map (·.2)) ∧ PySem.W.Sortable (ps.map (·.2)) ∧ (∀ p ∈ ps, p.2.depth ≤ 60) ∧ (∀ p ∈ ps, ∃ t, p.1 = V.ref t) ∧
  ∀ (qs : List (V × PyData)) (p : Addr), qs.Perm ps → qs.Pairwise (fun a b => PySem.W.dataLt b.2 a.2 = false) → H p = none → Q (.ref p) (upd H p (.lst (qs.map (·.1))))
section
variable {X : Cx}
theorem cr_sortD (hu : X.A.units + 65 < cLine) : CallR X (.builtin "sorted") (rSortD X.K) := by
  intro pins s σ H vs us Q I r h
  obtain ⟨a, ps, rfl, hs, hx, hal, hso, hdp, href, q⟩ := h
  obtain ⟨T, o, its, n, hT, ho, hc, hd, rv, hz⟩ := sq_both I hs
  rw [Vals.ref1 r]
  generalize hds : ps.map (·.2) = ds at hal hso
  have key : ∀ (ps : List (V × PyData)) (its : List Value), Vals (ps.map (·.1)) its → (∀ p ∈ ps, Dp X.K H p.1 p.2) → (∀ p ∈ ps, ∃ t, p.1 = V.ref t) → (∀ p ∈ ps, p.2 ∈ ds) → PySem.W.EachIs (fun v d => ∃ as, Reads s.heap v d as) its (ps.map (·.2)) ∧ (∀ v ∈ its, ∃ t, v = Value.ref t) ∧ ps = its.map fun v => (backV v, pdOf s.heap ds v) := by
    intro ps
    induction ps with
    | nil => intro its rv _ _ _; cases rv; exact ⟨.nil, (fun v hv => absurd hv (by simp)), rfl⟩
    | cons p ps ih =>
      intro its rv hx hr hm
      match its, rv with
      | u :: its, .cons ru rt =>
        obtain ⟨t, et⟩ := hr p List.mem_cons_self
        have hu : u = Value.ref t := by
          have ru : RelV p.1 u := ru
          rw [et] at ru; exact ru
        obtain ⟨as, ra⟩ := Dp.reads I p.2 p.1 u (hx p List.mem_cons_self) ru
        obtain ⟨h1, h2, h3⟩ := ih its rt (fun p hp => hx p (List.mem_cons_of_mem _ hp)) (fun p hp => hr p (List.mem_cons_of_mem _ hp)) fun p hp => hm p (List.mem_cons_of_mem _ hp)
        refine ⟨.cons ⟨as, ra⟩ h1, fun v hv => ?_, ?_⟩
        · rcases List.mem_cons.mp hv with rfl | hv
          · exact ⟨t, hu⟩
          · exact h2 v hv
        · rw [List.map_cons, ← h3, pdOf_eq hal (hm p List.mem_cons_self) ra]
          obtain ⟨p1, p2⟩ := p
          show _ = (backV u, p2) :: ps
          rw [hu, show p1 = V.ref t from et]
          rfl
  obtain ⟨k1, k2, k3⟩ := key ps its rv hx href fun p hp => hds ▸ List.mem_map.mpr ⟨p, hp, rfl⟩
  rw [hds] at k1
  have rd : ∀ v ∈ its, ∃ d ∈ ds, ∃ as, Reads s.heap v d as ∧ pdOf s.heap ds v = d := fun v hv => by
    obtain ⟨d, h1, as, h2⟩ := k1.left v hv
    exact ⟨d, h1, as, h2, pdOf_eq hal h1 h2⟩
  refine sortedQ hT ho hc hd (swo_k fun v => PySem.W.keyToks (pdOf s.heap ds v)) hz (fun h2 h1 a' _ kk => ?_) fun h2 d out o1 o2 kp hd2 ⟨e, he⟩ => ?_
  · intro h' keep
    have kp : ∀ b o, s.heap.get? b = some o → h'.get? b = some o := fun b o e => keep b o (kk b o e).1 (kk b o e).2
    have e2 : PySem.W.EachIs (fun v d => ∃ as, Reads h' v d as) its ds := by
      have : ∀ {vs : List Value} {ds : List PyData}, PySem.W.EachIs (fun v d => ∃ as, Reads s.heap v d as) vs ds → PySem.W.EachIs (fun v d => ∃ as, Reads h' v d as) vs ds := by
        intro vs ds e
        induction e with
        | nil => exact .nil
        | cons h _ ih => exact .cons (h.elim fun as r => ⟨as, Reads.keeps kp r⟩) ih
      exact this k1
    obtain ⟨kd, c1, c2⟩ := (PySem.W.SortsAt.data (prog := X.prog) (w := X.w) (A := X.A.in1.in1) (s := { s with heap := h' }) e2 hal hso (fun d hd => by
      rw [← hds] at hd
      obtain ⟨p, hp, rfl⟩ := List.mem_map.mp hd
      have := hdp p hp
      show X.A.units + 1 + 1 + p.2.depth < cLine
      omega)).kind
    refine ⟨kd, fun Q E hq => c2 h2 E hq, fun p q hp hq => ?_⟩
    obtain ⟨d1, m1, as1, r1, e1⟩ := rd _ hp
    obtain ⟨d2, m2, as2, r2, e2⟩ := rd _ hq
    refine c1 _ p.1 q.1 _ _ (PySem.W.dataKind_some hal m1 (Reads.keeps kp r1)) (PySem.W.dataKind_some hal m2 (Reads.keeps kp r2)) ⟨rfl, ?_⟩
    show _ = kLt (PySem.W.keyToks (pdOf s.heap ds p.1)) (PySem.W.keyToks (pdOf s.heap ds q.1))
    rw [e1, e2]
    rfl
  · have h3 : ∀ u ∈ out, ∃ a, u = Value.ref a := fun u hu => k2 u (o2.perm.mem_iff.mp hu)
    have e1 : (out.map fun v => (backV v, pdOf s.heap ds v)).map (·.1) = out.map backV := by rw [List.map_map]; rfl
    refine ⟨.ref d, upd H d (.lst (out.map backV)), I.laid (t' := s.toks) kp hd2 ⟨?_, out, e, vals_back h3, he⟩, rfl, ?_⟩
    · rw [List.length_map, o2.perm.length_eq]; exact hz
    · rw [← e1]
      refine q _ d ?_ (List.pairwise_map.mpr o1) (I.hok.fresh hd2)
      rw [k3]
      exact o2.perm.map _
end
/-! ### as data -/
def oSortP : OA := fun ds S Q => match ds with
  | [d] => ∃ (xs : List D) (f : D → PyData), asQ S d = some xs ∧ (∀ x ∈ xs, toPy x = some (f x) ∧ (f x).depth ≤ 60 ∧ ∃ ts, asT x = some ts) ∧ PySem.W.AllAlike (xs.map f) ∧ PySem.W.Sortable (xs.map f) ∧ ∀ ys : List D, ys.Perm xs → ys.Pairwise (fun a b => PySem.W.dataLt (f b) (f a) = false) → Q (.lst ys) S
  | _ => False
theorem opA_sortP {K : PySem.W.Frag} : OpA (rSortD K) oSortP := by
  intro ds vs w Q Q' m rr h k
  unfold oSortP at h
  split at h
  · obtain ⟨v, rfl, r⟩ := reps1 rr
    obtain ⟨xs, f, h1, h2, h3, h4, h5⟩ := h
    obtain ⟨a, vs, rfl, e1, e2, z⟩ := asQ_rep (K := K) m h1 r
    obtain ⟨z1, z2, z3⟩ := reps_zip e2
    have c1 : ((vs.zip xs).map fun p => (p.1, f p.2)).map (·.1) = vs := by rw [List.map_map]; exact z1
    have c2 : ((vs.zip xs).map fun p => (p.1, f p.2)).map (·.2) = xs.map f := by
      rw [List.map_map]
      have := congrArg (List.map f) z2
      rw [List.map_map] at this
      exact this
    have hm : ∀ p ∈ vs.zip xs, p.2 ∈ xs := fun p hp => by rw [← z2]; exact List.mem_map.mpr ⟨p, hp, rfl⟩
    refine ⟨a, (vs.zip xs).map fun p => (p.1, f p.2), rfl, by rw [c1]; exact e1, fun p hp => ?_, by rw [c2]; exact h3, by rw [c2]; exact h4, fun p hp => ?_, fun p hp => ?_, fun qs p hp hs hn => ?_⟩
    · obtain ⟨⟨v, d⟩, hm1, rfl⟩ := List.mem_map.mp hp
      exact rep_dp d v _ (h2 d (hm _ hm1)).1 (z3 _ hm1)
    · obtain ⟨⟨v, d⟩, hm1, rfl⟩ := List.mem_map.mp hp
      exact (h2 d (hm _ hm1)).2.1
    · obtain ⟨⟨v, d⟩, hm1, rfl⟩ := List.mem_map.mp hp
      obtain ⟨ts, ht⟩ := (h2 d (hm _ hm1)).2.2
      obtain ⟨b, ws, hb, _⟩ := asT_rep (K := K) ht (z3 _ hm1)
      exact ⟨b, hb⟩
    · obtain ⟨zs, p1, p2⟩ := perm_lift (f := fun p : V × D => (p.1, f p.2)) hp (vs.zip xs) rfl
      subst p2
      have rz : Reps w (zs.map (·.1)) (zs.map (·.2)) := reps_unzip fun q hq => z3 q (p1.mem_iff.mp hq)
      have c2 : (zs.map fun p => (p.1, f p.2)).map (·.1) = zs.map (·.1) := by rw [List.map_map]; rfl
      rw [c2]
      have q1 : (zs.map Prod.snd).Perm xs := by rw [← z2]; exact p1.map _
      have q2 : (zs.map Prod.snd).length ≤ sizeLine := by rw [q1.length_eq]; exact z
      have q3 := h5 (zs.map Prod.snd) q1 (List.pairwise_map.mpr (List.pairwise_map.mp hs))
      exact k _ ⟨w.S, w.M, _⟩ _ q3 (.new hn) (m.new hn) (.lst upd_same (m.free hn) (rz.keep (.new hn) m) q2)
  · exact h.elim
section
variable {X : Cx} {pos : Pos}
theorem me_sortP {n : Nat} {e : Expr} {p : Pos} {t : DA} (hr : Room n X.A) (hm : X.mg "sorted" = none) (ha : PA X [e] (lA t)) (hg : Gl X "sorted" := by rfl) (hs : starEach [e] X.env = (false, eval e X.env) :: starEach [] X.env := by rfl) : PE X (.Call (.Name "sorted" p) [e] [] pos) (lE (mCall oSortP t)) :=
  me_callB (cr_sortD (hu65 hr)) opA_sortP hm ha (by decide +kernel) hg (by decide) (by decide) hs
end
end ML

set_option maxRecDepth 100000
/-! MKT: a written tuple, known to have no dict. -/
namespace ML
open PySem PySem.Spec PyProof.Rows L2
def tKt (t : TA) : TE := fun σ H Q => t σ H fun xs H1 => xs.length ≤ sizeLine ∧ ∀ p o, H1 p = none → o.dict = none → Q (.ref p) (upd H1 p (.frz o (.tup xs)))
section
variable {X : Cx} {pos : Pos} {es : List Expr}
theorem pe_kt {t : TA} {x1} (h : PA X es t) : PE X (.Tuple es x1 pos) (tKt t) := by
  refine ⟨fun pins s σ H Q I hq => ?_⟩
  refine wpAny_Tuple_spliced (thn (h.run pos pins s σ H _ I hq) fun us s1 ⟨xs, H1, I1, r, z, q⟩ => ⟨by rw [← r.length]; exact z, ?_⟩)
  have hf : H1 s1.heap.objs.size = none := I1.hok.fresh (Nat.le_refl _)
  refine ⟨.ref s1.heap.objs.size, _, I1.laid (t' := s1.toks) (fun b u e => Heap.get?_push_of_some _ e) (Nat.le_refl _) (show ObjOk X.prog X.w _ _ _ (.frz _ (.tup xs)) from ⟨Heap.get?_push_size _ rfl, z, us, r, IsTup.new _ _⟩), rfl, q _ _ hf rfl⟩
abbrev mKt (t : DA) : DE := fun r S Q => t r S fun ds S1 => match Nat.ble ds.length 1000 with
  | true => Q (.kt ds) S1
  | false => False
theorem me_kt {t : DA} {x1} (h : PA X es (lA t)) : PE X (.Tuple es x1 pos) (lE (mKt t)) := (pe_kt h).mi fun s H Q ⟨r, S, M, Q', R, t, k⟩ => ⟨r, S, M, _, R, t, fun ds w1 vs h k1 m1 r1 => by
  split at h
  · next e =>
    refine ⟨by rw [r1.length]; exact ble_line e, fun p o hp ho => ?_⟩
    exact k _ ⟨w1.S, w1.M, _⟩ _ h (k1.trans (.new hp)) (m1.new hp) (.kt upd_same ho (m1.free hp) (r1.keep (.new hp) m1) (ble_line e))
  · exact h.elim⟩
end
end ML

set_option maxRecDepth 100000
set_option maxHeartbeats 2000000
/-! MTD: tuple(d), tuple(d.items()) of a dict. -/
namespace ML
open PySem PySem.Spec PyProof.Rows L2
section
variable {prog : Program} {w : World} {A : Around} {E : Value → Shared → Prop} {s : Shared}
/-- what gathering the items of the thing at r brings: the values G at the memory -/
def Gath (prog : Program) (w : World) (s : Shared) (r : Addr) (G : List Value → Heap → Prop) : Prop := ∀ (A : Around) (E : Value → Shared → Prop) (R : List Value → Shared → Prop), A.handled = none →
  (∀ (h' : Heap) (tk : Nat) (us : List Value), G us h' → R us { s with heap := h', toks := tk }) → wpAny (model prog w) A (collect (.ref r)) R E s
theorem tup_newD {r : Addr} {G : List Value → Heap → Prop} {Q1 : Value → Shared → Prop} (hh : A.handled = none) (hT : s.TypeIs (.ref r) "dict") (hg : Gath prog w s r G) (hz : ∀ us h', G us h' → us.length ≤ sizeLine)
    (h : ∀ (h' : Heap) (tk : Nat) (us : List Value), G us h' → Q1 (.ref h'.objs.size) { s with heap := h'.push { cls := .type "tuple", data := .seq us.toArray }, toks := tk }) : codeAny (model prog w) A (.call (.builtin "tuple.__new__") ⟨[.type "tuple", .ref r], []⟩) (wants Q1 E) s := by
  refine codeAny_of_tree ?_; show wpAny _ A.in1 (do checkBuiltinCall "tuple.__new__" ⟨[.type "tuple", .ref r], []⟩; again (.builtin "tuple.__new__" ⟨[.type "tuple", .ref r], []⟩)) _ _ s
  refine wpAny_bind (wpAny_of_eq (F.newCall_tuple_1 _) (wpAny_pure ⟨plainId_quiet F.plain_tuple_new _, codeAny_builtin F.entry_tuple_new ?_⟩)); rw [Around.under_plainId F.plain_tuple_new _]
  have g1 := sub_tuple_self; have g2 := init_tuple_lookup; have g3 := madeHere_tuple; have g4 : A.in1.handled = none := hh
  have hgc : ∀ {E : Value → Shared → Prop} {R : List Value → Shared → Prop}, (∀ (h' : Heap) (tk : Nat) (us : List Value), G us h' → R us { s with heap := h', toks := tk }) → wpAny (model prog w) A.in1 (collect (.ref r)) R E s := fun {E R} hq => hg A.in1 E R g4 hq
  wp_walk using wpAny_typeOf hT, hgc
  intro h' tk us gu; show wpAny _ _ (Builtin.Tuple.tupleExact us.toArray >>= fun v => ret v) _ _ _
  unfold Builtin.Tuple.tupleExact
  exact wpAny_bind (wpAny_newObj_type (wpAny_pure (h h' tk us gu)) (by show us.toArray.size ≤ sizeLine; rw [List.size_toArray]; exact hz us h' gu))
theorem tup_newI {r : Addr} {G : List Value → Heap → Prop} {Q1 : Value → Shared → Prop} (hh : A.handled = none) (hT : s.TypeIs (.ref r) "dict_items") (hg : Gath prog w s r G) (hz : ∀ us h', G us h' → us.length ≤ sizeLine)
    (h : ∀ (h' : Heap) (tk : Nat) (us : List Value), G us h' → Q1 (.ref h'.objs.size) { s with heap := h'.push { cls := .type "tuple", data := .seq us.toArray }, toks := tk }) : codeAny (model prog w) A (.call (.builtin "tuple.__new__") ⟨[.type "tuple", .ref r], []⟩) (wants Q1 E) s := by
  refine codeAny_of_tree ?_; show wpAny _ A.in1 (do checkBuiltinCall "tuple.__new__" ⟨[.type "tuple", .ref r], []⟩; again (.builtin "tuple.__new__" ⟨[.type "tuple", .ref r], []⟩)) _ _ s
  refine wpAny_bind (wpAny_of_eq (F.newCall_tuple_1 _) (wpAny_pure ⟨plainId_quiet F.plain_tuple_new _, codeAny_builtin F.entry_tuple_new ?_⟩)); rw [Around.under_plainId F.plain_tuple_new _]
  have g1 := sub_tuple_self; have g2 := init_tuple_lookup; have g3 := madeHere_tuple; have g4 : A.in1.handled = none := hh
  have hgc : ∀ {E : Value → Shared → Prop} {R : List Value → Shared → Prop}, (∀ (h' : Heap) (tk : Nat) (us : List Value), G us h' → R us { s with heap := h', toks := tk }) → wpAny (model prog w) A.in1 (collect (.ref r)) R E s := fun {E R} hq => hg A.in1 E R g4 hq
  wp_walk using wpAny_typeOf hT, hgc
  intro h' tk us gu; show wpAny _ _ (Builtin.Tuple.tupleExact us.toArray >>= fun v => ret v) _ _ _
  unfold Builtin.Tuple.tupleExact
  exact wpAny_bind (wpAny_newObj_type (wpAny_pure (h h' tk us gu)) (by show us.toArray.size ≤ sizeLine; rw [List.size_toArray]; exact hz us h' gu))
theorem tup_callD {r : Addr} {T : String} {G : List Value → Heap → Prop} {Q : Value → Shared → Prop} (hh : A.handled = none) (hTT : T = "dict" ∨ T = "dict_items") (hT : s.TypeIs (.ref r) T) (hg : Gath prog w s r G) (hz : ∀ us h', G us h' → us.length ≤ sizeLine)
    (h : ∀ (h' : Heap) (tk : Nat) (us : List Value), G us h' → Q (.ref h'.objs.size) { s with heap := h'.push { cls := .type "tuple", data := .seq us.toArray }, toks := tk }) : wpAny (model prog w) A (call (.type "tuple") [.ref r]) Q E s := by
  refine callType_codes (Q₁ := fun obj t1 => t1.TypeIs obj "tuple" ∧ Q obj t1) F.called_tuple (F.typeCall_tuple_1 _) F.entry_object_init ?_ fun obj t1 q1 =>
    ⟨q1.1, F.args_object_init_2 obj _, object_init_meets F.called_tuple.init.lookup F.called_tuple.made (by decide) prog w A.in1 _ t1 ⟨q1.1, rfl, q1.2⟩⟩
  rcases hTT with rfl | rfl
  · exact tup_newD (A := A.in1) hh hT hg hz fun h' tk us gu => ⟨⟨_, Heap.get?_push_size _ rfl, rfl⟩, h h' tk us gu⟩
  · exact tup_newI (A := A.in1) hh hT hg hz fun h' tk us gu => ⟨⟨_, Heap.get?_push_size _ rfl, rfl⟩, h h' tk us gu⟩
end
section
variable {X : Cx}
/-! ### tuple(d) -/
def rTupD : List V → Hp → VK → Prop := fun xs H Q => ∃ (a : Addr) (kvs : List (Key × V)), xs = [.ref a] ∧ H a = some (.dK kvs) ∧ ∀ p, H p = none → Q (.ref p) (upd H p (.tup (kvs.map fun kv => kV kv.1)))
theorem call_tupD (hcalm : X.calm = true) : CallR X (.type "tuple") rTupD := by
  intro pins s σ H xs us Q I r h
  obtain ⟨a, kvs, rfl, hk, q⟩ := h
  obtain ⟨u, rfl, rx⟩ := vals1 r
  obtain rfl : u = Value.ref a := rx
  obtain ⟨z, lo, vs, rk, hd⟩ := (show ObjOk X.prog X.w H s.heap a (.dK kvs) from I.hok a _ hk)
  obtain ⟨ep, hat⟩ := hd.dictAt
  have hl : kvs.length = vs.length := Paired.length rk
  refine tup_callD (I.ok.hd hcalm) (.inl rfl) hd.typeIs (G := fun us h' => (∀ b o, s.heap.get? b = some o → h'.get? b = some o) ∧ Vals (kvs.map fun kv => kV kv.1) us) (fun A E R hh hR => ?_) (fun us h' g => by rw [← g.2.length, List.length_map]; exact z) fun h' tk us g => ?_
  · refine PySem.W.kdu_collect (PySem.W.kdl_dict (knd := mixKind X.prog X.w) (kvs := vs) (ep := ep) lo) hh hat (by omega) fun h' tk acc hkeep hacc => hR h' tk acc.toList ⟨hkeep, ?_⟩
    have el : acc.toList.length = acc.size := by simp
    refine vals_of_at (by rw [List.length_map, el, hacc.1, hl]) fun j x w h1 h2 => ?_
    obtain ⟨k, y, hky, hi⟩ := hacc.2 j w (by rw [← Array.getElem?_toList]; exact h2)
    have e1 : (kvs.map (·.1))[j]? = some k := by rw [KV.keys rk, List.getElem?_map, hky]; all_goals rfl
    rw [show (kvs.map fun kv => kV kv.1) = (kvs.map (·.1)).map kV by rw [List.map_map]; rfl, List.getElem?_map, e1] at h1
    cases h1
    exact keyIs_rel hi
  · have I1 : Inv X pins σ H { s with heap := h', toks := tk } := I.kept g.1
    exact ⟨.ref h'.objs.size, _, I1.laid (t' := tk) (fun b o e => Heap.get?_push_of_some _ e) (Nat.le_refl _) (show ObjOk X.prog X.w _ _ _ (.tup (kvs.map fun kv => kV kv.1)) from ⟨by rw [List.length_map]; exact z, us, g.2, IsTup.new _ _⟩), rfl, q _ (I1.hok.fresh (Nat.le_refl _))⟩
def oTupD : OA := fun ds S Q => match ds with
  | [.obj a] => match S a with
    | some (.dk kvs) => kvs.length ≤ 10000 ∧ Q (.tup (kvs.map fun kv => keyV kv.1)) S
    | _ => False
  | _ => False
theorem PrR.keysV {w : W} : ∀ {kvs : List (Key × D)} {kws : List (Key × V)}, PrR w kvs kws → Reps w (kws.map fun kv => kV kv.1) (kvs.map fun kv => keyV kv.1)
  | _, _, .nil => .nil
  | _, _, .cons (a := p) (b := q) x t => by
    obtain ⟨pk, pd⟩ := p
    obtain ⟨qk, qv⟩ := q
    obtain ⟨x1, x2⟩ := x
    have x1 : pk = qk := x1
    subst x1
    exact .cons (keyV_rep pk) (PrR.keysV t)
theorem opA_tupD : OpA rTupD oTupD := by
  intro ds vs w Q Q' m rr h k
  unfold oTupD at h
  split at h
  · next a =>
    split at h
    · next kvs e =>
      obtain ⟨v, rfl, r⟩ := reps1 rr
      cases r
      obtain ⟨u, hu, ro⟩ := m.mem a _ (m.sub a _ e)
      cases ro with
      | @dk _ kws p =>
        have hz := sizeLine_eq
        exact ⟨a, kws, rfl, hu, fun q hq => k _ ⟨w.S, w.M, _⟩ _ h.2 (.new hq) (m.new hq) (.tup upd_same (m.free hq) ((PrR.keysV p).keep (.new hq) m) (by rw [List.length_map]; omega))⟩
    · exact h.elim
  · exact h.elim
theorem me_tupD {e : Expr} {p pos : Pos} {t : DA} (hc : X.calm = true) (hm : X.mg "tuple" = none) (ha : PA X [e] (lA t)) (hg : Gl X "tuple" := by rfl) (hs : starEach [e] X.env = (false, eval e X.env) :: starEach [] X.env := by rfl) : PE X (.Call (.Name "tuple" p) [e] [] pos) (lE (mCall oTupD t)) :=
  me_callTy (call_tupD hc) opA_tupD hm ha (by decide +kernel) hg (by decide) (by decide) hs
/-! ### tuple(d.items()) -/
open LiI (putT putT_off putT_at paired_ix)
def rTupI : V → Hp → VK → Prop := fun x H Q => ∃ (d : Addr) (kvs : List (Key × V)), x = .ref d ∧ H d = some (.dK kvs) ∧
  ∀ (ts : List Addr) (p : Addr) (o : Obj), (∀ t ∈ ts, H t = none) → ts.Nodup → ts.length = kvs.length → putT H ts kvs p = none → o.dict = none → Q (.ref p) (upd (putT H ts kvs) p (.frz o (.tup (ts.map V.ref))))
def tTupI (te : TE) : TE := fun σ H Q => te σ H fun x H1 => rTupI x H1 Q
theorem refs_vals : ∀ as : List Addr, Vals (as.map V.ref) (as.map Value.ref)
  | [] => .nil
  | _ :: as => .cons rfl (refs_vals as)
theorem pairs_laid {pins : List (Addr × Obj)} {σ : L2.St} {H : Hp} {s : Shared} {h' : Heap} {tk : Nat} {kvs : List (Key × V)} {vs : List (Key × Value)} {as : List Addr} (I : Inv X pins σ H s) (kv : KV kvs vs) (hk : ∀ b o, s.heap.get? b = some o → h'.get? b = some o)
    (hl : as.length = vs.length) (hG : PySem.W.KdxG (mixKind X.prog X.w) vs s.heap.objs.size h' as) : (∀ t ∈ as, H t = none) ∧ as.Nodup ∧ Inv X pins σ (putT H as kvs) { s with heap := h', toks := tk } := by
  have lk : kvs.length = vs.length := Paired.length kv
  have nd : as.Nodup := List.Pairwise.imp (fun {a b} (h : a < b) => Nat.ne_of_lt h) hG.rise
  have new : ∀ t ∈ as, H t = none := fun t ht => I.hok.fresh (Nat.le_of_lt (hG.above t ht))
  have there := putT_at as kvs H (by omega) nd
  have kp : ∀ b u, H b = some u → (putT H as kvs) b = some u := fun b u e => by rw [putT_off as kvs _ (fun z => by rw [new b z] at e; cases e)]; exact e
  refine ⟨new, nd, I.call' (ch := []) rfl ⟨fun b o q _ _ _ => hk b o q, fun b o q _ _ _ => ⟨o.slots, hk b o q⟩, fun b o q n _ => ?_, fun b o q _ => ⟨o, hk b o q⟩, fun b xs q => kp b _ q, fun b o u q => kp b _ q, fun b ps q => ⟨#[], by rw [kp b _ q]; simp⟩⟩ (fun b u q => ?_) I.bare fun b z => by simp at z⟩
  · rw [putT_off as kvs _ (fun z => absurd (Heap.lt_size q) (Nat.not_lt.mpr (Nat.le_of_lt (hG.above b z))))]; exact n
  · by_cases hb : b ∈ as
    · obtain ⟨j, pk, e1, e2, e3⟩ := paired_ix there hb
      rw [e3] at q
      cases q
      obtain ⟨key, k, x, f1, f2, f3⟩ := hG.pairs j b e1
      obtain ⟨qv, g1, g2, g3⟩ := LiI.paired_get kv e2
      rw [f1] at g1
      cases g1
      exact ⟨by show 2 ≤ sizeLine; decide, [key, x], .cons (by rw [g2]; exact relV_key (show keyIs k key = true from f2)) (.cons g3 .nil), ⟨_, f3, rfl, _, rfl⟩⟩
    · rw [putT_off as kvs _ hb] at q
      exact (I.hok b u q).stay (fun d v _ y => hk d v y) (fun d y => kp d _ y) fun d xs y => kp d _ y
theorem pe_tupI {e : Expr} {te : TE} {p apos cpos pos : Pos} (hc : X.calm = true) (he : PE X e te) (hg : Gl X "tuple") (hm : X.mg "tuple" = none) (hv : bootBuiltins "tuple" = some (.type "tuple")) (hbase : attributeBase e "items" X.env (eval e X.env) = eval e X.env)
    (hline : (apos.endLine == cpos.line) = true) (hs : starEach [.Call (.Attribute e "items" apos) [] [] cpos] X.env = (false, eval (.Call (.Attribute e "items" apos) [] [] cpos) X.env) :: starEach [] X.env) : PE X (.Call (.Name "tuple" p) [.Call (.Attribute e "items" apos) [] [] cpos] [] pos) (tTupI te) := by
  refine ⟨fun pins s σ H Q I hq => wpAny_Call_Name_kw (ld_blt I hg hm hv (PyProof.Rows.callWith_type1 ?_ hs rfl))⟩
  rw [hs]; show wpAny _ _ (spliced ((false, eval (.Call (.Attribute e "items" apos) [] [] cpos) X.env) :: backTo pos (starEach [] X.env))) _ _ s
  refine Calls.spliced_cons (wpAny_Call_method (T := "dict") (id := "dict.items") hbase rfl hline F.plainAttrs_dict F.slot_dict_items F.type_dict_items (thn (he.run pins s σ H _ I hq) fun u s1 ⟨x, H1, I1, rx, d, kvs, ex, hd, q⟩ => ?_))
  subst ex
  obtain rfl : u = Value.ref d := rx
  obtain ⟨hz, hs0, vs, kv, hdo⟩ := I1.hok d _ hd
  obtain ⟨ep, hat⟩ := hdo.dictAt
  have lk : kvs.length = vs.length := Paired.length kv
  have I2 : Inv X pins σ H1 { s1 with heap := s1.heap.push { cls := .type "dict_items", data := .fields #[.ref d] } } := I1.kept (t' := s1.toks) fun b ob q => Heap.get?_push_of_some _ q
  refine ⟨hdo.typeIs, hdo.mapOf.noDict, ?_⟩; show wpAny _ _ (callWith cpos (.builtin "dict.items") [.ref d] [] []) _ X.xe s1
  refine method_meetsIn F.slot_dict_items F.entry_dict_items rfl (PySem.evalArgs_none ⟨rfl, hdo.typeIs, F.args_dict_items_1 _, _, meets_dict_items (mixKind X.prog X.w) d hs0, ⟨vs, hdo⟩, Calls.spliced_nil ?_⟩)
  refine tup_callD (I1.ok.hd hc) (.inr rfl) ⟨_, Heap.get?_push_size _ rfl, rfl⟩
    (G := fun us h' => ∃ as : List Addr, us = as.map Value.ref ∧ (∀ b o, (s1.heap.push { cls := .type "dict_items", data := .fields #[.ref d] }).get? b = some o → h'.get? b = some o) ∧ as.length = vs.length ∧ PySem.W.KdxG (mixKind X.prog X.w) vs (s1.heap.push { cls := .type "dict_items", data := .fields #[.ref d] }).objs.size h' as)
    (fun A E R hh hR => PySem.W.kdx_collect (knd := mixKind X.prog X.w) (kvs := vs) (ep := ep) hh ⟨_, Heap.get?_push_size _ rfl, rfl, rfl⟩ (hat.push _) (by omega) fun h' tk as hk hl hG => hR h' tk _ ⟨as, rfl, hk, hl, hG⟩) (fun us h' g => ?_) fun h' tk us g => ?_
  · obtain ⟨as, rfl, _, hl, _⟩ := g
    rw [List.length_map]; omega
  · obtain ⟨as, rfl, hk, hl, hG⟩ := g
    obtain ⟨new, nd, J⟩ := pairs_laid (tk := tk) I2 kv hk hl hG
    exact ⟨.ref h'.objs.size, _, J.laid (t' := tk) (fun b u e => Heap.get?_push_of_some _ e) (Nat.le_refl _) (show ObjOk X.prog X.w _ _ _ (.frz _ (.tup (as.map V.ref))) from ⟨Heap.get?_push_size _ rfl, by rw [List.length_map]; omega, as.map Value.ref, refs_vals as, IsTup.new _ _⟩), rfl, q as _ _ new nd (by omega) (J.hok.fresh (Nat.le_refl _)) rfl⟩
abbrev mTupI (te : DE) : DE := fun r S Q => te r S fun d S1 => match d with
  | .obj a => match S1 a with
    | some (.dk kvs) => kvs.length ≤ 10000 ∧ Q (.kt (kvs.map fun kv => pairD kv.1 kv.2)) S1
    | _ => False
  | _ => False
theorem put_new {S M : Mem} : ∀ {H : Hp} (as : List Addr) (kws : List (Key × V)), Ok ⟨S, M, H⟩ → (∀ t ∈ as, H t = none) → as.Nodup → Ok ⟨S, M, putT H as kws⟩ ∧ Step ⟨S, M, H⟩ ⟨S, M, putT H as kws⟩
  | H, [], _, m, _, _ => ⟨m, .refl⟩
  | H, _ :: _, [], m, _, _ => ⟨m, .refl⟩
  | H, a :: as, p :: kws, m, h, nd => by
    have ha := h a List.mem_cons_self
    obtain ⟨n1, n2⟩ := List.nodup_cons.mp nd
    obtain ⟨o, st⟩ := put_new (H := upd H a (.tup [kV p.1, p.2])) as kws (m.new ha) (fun t ht => by rw [upd_ne (fun z => n1 (by rw [← z]; exact ht))]; exact h t (List.mem_cons_of_mem _ ht)) n2
    exact ⟨o, (Step.new ha).trans st⟩
theorem pairD_eq (k : Key) (d : D) : pairD k d = .tup [keyV k, d] := by cases k <;> rfl
theorem put_reps {w : W} {as : List Addr} {kvs : List (Key × D)} {kws : List (Key × V)} (h : Paired (fun (t : Addr) (p : Key × V) => w.H t = some (.tup [kV p.1, p.2])) as kws) : (∀ t ∈ as, w.M t = none) → PrR w kvs kws → Reps w (as.map V.ref) (kvs.map fun kv => pairD kv.1 kv.2) := by
  induction h generalizing kvs with
  | nil =>
    intro _ r
    cases r
    exact .nil
  | cons h t ih =>
    intro hM r
    cases r with
    | @cons p q _ _ x r =>
      obtain ⟨pk, pd⟩ := p
      obtain ⟨x1, x2⟩ := x
      refine .cons ?_ (ih (fun t ht => hM t (List.mem_cons_of_mem _ ht)) r)
      show Rep w _ (pairD pk pd)
      rw [pairD_eq]
      rw [← x1] at h
      exact .tup h (hM _ List.mem_cons_self) (.cons (keyV_rep pk) (.cons x2 .nil)) (by show 2 ≤ sizeLine; decide)
theorem me_tupI {e : Expr} {te : DE} {p apos cpos pos : Pos} (hc : X.calm = true) (hm : X.mg "tuple" = none) (he : PE X e (lE te)) (hg : Gl X "tuple" := by rfl) (hbase : attributeBase e "items" X.env (eval e X.env) = eval e X.env := by rfl)
    (hline : (apos.endLine == cpos.line) = true := by rfl) (hs : starEach [.Call (.Attribute e "items" apos) [] [] cpos] X.env = (false, eval (.Call (.Attribute e "items" apos) [] [] cpos) X.env) :: starEach [] X.env := by rfl) :
    PE X (.Call (.Name "tuple" p) [.Call (.Attribute e "items" apos) [] [] cpos] [] pos) (lE (mTupI te)) := (pe_tupI hc he hg hm (by decide +kernel) hbase hline hs).mi fun s H Q ⟨r, S, M, Q', R, t, k⟩ => ⟨r, S, M, _, R, t, fun d w1 v h k1 m1 r1 => by
  cases d with
  | obj a =>
    cases r1
    dsimp only at h
    split at h
    · next kvs e =>
      obtain ⟨u, hu, ro⟩ := m1.mem a _ (m1.sub a _ e)
      cases ro with
      | @dk _ kws p =>
        have hz := sizeLine_eq
        have hlen := PrR.len p
        refine ⟨a, kws, rfl, hu, fun ts q o new nd hl hq ho => ?_⟩
        obtain ⟨m2, st⟩ := put_new (S := w1.S) (M := w1.M) (H := w1.H) ts kws m1 new nd
        have ro2 : RepO ⟨w1.S, w1.M, putT w1.H ts kws⟩ (.dk kvs) (.dK kws) := (RepO.dk p).keep st m1
        cases ro2 with
        | dk p2 =>
          have rp := put_reps (w := ⟨w1.S, w1.M, putT w1.H ts kws⟩) (putT_at ts kws w1.H hl nd) (fun t ht => m1.free (new t ht)) p2
          exact k _ ⟨w1.S, w1.M, _⟩ _ h.2 ((k1.trans st).trans (.new hq)) (m2.new hq) (.kt upd_same ho (m2.free hq) (rp.keep (.new hq) m2) (by rw [List.length_map]; omega))
    · exact h.elim
  | _ => exact False.elim h⟩
end
end ML

set_option maxRecDepth 100000
set_option maxHeartbeats 2000000
/-! MHC: a def that is called with the exception that an except suite holds. -/
namespace ML
open PySem PySem.Spec PyProof.Rows L2
/-- the def at f, called while the exception p is held, keeps sp -/
structure FnP (P : Program) (w : World) (K : PySem.W.Frag) (mg : Str → Option Value) (base : Heap) (k : Nat) (f : Addr) (fd : FuncData) (ps : List Str) (p : Addr × Obj) (sp : Sp) : Prop where
  len : ∀ vs H Q E, sp vs H Q E → vs.length = ps.length
  run : ∀ (A : Around) (outer : List Env) (s : Shared) (H : Hp) (us : List Value) (vs : List V) (args : Args) (Q : VK) (E : XK), L2H.RoomH k A → L2H.PinOk outer H s p → Env0 P w K mg base A outer s H → BindsTo s fd args (ps.zip us) → Vals vs us → sp vs H Q E → codeAny (model P w) A (.call (.ref f) args) (CR CX0 outer P w H s Q E) s
section
variable {P : Program} {w : World} {K : PySem.W.Frag} {mg : Str → Option Value} {base : Heap}
theorem fn_ofP {x : Str} {st : Stmt} {a : Addr} {fd : FuncData} {N ps : List Str} {k : Nat} {p : Addr × Obj} {sp : Sp} (F : FunD K x x (defArgs st) (defBody st) (defScope st) [] [] a fd) (Sc : FnScope N ps (defScope st)) (len : ∀ vs H Q E, sp vs H Q E → vs.length = ps.length)
    (hbody : ∀ (cdv : Value) (A : Around) (outer : List Env) (s : Shared) (H : Hp) (vs : List V) (Q : VK) (E : XK), L2H.RoomH k (A.deeper (envOfC x (defScope st) s.heap.objs.size a cdv)) → sp vs H Q E → ∃ t, PSs (L2H.cxH CX0 P w K mg base N x (defScope st) a cdv A outer s H E p) (defBody st) t ∧ t { nx := fun _ H' => Q .non H', rt := Q } (L2.start N vs) H) : FnP P w K mg base (k + 1) a fd ps p sp := by
  obtain ⟨oc, od, dV, kV, doc, pm, an, cdv, ct, osl, rfl, lk, hcd, _, _⟩ := F.ex
  refine ⟨len, fun A outer s H us vs args Q E hr hpin e0 hb r hsp => ?_⟩
  have g1 : K.In s.heap := e0.mod.kin.keeps fun b o e => (e0.bs b o e).1
  have g2 : s.heap.NoLimit := e0.mod.nolimit.keeps fun b o e => (e0.bs b o e).1
  refine codeAny_call_function hr.depth (g1 _ _ lk) rfl Sc.co Sc.gen rfl (PySem.W.codeRec_of g1 hcd) (hb _ _ _ _ (wpAny_newFunctionEnv_cells Sc.kind (fun ⟨n, v⟩ hy => (Sc.par n (List.of_mem_zip hy).1).elim .inl fun q => .inr ⟨q, PySem.W.cellsFrom_some _ _ _ (.inl q)⟩) fun env he s1 x1 => ?_))
  subst he
  obtain ⟨t, ht, hq⟩ := hbody cdv A outer s H vs Q E (hr.deeper _) hsp
  have I := L2H.inv_startH (CX := CX0) (E := E) Sc hpin e0 (len _ _ _ _ hsp) r x1
  refine ⟨g2.keeps x1.toInCall.keep, codeAny_func (wpAny_mono (ht.run [] s1 (L2.start N vs) H _ I hq) (fun fl s' hs => ?_) fun e s' hs => hs)⟩
  cases fl with
  | ret u => obtain ⟨v, s2, H2, J, rv, q⟩ := hs; exact ⟨v, H2, J.os, J.bare, J.base, J.hok, rv, q⟩
  | next => obtain ⟨s2, H2, J, q⟩ := hs; exact ⟨V.non, H2, J.os, J.bare, J.base, J.hok, rfl, q⟩
  | brk => obtain ⟨_, _, _, q⟩ := hs; exact q.elim
  | cont => obtain ⟨_, _, _, q⟩ := hs; exact q.elim
structure CalP (P : Program) (w : World) (K : PySem.W.Frag) (mg : Str → Option Value) (base : Heap) (x : Str) (k : Nat) (p : Addr × Obj) (f : DSp) : Prop where
  ex : ∃ (a : Addr) (fd : FuncData) (ps : List Str), FnP P w K mg base k a fd ps p (lSp f) ∧ mg x = some (.ref a) ∧ PySem.W.keepIn K (.ref a) = true ∧ Binds K fd ps []
theorem def_okP {x : Str} {st : Stmt} {a : Addr} {fd : FuncData} {N ps : List Str} {k : Nat} {p : Addr × Obj} {f : DSp} (F : FunD K x x (defArgs st) (defBody st) (defScope st) [] [] a fd) (hm : mg x = some (.ref a)) (hb : Binds K fd ps []) (Sc : FnScope N ps (defScope st)) (t : DS) (len : ∀ ds S Q, f ds S Q → ds.length = ps.length)
    (der : ∀ (cdv : Value) (A : Around) (outer : List Env) (s : Shared) (H : Hp) (E : XK), L2H.RoomH k (A.deeper (envOfC x (defScope st) s.heap.objs.size a cdv)) → PSs (L2H.cxH CX0 P w K mg base N x (defScope st) a cdv A outer s H E p).nox (defBody st) (lS t))
    (sem : ∀ ds S Q, f ds S Q → t (endD Q) (startD N.length ds) S) : CalP P w K mg base x (k + 1) p f := by
  refine ⟨a, fd, ps, fn_ofP F Sc (fun vs H Q E ⟨S, M, ds, Q', o, r, q, _⟩ => r.length.trans (len ds S Q' q)) (fun cdv A outer s H vs Q E hr ⟨S, M, ds, Q', o, r, q, k⟩ => ?_), hm, F.kp, hb⟩
  refine ⟨_, PSs.nox (der cdv A outer s H E hr), startD N.length ds, S, M, endD Q', reps_start o r, sem ds S Q' q, ⟨fun r' w' s' a b c => ?_, fun d w' v a b c e => ?_, fun _ _ _ a _ _ => a.elim, fun _ _ _ a _ _ => a.elim, fun _ _ _ _ a _ _ => a.elim⟩⟩
  · exact k .non w' .non a c b.ok .non
  · obtain ⟨S'', d', sh, q'⟩ := a
    obtain ⟨M', o', r', kk⟩ := sh w'.M w'.H v c e
    refine k d' ⟨S'', M', w'.H⟩ v q' (fun c0 ob h n => ?_) o' r'
    obtain ⟨h1, h2, h3⟩ := b c0 ob h n
    obtain ⟨h4, h5⟩ := kk c0 h3
    exact ⟨h1, h5.trans h2, h4⟩
end
section
variable {X : Cx}
theorem run_P {k : Nat} {f : Addr} {fd : FuncData} {ps : List Str} {p : Addr × Obj} {sp : Sp} {pins : List (Addr × Obj)} {σ : L2.St} {H : Hp} {s : Shared} {Q : VK} {us : List Value} {vs : List V} (F : FnP X.prog X.w X.K X.mg X.base k f fd ps p sp) (hr : L2H.RoomH k X.A) (hp : p ∈ X.pn) (hb : Binds X.K fd ps [])
    (I : Inv X pins σ H s) (r : Vals vs us) (h : sp vs H Q E0) : wpAny (model X.prog X.w) X.A (call (.ref f) us) (EP X pins σ Q) X.xe s := by
  have b := hb s us I.kIn (by rw [List.append_nil, ← r.length]; exact F.len _ _ _ _ h)
  rw [List.append_nil] at b
  obtain ⟨q1, q2, q3, q4, q5⟩ := I.pin p (List.mem_append_left _ hp)
  refine wpAny_call (codeAny_mono (F.run X.A X.stack s H us vs ⟨us, []⟩ Q E0 hr ⟨q1, q2, fun hm => (List.mem_cons.mp (I.stkSub p.1 hm)).elim q3 q4, q5⟩ I.env0 b r h) fun fl s' hq => ?_)
  cases fl with
  | error e => exact pass0 pins σ H s e s' I hq
  | ok v => cases v with
    | ret u => exact I.after hq
    | next => exact hq.elim
    | brk => exact hq.elim
    | cont => exact hq.elim
theorem me_callP {x : Str} {pp pos : Pos} {e : Expr} {es : List Expr} {t : DA} {k : Nat} {p : Addr × Obj} {f : DSp} (c : CalP X.prog X.w X.K X.mg X.base x k p f) (hr : L2H.RoomH k X.A) (hp : p ∈ X.pn) (ha : PA X (e :: es) (lA t)) (hg : Gl X x := by rfl)
    (hdb : (x == ("__debug__" : Str)) = false := by decide) (he : starEach (e :: es) X.env = (false, eval e X.env) :: starEach es X.env := by rfl) (hpl : (backTo pos (starEach es X.env)).any (·.1) = false := by rfl) :
    PE X (.Call (.Name x pp) (e :: es) [] pos) (lE (mCall f t)) := by
  obtain ⟨a, fd, ps, h1, h2, h3, h4⟩ := c.ex
  have base : PE X (.Call (.Name x pp) (e :: es) [] pos) (fun σ H Q => lA t σ H fun vs H1 => lSp f vs H1 Q E0) := ⟨fun pins s σ H Q I h =>
    wpAny_Call_Name_kw (ld_glob I hg h2 (PySem.W.callWith_K (h₀ := X.base) I.ok.mod.kin h3 (thn (ha.run pos pins s σ H _ I h) fun us s1 ⟨vs, H1, I1, r, q⟩ => ⟨I1.kIn, run_P h1 hr hp h4 I1 r q⟩) he hpl) hdb)⟩
  exact base.mi fun s H Q ⟨r, S, M, Q', R, t, k⟩ => ⟨r, S, M, _, R, t, fun ds w1 vs q k1 m1 r1 => ⟨w1.S, w1.M, ds, Q', m1, r1, q, Then.after k k1⟩⟩
theorem roomP {k : Nat} {A : Around} {v : Option Value} (r : Room k A) : L2H.RoomH k (A.mark v) := ⟨r.dp, r.un⟩
/-- isinstance(e, c) where the exception p is held -/
theorem call_isP {a D : Addr} {oe : Obj} (hp : (a, oe) ∈ X.pn) (C : ExcC X.K D) (hz : Zc (.ref D) none oe) (hf : ∃ vs, oe.data = .fields vs) : CallR X (.builtin "isinstance") (rIsE X.K D a) := by
  intro pins s σ H xs us Q I r h
  obtain ⟨c, cv, b, rfl, hcv, e, q⟩ := h
  obtain ⟨u1, u2, rfl, rx, rt⟩ := vals2 r
  cases rx
  have ec := hcv _ rt
  subst ec
  have hget := (I.pin (a, oe) (List.mem_append_left _ hp)).1
  obtain ⟨vs, hv⟩ := hf
  have J : PySem.W.InstAt s.heap a oe D none := by
    obtain ⟨oc, od, oda, osl⟩ := oe
    obtain ⟨h1, h2⟩ := hz
    dsimp only at h1 h2 hv
    subst h1 h2 hv
    exact ⟨hget, rfl, rfl, trivial⟩
  exact PySem.W.kia_one (PySem.W.handS_kitx_exc C.hg C.hk C.hs C.hd C.ha C.hn C.ht C.hm) I.kIn J e (fun z => nomatch z) fun tk => ⟨.bl b, H, I.kept (t' := tk) fun _ _ z => z, rfl, q⟩
theorem me_isP {tab : ExTab} {a : Addr} {oe : Obj} {x c : Str} {Cx Cc : Addr} {e : Expr} {te : DE} {p q pos : Pos} (ei : ExI X.K X.mg tab) (hp : (a, oe) ∈ X.pn) (hx : X.mg x = some (.ref Cx)) (hz : Zc (.ref Cx) none oe) (hv : ∃ vs, oe.data = .fields vs) (hm : X.mg "isinstance" = none) (hc : X.mg c = some (.ref Cc))
    (he : PE X e (lE te)) (hg : Gl X "isinstance" := by rfl) (hgc : Gl X c := by rfl) (hdc : (c == ("__debug__" : Str)) = false := by decide)
    (hs : starEach [e, .Name c q] X.env = (false, eval e X.env) :: starEach [.Name c q] X.env := by rfl) (hs2 : starEach [.Name c q] X.env = (false, eval (.Name c q) X.env) :: starEach [] X.env := by rfl) (hpl : (backTo pos (starEach [.Name c q] X.env)).any (·.1) = false := by rfl) :
    PE X (.Call (.Name "isinstance" p) [e, .Name c q] [] pos) (lE (mIsE a x tab c te)) := by
  cases hl : tab.lookup (x, c) with
  | some b =>
    obtain ⟨k1, k2⟩ := ei.ok x c b hl Cx Cc hx hc
    refine (pe_callB (call_isP hp k2 hz hv) hg hm (by decide +kernel) (pa_cons he (pa_cons (pe_glob (v := .ref Cc) hgc hc rfl hdc) pa_nil hs2) hs) (by decide) (by decide) hs hpl).mi fun s H Q ⟨r, S, M, Q', R, t, k⟩ => ⟨r, S, M, _, R, t, fun d w1 v h kk m1 r1 => ?_⟩
    obtain ⟨rfl, h⟩ := h
    cases r1
    rw [hl] at h
    exact ⟨.ref Cc, .ref Cc, b, rfl, fun u hu => by cases hu; rfl, k1, k _ w1 _ h kk m1 (.bl b)⟩
  | none =>
    have hno : CallR X (.builtin "isinstance") (fun _ _ _ => False) := fun _ _ _ _ _ _ _ _ _ h => h.elim
    refine (pe_callB hno hg hm (by decide +kernel) (pa_cons he (pa_cons (pe_glob (v := .ref Cc) hgc hc rfl hdc) pa_nil hs2) hs) (by decide) (by decide) hs hpl).mi fun s H Q ⟨r, S, M, Q', R, t, k⟩ => ⟨r, S, M, _, R, t, fun d w1 v h kk m1 r1 => ?_⟩
    obtain ⟨_, h⟩ := h
    rw [hl] at h
    exact h.elim
end
end ML

set_option maxRecDepth 100000
/-! MIT: any data asked whether it is a tree. -/
namespace ML
open PySem PySem.Spec PyProof.Rows L2
theorem hasW_one (c : Nat) (x : Str) : hasW ⟨#[c]⟩ x = decide (c ∈ x.cps.toList) := PySem.StrLaws.found_one x c
theorem let_mem {c : Nat} : c ∈ LET.cps.toList ↔ 97 ≤ c ∧ c ≤ 122 := by
  rw [show LET.cps.toList = List.range' 97 26 by decide +kernel, List.mem_range'_1]
  omega
theorem nameB_iff {x : D} : nameB x = true ↔ ∃ z, x = .str z ∧ okName z := by
  constructor
  · intro h
    cases x with
    | str z =>
      have h : (decide (1 ≤ (z.length : Int)) && (decide ((z.length : Int) ≤ 6) && z.cps.toList.all fun c => hasW ⟨#[c]⟩ LET)) = true := h
      rw [Bool.and_eq_true, Bool.and_eq_true] at h
      obtain ⟨h1, h2, h3⟩ := h
      have h1 := of_decide_eq_true h1
      have h2 := of_decide_eq_true h2
      refine ⟨z, rfl, by omega, by omega, fun c hc => ?_⟩
      have := List.all_eq_true.mp h3 c hc
      rw [hasW_one] at this
      exact let_mem.mp (of_decide_eq_true this)
    | _ => cases h
  · rintro ⟨z, rfl, h⟩
    exact nameB_ok h
theorem numB_iff {low : Int} {x : D} : numB low x = true ↔ ∃ i, x = .int i ∧ low ≤ i ∧ i ≤ 999 := by
  constructor
  · intro h
    cases x with
    | int i =>
      have h : (decide (low ≤ i) && decide (i ≤ 999)) = true := h
      rw [Bool.and_eq_true] at h
      exact ⟨i, rfl, of_decide_eq_true h.1, of_decide_eq_true h.2⟩
    | _ => cases h
  · rintro ⟨i, rfl, h1, h2⟩
    show (decide (low ≤ i) && decide (i ≤ 999)) = true
    rw [decide_eq_true h1, decide_eq_true h2]; rfl
/-- a row as it must be -/
def RowOk (r : TRow) : Prop := okName r.s ∧ 1 ≤ r.n ∧ r.n ≤ 999 ∧ 0 ≤ r.p ∧ r.p ≤ 999
theorem nodeB_iff {x : D} : nodeB x = true ↔ ∃ r : TRow, x = rowD r ∧ RowOk r := by
  constructor
  · intro h
    unfold nodeB at h
    split at h
    · next a b c =>
      rw [Bool.and_eq_true, Bool.and_eq_true] at h
      obtain ⟨h1, h2, h3⟩ := h
      obtain ⟨z, rfl, hz⟩ := nameB_iff.mp h1
      obtain ⟨n, rfl, n1, n2⟩ := numB_iff.mp h2
      obtain ⟨p, rfl, p1, p2⟩ := numB_iff.mp h3
      exact ⟨⟨n, p, z⟩, rfl, hz, n1, n2, p1, p2⟩
    · cases h
  · rintro ⟨r, rfl, h, n1, n2, p1, p2⟩
    show (nameB (.str r.s) && (numB 1 (.int r.n) && numB 0 (.int r.p))) = true
    rw [nameB_ok h, numB_iff.mpr ⟨_, rfl, n1, n2⟩, numB_iff.mpr ⟨_, rfl, p1, p2⟩]; rfl
theorem nodes_rows : ∀ {xs : List D}, (∀ x ∈ xs, nodeB x = true) → ∃ rows : List TRow, xs = rows.map rowD ∧ ∀ r ∈ rows, RowOk r
  | [], _ => ⟨[], rfl, (fun r hr => by cases hr)⟩
  | x :: xs, h => by
    obtain ⟨r, rfl, hr⟩ := nodeB_iff.mp (h x List.mem_cons_self)
    obtain ⟨rows, rfl, hrs⟩ := nodes_rows fun y hy => h y (List.mem_cons_of_mem _ hy)
    refine ⟨r :: rows, rfl, fun q hq => ?_⟩
    rcases List.mem_cons.mp hq with rfl | hq
    · exact hr
    · exact hrs q hq
theorem inc_zip : ∀ {ns : List Int}, (∀ p ∈ ns.dropLast.zip (ns.drop 1), p.1 < p.2) → ns.Pairwise (· < ·)
  | [], _ => .nil
  | [a], _ => List.pairwise_singleton _ _
  | a :: b :: ns, h => by
    rw [List.dropLast_cons₂, show (a :: b :: ns).drop 1 = b :: ns from rfl, List.zip_cons_cons] at h
    have h1 : a < b := h (a, b) List.mem_cons_self
    have h2 := inc_zip (ns := b :: ns) fun p hp => h p (List.mem_cons_of_mem _ hp)
    refine List.pairwise_cons.mpr ⟨fun x hx => ?_, h2⟩
    rcases List.mem_cons.mp hx with rfl | hx
    · exact h1
    · exact Int.lt_trans h1 ((List.pairwise_cons.mp h2).1 x hx)
/-- rows whose parents are all there -/
structure Clo (rows : List TRow) : Prop where
  nd : (ids rows).Nodup
  pos : ∀ r ∈ rows, 0 < r.n
  par : ∀ r ∈ rows, r.p = 0 ∨ r.p ∈ ids rows
theorem filter_lt {α : Type} {p q : α → Bool} : ∀ {l : List α}, (∀ x ∈ l, p x = true → q x = true) → (∃ x ∈ l, q x = true ∧ p x = false) → (l.filter p).length < (l.filter q).length
  | [], _, ⟨_, h, _⟩ => by cases h
  | y :: l, h, ⟨x, hx, h1, h2⟩ => by
    have le : ∀ {l : List α}, (∀ x ∈ l, p x = true → q x = true) → (l.filter p).length ≤ (l.filter q).length := by
      intro l
      induction l with
      | nil => intro _; exact Nat.le_refl _
      | cons z l ih =>
        intro h
        have ih := ih fun x hx => h x (List.mem_cons_of_mem _ hx)
        rw [List.filter_cons, List.filter_cons]
        cases hp : p z with
        | true => rw [h z List.mem_cons_self hp]; simp only [if_true, List.length_cons]; omega
        | false => cases hq : q z <;> simp only [if_true, Bool.false_eq_true, if_false, List.length_cons] <;> omega
    have hl : ∀ x ∈ l, p x = true → q x = true := fun x hx => h x (List.mem_cons_of_mem _ hx)
    rw [List.filter_cons, List.filter_cons]
    rcases List.mem_cons.mp hx with rfl | hx
    · rw [h1, h2]
      have := le hl
      simp only [if_true, Bool.false_eq_true, if_false, List.length_cons]
      omega
    · have ih := filter_lt hl ⟨x, hx, h1, h2⟩
      cases hp : p y with
      | true => rw [h y List.mem_cons_self hp]; simp only [if_true, List.length_cons]; omega
      | false => cases hq : q y <;> simp only [if_true, Bool.false_eq_true, if_false, List.length_cons] <;> omega
open Classical in
theorem Clo.rank {rows : List TRow} (C : Clo rows) (h : ∀ r ∈ rows, ¬ Up rows r.n r.n) : ∃ rk : Int → Nat, ∀ r ∈ rows, rk r.p < rk r.n := by
  refine ⟨fun x => ((0 :: ids rows).filter fun y => decide (Up rows x y)).length, fun r hr => ?_⟩
  refine filter_lt (fun y _ hy => decide_eq_true (.step hr (of_decide_eq_true hy))) ⟨r.p, ?_, decide_eq_true (.one hr), decide_eq_false fun u => ?_⟩
  · rcases C.par r hr with e | e
    · rw [e]; exact List.mem_cons_self
    · exact List.mem_cons_of_mem _ e
  · obtain ⟨q, hq, e⟩ := List.mem_map.mp u.mem
    rw [← e] at u
    exact h q hq u
theorem good_of {rows : List TRow} (hr : ∀ r ∈ rows, RowOk r) (hl : rows.length ≤ 20) (hi : (ids rows).Pairwise (· < ·)) (hp : ∀ r ∈ rows, r.p = 0 ∨ r.p ∈ ids rows) (hu : ∀ r ∈ rows, ¬ Up rows r.n r.n) : Good rows := by
  have hpos : ∀ r ∈ rows, 0 < r.n := fun r h => by have := (hr r h).2.1; omega
  have C : Clo rows := ⟨hi.imp fun h => Int.ne_of_lt h, hpos, hp⟩
  exact ⟨⟨hi, hpos, C.rank hu, hp⟩, fun r h => (hr r h).1, fun r h => (hr r h).2.2.1, hl⟩
theorem Good.noring {rows : List TRow} (G : Good rows) : ∀ r ∈ rows, ¬ Up rows r.n r.n := fun r _ u => by
  obtain ⟨rk, hk⟩ := G.T.rank
  exact absurd (u.rank hk) (Nat.lt_irrefl _)
def eldersC : DSp := fun ds S Q => ∃ (rows : List TRow) (n : Int), ds = [treeD rows, .int n] ∧ Clo rows ∧ rows.length ≤ 100 ∧ n ∈ ids rows ∧ ∀ es : List Int, es.length ≤ rows.length → (n ∈ es ↔ Up rows n n) → Q (intsT es) S
/-- is it a tree -/
def isTreeC : DSp := fun ds S Q => ∃ x, ds = [x] ∧ sl x = true ∧ (∀ rows, x = treeD rows → Good rows → Q (.bl true) S) ∧ ((∀ rows, x = treeD rows → ¬ Good rows) → Q (.bl false) S)
end ML

set_option maxRecDepth 100000
/-! MLL: len of a dict that is walked. -/
namespace ML
open PySem PySem.Spec PyProof.Rows L2
section
variable {X : Cx}
def rLenK : List V → Hp → VK → Prop := fun xs H Q => ∃ a kvs, xs = [V.ref a] ∧ Rd H a (.dK kvs) ∧ Q (.int kvs.length) H
theorem call_lenK : CallR X (.builtin "len") rLenK := by
  intro pins s σ H xs us Q I r h
  obtain ⟨a, kvs, rfl, ha, q⟩ := h
  obtain ⟨u, rfl, ru⟩ := vals1 r
  cases ru; exact d_len I ha fun t s2 I2 => ⟨.int kvs.length, H, I2, ⟨t, rfl⟩, q⟩
def oLenK : OA := fun ds S Q => match ds with
  | [.obj a] => match S a with
    | some (.lck _ _ (.dk kvs)) => Q (.int kvs.length) S
    | _ => False
  | _ => False
theorem opA_lenK : OpA rLenK oLenK := by
  intro ds vs w Q Q' m rr h k
  unfold oLenK at h
  split at h
  · next a =>
    split at h
    · next od u kvs e =>
      obtain ⟨v, rfl, r⟩ := reps1 rr
      cases r
      obtain ⟨hH, ro⟩ := lck_at m e
      cases ro with
      | @dk _ kws p => exact ⟨a, kws, rfl, .inr ⟨od, hH⟩, by rw [← PrR.len p]; exact k _ w _ h .refl m (.int _)⟩
    · exact h.elim
  · exact h.elim
theorem me_lenK {e : Expr} {p pos : Pos} {t : DA} (hm : X.mg "len" = none) (ha : PA X [e] (lA t)) (hg : Gl X "len" := by rfl) (hs : starEach [e] X.env = (false, eval e X.env) :: starEach [] X.env := by rfl) : PE X (.Call (.Name "len" p) [e] [] pos) (lE (mCall oLenK t)) :=
  me_callB call_lenK opA_lenK hm ha PySem.boot_len hg (by decide) (by decide) hs
end
end ML

set_option maxRecDepth 100000
/-! MTX: texts: times an int, methods, joined, str(). -/
namespace ML
open PySem PySem.Spec PyProof.Rows L2
section
variable {X : Cx}
/-! ### text * int -/
def rMulS : R2 := fun x y H Q => ∃ a n, x = .str a ∧ y = .int n ∧ MulOk a n ∧ Q (.str (Txt.mul a n)) H
theorem op_mulS : OpR X (binaryOp .Mult) rMulS := by
  intro pins s σ H x y v u Q I rx ry h
  obtain ⟨a, n, rfl, rfl, ok, q⟩ := h
  obtain ⟨t, rfl⟩ := rx
  obtain ⟨t2, rfl⟩ := ry
  exact PySem.SB.mul ok fun t3 k => ⟨.str _, H, I.kept (t' := k) fun _ _ z => z, ⟨t3, rfl⟩, q⟩
def oMulS : O2 := fun x y S Q => match x, y with
  | .str a, .int n => MulOk a n ∧ Q (.str (Txt.mul a n)) S
  | _, _ => False
theorem op2_mulS : Op2 rMulS oMulS := by
  intro x y v u w Q Q' m rx ry h k
  unfold oMulS at h
  split at h
  · cases rx
    cases ry
    exact ⟨_, _, rfl, rfl, h.1, k _ w _ h.2 .refl m (.str _)⟩
  · exact h.elim
theorem me_mulS {a b : Expr} {ta tb : DE} {pos : Pos} (ha : PE X a (lE ta)) (hb : PE X b (lE tb)) : PE X (.BinOp a .Mult b pos) (lE (mBin oMulS ta tb)) := me_bin op_mulS op2_mulS ha hb
theorem mulOk_small {a : Str} {n : Int} (h1 : a.length ≤ 100) (h2 : -1000 ≤ n) (h3 : n ≤ 10000) : MulOk a n := by
  refine ⟨?_, fun h _ => ?_, fun h _ => ?_⟩
  · rw [decide_eq_false (by omega), decide_eq_false (by omega)]; rfl
  · have : (2 ^ 63 - 1) / n ≥ 100 := by
      rw [ge_iff_le, Int.le_ediv_iff_mul_le (by omega)]
      omega
    omega
  · have hn : n.toNat ≤ 10000 := by omega
    have : a.length * n.toNat ≤ 100 * 10000 := Nat.mul_le_mul h1 hn
    unfold Builtin.Str.tooLong
    have hz := sizeLine_eq
    exact decide_eq_false (by omega)
/-! ### a method with one text -/
abbrev mMt1 (f : Str → Str → Str) (to te : DE) : DE := fun r S Q => to r S fun d S1 => match d with
  | .str a => te r S1 fun e S2 => match e with
    | .str b => a.length ≤ 10000 ∧ Q (.str (f a b)) S2
    | _ => False
  | _ => False
theorem mt1_imp {f : Str → Str → Str} {to te : DE} : ∀ s H Q, lE (mMt1 f to te) s H Q → tM1 (fun x xs H Q => ∃ a b, x = .str a ∧ xs = [.str b] ∧ a.length ≤ sizeLine ∧ Q (.str (f a b)) H) (lE to) (lE te) s H Q := by
  rintro s H Q ⟨r, S, M, Q', R, t, k⟩
  refine ⟨r, S, M, _, R, t, fun d w1 v q k1 m1 r1 => ?_⟩
  split at q
  · next a =>
    cases r1
    refine ⟨⟨a, rfl⟩, r, w1.S, w1.M, _, R.keep k1 m1, q, fun e w2 u q2 k2 m2 r2 => ?_⟩
    split at q2
    · next b =>
      cases r2
      have hz := sizeLine_eq
      exact ⟨a, b, rfl, rfl, by omega, k _ w2 _ q2.2 (k1.trans k2) m2 (.str _)⟩
    · exact q2.elim
  · exact q.elim
theorem me_rstrip {o e : Expr} {to te : DE} {apos pos : Pos} (ho : PE X o (lE to)) (he : PE X e (lE te)) (hs : starEach [e] X.env = [(false, eval e X.env)] := by rfl) (hbase : attributeBase o "rstrip" X.env (eval o X.env) = eval o X.env := by rfl) (hline : (apos.endLine == pos.line) = true := by rfl) :
    PE X (.Call (.Attribute o "rstrip" apos) [e] [] pos) (lE (mMt1 Txt.rstripChars to te)) := (pe_m1 F.slot_str_rstrip F.type_str_rstrip mt_rstripChars ho he hs hbase hline).mi mt1_imp
theorem me_lstrip {o e : Expr} {to te : DE} {apos pos : Pos} (ho : PE X o (lE to)) (he : PE X e (lE te)) (hs : starEach [e] X.env = [(false, eval e X.env)] := by rfl) (hbase : attributeBase o "lstrip" X.env (eval o X.env) = eval o X.env := by rfl) (hline : (apos.endLine == pos.line) = true := by rfl) :
    PE X (.Call (.Attribute o "lstrip" apos) [e] [] pos) (lE (mMt1 Txt.lstripChars to te)) := (pe_m1 F.slot_str_lstrip F.type_str_lstrip mt_lstripChars ho he hs hbase hline).mi mt1_imp
theorem me_strip1 {o e : Expr} {to te : DE} {apos pos : Pos} (ho : PE X o (lE to)) (he : PE X e (lE te)) (hs : starEach [e] X.env = [(false, eval e X.env)] := by rfl) (hbase : attributeBase o "strip" X.env (eval o X.env) = eval o X.env := by rfl) (hline : (apos.endLine == pos.line) = true := by rfl) :
    PE X (.Call (.Attribute o "strip" apos) [e] [] pos) (lE (mMt1 Txt.stripChars to te)) := (pe_m1 F.slot_str_strip F.type_str_strip mt_stripChars ho he hs hbase hline).mi mt1_imp
/-! ### joined -/
def strsOf : List D → Option (List Str)
  | [] => some []
  | .str a :: ds => (strsOf ds).map (a :: ·)
  | _ => none
theorem strsOf_map (ys : List Str) : strsOf (ys.map D.str) = some ys := by
  induction ys with
  | nil => rfl
  | cons y ys ih => show (strsOf (ys.map D.str)).map (y :: ·) = _; rw [ih]; rfl
theorem reps_strs {w : W} : ∀ {ds : List D} {ys : List Str} {vs : List V}, strsOf ds = some ys → Reps w vs ds → vs = ys.map V.str
  | [], _, _, h, r => by cases h; cases r; rfl
  | .str a :: ds, ys, _, h, r => by
    cases r with
    | cons r1 r2 =>
      cases r1
      obtain ⟨zs, e1, e2⟩ := Option.map_eq_some_iff.mp h
      rw [← e2, reps_strs e1 r2]; rfl
  | .non :: _, _, _, h, _ => by cases h
  | .bl _ :: _, _, _, h, _ => by cases h
  | .int _ :: _, _, _, h, _ => by cases h
  | .tup _ :: _, _, _, h, _ => by cases h
  | .kt _ :: _, _, _, h, _ => by cases h
  | .lst _ :: _, _, _, h, _ => by cases h
  | .fls _ :: _, _, _, h, _ => by cases h
  | .obj _ :: _, _, _, h, _ => by cases h
abbrev mJoin (to te : DE) : DE := fun r S Q => to r S fun d S1 => match d with
  | .str a => te r S1 fun e S2 => opt (asL S2 e) fun ds => opt (strsOf ds) fun ys => ((ys.map (·.length)).sum + ys.length * a.length ≤ 16777216 ∧ Q (.str (Txt.join a ys)) S2)
  | _ => False
theorem me_join {o e : Expr} {to te : DE} {apos pos : Pos} (ho : PE X o (lE to)) (he : PE X e (lE te)) (hs : starEach [e] X.env = [(false, eval e X.env)] := by rfl) (hbase : attributeBase o "join" X.env (eval o X.env) = eval o X.env := by rfl) (hline : (apos.endLine == pos.line) = true := by rfl) :
    PE X (.Call (.Attribute o "join" apos) [e] [] pos) (lE (mJoin to te)) := (pe_join ho he hs hbase hline).mi fun s H Q ⟨r, S, M, Q', R, t, k⟩ => by
  refine ⟨r, S, M, _, R, t, fun d w1 v q k1 m1 r1 => ?_⟩
  split at q
  · next a =>
    cases r1
    refine ⟨⟨a, rfl⟩, r, w1.S, w1.M, _, R.keep k1 m1, q, fun e w2 u q2 k2 m2 r2 => ?_⟩
    obtain ⟨ds, h1, q3⟩ := of_opt q2
    obtain ⟨ys, h2, hl, q4⟩ := of_opt q3
    obtain ⟨p, vs, rfl, e1, e2, _⟩ := asL_rep (K := X.K) m2 h1 r2
    rw [reps_strs h2 e2] at e1
    exact ⟨a, p, ys, rfl, rfl, .inl e1, hl, k _ w2 _ q4 (k1.trans k2) m2 (.str _)⟩
  · exact q.elim
/-! ### str(x) -/
def oStr1 : OA := fun ds S Q => match ds with
  | [.int i] => (-1000000 ≤ i ∧ i ≤ 1000000) ∧ Q (.str (toString i)) S
  | [.str a] => Q (.str a) S
  | _ => False
theorem log_small {i : Int} (h : -1000000 ≤ i ∧ i ≤ 1000000) : i.natAbs.log2 < 1920 := by
  have h1 : i.natAbs ≤ 1000000 := by omega
  have h2 : i.natAbs < 2 ^ 20 := by omega
  by_cases h0 : i.natAbs = 0
  · rw [h0]; decide
  · have := (Nat.log2_lt h0).mpr h2
    omega
theorem opA_str1 : OpA (fun xs H Q => (∃ i, xs = [.int i] ∧ i.natAbs.log2 < 1920 ∧ Q (.str (toString i)) H) ∨ ∃ a, xs = [V.str a] ∧ Q (.str a) H) oStr1 := by
  intro ds vs w Q Q' m rr h k
  unfold oStr1 at h
  split at h
  · obtain ⟨v, rfl, r⟩ := reps1 rr
    cases r
    exact .inl ⟨_, rfl, log_small h.1, k _ w _ h.2 .refl m (.str _)⟩
  · obtain ⟨v, rfl, r⟩ := reps1 rr
    cases r
    exact .inr ⟨_, rfl, k _ w _ h .refl m (.str _)⟩
  · exact h.elim
theorem me_str1 {e : Expr} {p pos : Pos} {t : DA} (hm : X.mg "str" = none) (ha : PA X [e] (lA t)) (hg : Gl X "str" := by rfl) (hs : starEach [e] X.env = (false, eval e X.env) :: starEach [] X.env := by rfl) : PE X (.Call (.Name "str" p) [e] [] pos) (lE (mCall oStr1 t)) :=
  me_callTy (CallR.or call_str_int SkE.call_str_str) opA_str1 hm ha (by decide +kernel) hg (by decide) (by decide) hs
end
end ML

set_option maxRecDepth 100000
/-! MLR: list(range(a, b)), an object. -/
namespace ML
open PySem PySem.Spec PyProof.Rows L2
section
variable {X : Cx}
def rgI (a b : Int) : List Int := (List.range (b - a).toNat).map fun i => a + (i : Nat)
abbrev mListRg (ta tb : DE) : DE := fun r S Q => ta r S fun d S1 => match d with
  | .int i => tb r S1 fun e S2 => match e with
    | .int j => (0 ≤ i ∧ j ≤ 16777216 ∧ i ≤ 16777216 ∧ 0 ≤ j) ∧ ∀ a, S2 a = none → Q (.obj a) (up S2 a (.lst ((rgI i j).map D.int)))
    | _ => False
  | _ => False
theorem reps_rg (w : W) : ∀ bs : List Int, Reps w (bs.map V.int) (bs.map D.int)
  | [] => .nil
  | b :: bs => .cons (.int b) (reps_rg w bs)
theorem me_listRg {a b : Expr} {ta tb : DE} {p p2 pos pos2 : Pos} (hc : X.calm = true) (hm : X.mg "list" = none) (hm2 : X.mg "range" = none) (ha : PE X a (lE ta)) (hb : PE X b (lE tb)) (hg : Gl X "list" := by rfl) (hg2 : Gl X "range" := by rfl)
    (na : starEach [Expr.Call (.Name "range" p2) [a, b] [] pos2] X.env = (false, eval (Expr.Call (.Name "range" p2) [a, b] [] pos2) X.env) :: starEach [] X.env := by rfl)
    (n1 : starEach [a, b] X.env = (false, eval a X.env) :: starEach [b] X.env := by rfl) (n2 : starEach [b] X.env = (false, eval b X.env) :: starEach [] X.env := by rfl) (hp : (backTo pos2 (starEach [b] X.env)).any (·.1) = false := by rfl) :
    PE X (.Call (.Name "list" p) [.Call (.Name "range" p2) [a, b] [] pos2] [] pos) (lE (mListRg ta tb)) :=
  (pe_listRg hc hg hm (prg_2 hg2 hm2 ha hb n1 n2 hp) na).mi fun s H Q ⟨r, S, M, Q', R, t, k⟩ => by
    refine ⟨r, S, M, _, R, t, fun d w1 v q k1 m1 r1 => ?_⟩
    split at q
    · next i =>
      cases r1
      refine ⟨r, w1.S, w1.M, _, R.keep k1 m1, q, fun e w2 u q2 k2 m2 r2 => ?_⟩
      split at q2
      · next j =>
        cases r2
        refine ⟨i, j, rfl, rfl, RgOk.of_le q2.1.1 q2.1.2.1 q2.1.2.2.1 q2.1.2.2.2, fun p hp => ?_⟩
        have e1 : rgV i j = (rgI i j).map V.int := by unfold rgV rgI; rw [List.map_map]; rfl
        have z : ((rgI i j).map V.int).length ≤ sizeLine := by
          rw [← e1, rgV_length, sizeLine_eq]
          have := q2.1
          omega
        rw [e1]
        exact k _ ⟨up w2.S p (.lst ((rgI i j).map D.int)), up w2.M p (.lst ((rgI i j).map D.int)), _⟩ _ (q2.2 p (m2.freeS hp)) ((k1.trans k2).trans (.alloc hp)) (m2.alloc hp (.lst (reps_rg w2 _) (by first | exact z | (rw [List.length_map] at *; exact z)))) (.obj p)
      · exact q2.elim
    · exact q.elim
end
end ML

set_option maxRecDepth 100000
/-! MSP: texts split, int(text), startswith. -/
namespace ML
open PySem PySem.Spec PyProof.Rows L2
section
variable {X : Cx}
theorem reps_strs2 (w : W) : ∀ ys : List Str, Reps w (ys.map V.str) (ys.map D.str)
  | [] => .nil
  | y :: ys => .cons (.str y) (reps_strs2 w ys)
/-! ### split -/
abbrev mSplit (to te : DE) : DE := fun r S Q => to r S fun d S1 => match d with
  | .str a => te r S1 fun e S2 => match e with
    | .str b => (0 < b.length ∧ a.length ≤ 100000 ∧ (Txt.split a b).length ≤ 100002) ∧ Q (.lst ((Txt.split a b).map D.str)) S2
    | _ => False
  | _ => False
theorem me_split {o e : Expr} {to te : DE} {apos pos : Pos} (ho : PE X o (lE to)) (he : PE X e (lE te)) (hs : starEach [e] X.env = [(false, eval e X.env)] := by rfl) (hbase : attributeBase o "split" X.env (eval o X.env) = eval o X.env := by rfl) (hline : (apos.endLine == pos.line) = true := by rfl) :
    PE X (.Call (.Attribute o "split" apos) [e] [] pos) (lE (mSplit to te)) := (pe_split ho he hs hbase hline).mi fun s H Q ⟨r, S, M, Q', R, t, k⟩ => by
  have hz := sizeLine_eq
  refine ⟨r, S, M, _, R, t, fun d w1 v q k1 m1 r1 => ?_⟩
  split at q
  · next a =>
    cases r1
    refine ⟨⟨a, rfl⟩, r, w1.S, w1.M, _, R.keep k1 m1, q, fun e w2 u q2 k2 m2 r2 => ?_⟩
    split at q2
    · next b =>
      cases r2
      obtain ⟨⟨b1, b2, b3⟩, q2⟩ := q2
      refine ⟨a, b, rfl, rfl, by have : b.length ≠ 0 := by omega
                                 simp [this], by omega, fun p hp => ?_⟩
      exact k _ ⟨w2.S, w2.M, _⟩ _ q2 ((k1.trans k2).trans (.new hp)) (m2.new hp) (.lst upd_same (m2.free hp) (reps_strs2 _ _) (by rw [List.length_map]; omega))
    · exact q2.elim
  · exact q.elim
/-! ### a question with one text -/
abbrev mAsk1 (f : Str → Str → Bool) (to te : DE) : DE := fun r S Q => to r S fun d S1 => match d with
  | .str a => te r S1 fun e S2 => match e with
    | .str b => Q (.bl (f a b)) S2
    | _ => False
  | _ => False
theorem me_startswith {o e : Expr} {to te : DE} {apos pos : Pos} (ho : PE X o (lE to)) (he : PE X e (lE te)) (hs : starEach [e] X.env = [(false, eval e X.env)] := by rfl) (hbase : attributeBase o "startswith" X.env (eval o X.env) = eval o X.env := by rfl) (hline : (apos.endLine == pos.line) = true := by rfl) :
    PE X (.Call (.Attribute o "startswith" apos) [e] [] pos) (lE (mAsk1 Txt.startswith to te)) := (pe_m1 F.slot_str_startswith F.type_str_startswith mt_startswith ho he hs hbase hline).mi fun s H Q ⟨r, S, M, Q', R, t, k⟩ => by
  refine ⟨r, S, M, _, R, t, fun d w1 v q k1 m1 r1 => ?_⟩
  split at q
  · next a =>
    cases r1
    refine ⟨⟨a, rfl⟩, r, w1.S, w1.M, _, R.keep k1 m1, q, fun e w2 u q2 k2 m2 r2 => ?_⟩
    split at q2
    · next b =>
      cases r2
      exact ⟨a, b, rfl, rfl, k _ w2 _ q2 (k1.trans k2) m2 (.bl _)⟩
    · exact q2.elim
  · exact q.elim
/-! ### int(text) -/
def oIntS : OA := fun ds S Q => match ds with
  | [.str a] => ∃ n, PySem.intText? a = some n ∧ a.length ≤ 640 ∧ Q (.int n) S
  | _ => False
theorem opA_intS : OpA (fun xs H Q => ∃ a n, xs = [.str a] ∧ PySem.intText? a = some n ∧ a.length ≤ 640 ∧ Q (.int n) H) oIntS := by
  intro ds vs w Q Q' m rr h k
  unfold oIntS at h
  split at h
  · obtain ⟨v, rfl, r⟩ := reps1 rr
    cases r
    obtain ⟨n, h1, h2, h3⟩ := h
    exact ⟨_, n, rfl, h1, h2, k _ w _ h3 .refl m (.int _)⟩
  · exact h.elim
theorem me_intS {e : Expr} {p pos : Pos} {t : DA} (hm : X.mg "int" = none) (ha : PA X [e] (lA t)) (hg : Gl X "int" := by rfl) (hs : starEach [e] X.env = (false, eval e X.env) :: starEach [] X.env := by rfl) : PE X (.Call (.Name "int" p) [e] [] pos) (lE (mCall oIntS t)) :=
  me_callTy call_int_str opA_intS hm ha (by decide +kernel) hg (by decide) (by decide) hs
end
end ML

set_option maxRecDepth 100000
/-! MSQ: text methods without arguments. -/
namespace ML
open PySem PySem.Spec PyProof.Rows L2
section
variable {X : Cx}
abbrev mMt0 (f : Str → Str) (to : DE) : DE := fun r S Q => to r S fun d S1 => match d with
  | .str a => a.length ≤ 10000 ∧ Q (.str (f a)) S1
  | _ => False
theorem mt0_imp {f : Str → Str} {n : Nat} (hn : 10000 ≤ n) {to : DE} : ∀ s H Q, lE (mMt0 f to) s H Q → tM0 (fun x xs H Q => ∃ a, x = .str a ∧ xs = [] ∧ a.length ≤ n ∧ Q (.str (f a)) H) (lE to) s H Q := by
  rintro s H Q ⟨r, S, M, Q', R, t, k⟩
  refine ⟨r, S, M, _, R, t, fun d w1 v q k1 m1 r1 => ?_⟩
  split at q
  · next a =>
    cases r1
    exact ⟨⟨a, rfl⟩, a, rfl, rfl, by omega, k _ w1 _ q.2 k1 m1 (.str _)⟩
  · exact q.elim
theorem me_upper {o : Expr} {to : DE} {apos pos : Pos} (ho : PE X o (lE to)) (hbase : attributeBase o "upper" X.env (eval o X.env) = eval o X.env := by rfl) (hline : (apos.endLine == pos.line) = true := by rfl) :
    PE X (.Call (.Attribute o "upper" apos) [] [] pos) (lE (mMt0 Txt.upper to)) := (pe_upper ho hbase hline).mi (mt0_imp (by decide))
theorem me_strip0 {o : Expr} {to : DE} {apos pos : Pos} (ho : PE X o (lE to)) (hbase : attributeBase o "strip" X.env (eval o X.env) = eval o X.env := by rfl) (hline : (apos.endLine == pos.line) = true := by rfl) :
    PE X (.Call (.Attribute o "strip" apos) [] [] pos) (lE (mMt0 Txt.strip to)) := (pe_strip ho hbase hline).mi (mt0_imp (by rw [sizeLine_eq]; decide))
end
end ML

set_option maxRecDepth 100000
set_option maxHeartbeats 4000000
/-! MSR: tuple * int. -/
namespace L2
open PySem PySem.Spec PyProof.Rows
theorem tuple_mul0 (l : Addr) (items : Array Value) (n : Nat) (dd : Option Addr) (sl : Array (Option Value)) (x : Int) (u : Tok) (c0 : (decide (x < -(2 ^ 63)) || decide (x ≥ 2 ^ 63)) = false) (c1 : (items.isEmpty || x == 1) = true) :
    Meets (Builtin.«tuple.__mul__» ⟨[.ref l, .int x u], []⟩) (fun _ R s => s.heap.get? l = some { cls := .type "tuple", dict := dd, data := .seq items n, slots := sl } ∧ R (.ok (.ret (Value.ref l))) s) :=
  .of_wp fun prog w A R s h => by
    obtain ⟨hp, g, d, tk, os⟩ := s
    obtain ⟨hl, h⟩ := h
    have f1 := AutoSeq1.idx_int
    wp_walk using wpAny_loadPart' hl
    repeat (first
      | (refine wpAny_ite_false (decide_eq_false (by rw [c0]; exact Bool.false_ne_true)) ?_; wp_walk using wpAny_loadPart' hl)
      | (refine wpAny_ite_true (decide_eq_true c1) ?_; wp_walk using wpAny_loadPart' hl))
    exact ⟨_, rfl, h⟩
def rRepT0 (K : PySem.W.Frag) : R2 := fun x y H Q => ∃ l k, x = .ref l ∧ y = .int k ∧ SqT K H l [] ∧ 2 ≤ k ∧ k ≤ 1000 ∧ Q (.ref l) H
section
variable {X : Cx}
theorem op_repT0 : OpR X (binaryOp .Mult) (rRepT0 X.K) := by
  intro pins s σ H x y v u Q I rx ry h
  obtain ⟨l, k, rfl, rfl, hT, h1, h2, q⟩ := h
  cases rx
  obtain ⟨t, rfl⟩ := ry
  obtain ⟨its, r, ⟨⟨cls, dd, data, sl⟩, ho, hc, n, hd⟩, hs⟩ := I.tuple hT
  simp only at hc hd
  subst hc hd
  cases r
  have c0 : (decide (k < -(2 ^ 63)) || decide (k ≥ 2 ^ 63)) = false := by
    rw [decide_eq_false (by omega), decide_eq_false (by omega)] <;> rfl
  refine wpAny_binaryOp_repeat_ref (T := "tuple") (U := "int") (by decide) ⟨_, ho, rfl⟩ (fun s' => typeIs_int s' k t) noFill_tuple_mul F.fills_int_mul F.slot_int_rmul repeat_tuple F.slot_int_index.lookup
    (call_meets F.slot_int_rmul (typeIs_int s k t) F.entry_int_rmul (F.args_int_rmul_2 _ _) (int_rmul_tuple k t l [].toArray n dd sl)
      ⟨ho, rfl, ⟨_, ho, rfl⟩, call_meets F.slot_tuple_mul ⟨_, ho, rfl⟩ F.entry_tuple_mul (F.args_tuple_mul_2 _ _) (tuple_mul0 l [].toArray n dd sl k t c0 rfl) ⟨ho, ?_⟩⟩)
  exact ⟨.ref l, H, I, rfl, q⟩
end
end L2
namespace ML
open PySem PySem.Spec PyProof.Rows L2
section
variable {X : Cx}
def oMulT : O2 := fun x y S Q => match x, y with
  | .tup xs, .int k => (2 ≤ k ∧ k ≤ 1000 ∧ xs.length ≤ 1000) ∧ Q (.tup (List.replicate k.toNat xs).flatten) S
  | _, _ => False
theorem op2_mulT {K : PySem.W.Frag} : Op2 (fun x y H Q => rRepT K x y H Q ∨ rRepT0 K x y H Q) oMulT := by
  intro x y v u w Q Q' m rx ry h k
  have hz := sizeLine_eq
  unfold oMulT at h
  split at h
  · next xs i =>
    obtain ⟨⟨h1, h2, h3⟩, q⟩ := h
    cases ry
    cases rx with
    | @tup a vs _ e n rr z =>
      have hl := rr.length
      cases xs with
      | nil =>
        cases rr
        refine .inr ⟨a, i, rfl, rfl, .inl (.inl e), h1, h2, k _ w _ ?_ .refl m (.tup e n .nil z)⟩
        rw [show (List.replicate i.toNat ([] : List D)).flatten = [] by simp] at q
        exact q
      | cons x0 xs =>
        refine .inl ⟨a, i, vs, rfl, rfl, .inl (.inl e), (fun y => by rw [y] at hl; cases hl), h1, h2, by omega, fun p hp => ?_⟩
        refine k _ ⟨w.S, w.M, _⟩ _ q (.new hp) (m.new hp) (.tup upd_same (m.free hp) ((reps_rep rr i.toNat).keep (.new hp) m) ?_)
        rw [rep_len]
        have : i.toNat * (x0 :: xs).length ≤ 1000 * 1000 := Nat.mul_le_mul (by omega) h3
        omega
  · exact h.elim
theorem me_mulT {a b : Expr} {ta tb : DE} {pos : Pos} (ha : PE X a (lE ta)) (hb : PE X b (lE tb)) : PE X (.BinOp a .Mult b pos) (lE (mBin oMulT ta tb)) := me_bin (OpR.or op_repT op_repT0) op2_mulT ha hb
/-- d.get(k, x) of a dict that is walked -/
abbrev mGet2K (to tk tx : DE) : DE := fun r S Q => to r S fun d S1 => match d with
  | .obj a => match S1 a with
    | some (.lck _ _ (.dk _)) => tk r S1 fun y S2 => tx r S2 fun z S3 => opt (getD S3 a y) fun o => Q (o.getD z) S3
    | _ => False
  | _ => False
theorem me_get2K {o e f : Expr} {apos pos : Pos} {to tk tx : DE} {n : Nat} (hr : Room n X.A) (ho : PE X o (lE to)) (he : PE X e (lE tk)) (hf : PE X f (lE tx)) (m : M2 X o "get" apos e f pos := by exact ⟨rfl, rfl, rfl, rfl⟩) : PE X (.Call (.Attribute o "get" apos) [e, f] [] pos) (lE (mGet2K to tk tx)) :=
  (pe_dget2 (by have := hr.un; omega) ho he hf m).mi fun s H Q ⟨r, S, M, Q', R, h, k⟩ => ⟨r, S, M, _, R, h, fun d w1 v q k1 m1 r1 => by
    split at q
    · next a =>
      split at q
      · next od u kvs ha =>
        cases r1
        obtain ⟨hH, ro⟩ := lck_at m1 ha
        have hd : IsD w1.H a := by
          cases ro with
          | @dk _ kws p => exact .inl ⟨kws, .inr ⟨od, hH⟩⟩
        refine ⟨a, rfl, hd, r, w1.S, w1.M, _, R.keep k1 m1, q, fun y w2 yv q2 k2 m2 r2 => ⟨r, w2.S, w2.M, _, (R.keep k1 m1).keep k2 m2, q2, fun z w3 zv q3 k3 m3 r3 => ?_⟩⟩
        obtain ⟨od, ho, q3⟩ := of_opt q3
        obtain ⟨ov, g, rp⟩ := getD_rep m3 ho (r2.keep k3 m2)
        refine ⟨ov, g, k _ w3 _ q3 ((k1.trans k2).trans k3) m3 ?_⟩
        cases od with
        | none => cases ov with
          | none => exact r3
          | some _ => exact False.elim rp
        | some d => cases ov with
          | none => exact False.elim rp
          | some _ => exact rp
      · exact q.elim
    · exact q.elim⟩
end
end ML

set_option maxRecDepth 100000
set_option maxHeartbeats 2000000
/-! MHV: isinstance(e, ValueError) of the exception that is held. -/
namespace ML
open PySem PySem.Spec PyProof.Rows L2
structure ExV (K : PySem.W.Frag) (mg : Str → Option Value) (tab : List Str) : Prop where
  ok : ∀ x ∈ tab, ∀ C : Addr, mg x = some (.ref C) → PySem.W.kitOne K (.ref C) (.type "ValueError") = some true ∧ ExcC K C
def exVe (tab : List Str) (K : PySem.W.Frag) : Bool := tab.all fun x => decide (PySem.W.kitOne K (.ref (He.ga K x)) (.type "ValueError") = some true) && excB K (He.ga K x)
theorem exV_of {K : PySem.W.Frag} {mg : Str → Option Value} {tab : List Str} (h : exVe tab K = true) (hg : ∀ x ∈ tab, mg x = some (.ref (He.ga K x))) : ExV K mg tab := ⟨fun x hx C h1 => by
  have g1 := hg x hx
  have h2 := List.all_eq_true.mp h x hx
  obtain ⟨h3, h4⟩ := Bool.and_eq_true_iff.mp h2
  rw [g1] at h1; cases h1
  exact ⟨of_decide_eq_true h3, excB_ok h4⟩⟩
abbrev mIsV (a : Addr) (x : Str) (tab : List Str) (te : DE) : DE := fun r S Q => te r S fun d S1 => d = .obj a ∧ x ∈ tab ∧ Q (.bl true) S1
section
variable {X : Cx}
theorem me_isPV {tab : List Str} {a : Addr} {oe : Obj} {x : Str} {Cx : Addr} {e : Expr} {te : DE} {p q pos : Pos} (ev : ExV X.K X.mg tab) (hp : (a, oe) ∈ X.pn) (hx : X.mg x = some (.ref Cx)) (hz : Zc (.ref Cx) none oe) (hv : ∃ vs, oe.data = .fields vs) (hm : X.mg "isinstance" = none) (hmT : X.mg "ValueError" = none)
    (he : PE X e (lE te)) (hg : Gl X "isinstance" := by rfl) (hgT : Gl X "ValueError" := by rfl)
    (hs : starEach [e, .Name "ValueError" q] X.env = (false, eval e X.env) :: starEach [.Name "ValueError" q] X.env := by rfl) (hs2 : starEach [.Name "ValueError" q] X.env = (false, eval (.Name "ValueError" q) X.env) :: starEach [] X.env := by rfl) (hpl : (backTo pos (starEach [.Name "ValueError" q] X.env)).any (·.1) = false := by rfl) :
    PE X (.Call (.Name "isinstance" p) [e, .Name "ValueError" q] [] pos) (lE (mIsV a x tab te)) := by
  by_cases hl : x ∈ tab
  · obtain ⟨k1, k2⟩ := ev.ok x hl Cx hx
    refine (pe_callB (call_isP hp k2 hz hv) hg hm (by decide +kernel) (pa_cons he (pa_cons (pe_bltn (v := .ty "ValueError") hgT hmT (by decide +kernel) rfl (by decide) (by decide)) pa_nil hs2) hs) (by decide) (by decide) hs hpl).mi fun s H Q ⟨r, S, M, Q', R, t, k⟩ => ⟨r, S, M, _, R, t, fun d w1 v h kk m1 r1 => ?_⟩
    obtain ⟨rfl, _, h⟩ := h
    cases r1
    exact ⟨.ty "ValueError", .type "ValueError", true, rfl, fun u hu => by cases hu; rfl, k1, k _ w1 _ h kk m1 (.bl true)⟩
  · have hno : CallR X (.builtin "isinstance") (fun _ _ _ => False) := fun _ _ _ _ _ _ _ _ _ h => h.elim
    refine (pe_callB hno hg hm (by decide +kernel) (pa_cons he (pa_cons (pe_bltn (v := .ty "ValueError") hgT hmT (by decide +kernel) rfl (by decide) (by decide)) pa_nil hs2) hs) (by decide) (by decide) hs hpl).mi fun s H Q ⟨r, S, M, Q', R, t, k⟩ => ⟨r, S, M, _, R, t, fun d w1 v h kk m1 r1 => ?_⟩
    obtain ⟨_, h, _⟩ := h
    exact (hl h).elim
end
end ML

set_option maxRecDepth 100000
set_option maxHeartbeats 2000000
/-! MLC: kinds.count(True), kinds a list of truth values. -/
namespace L2
open PySem PySem.Spec PyProof.Rows
def eqbv (k : Bool) (v : Value) : Bool := match v with
  | .bool b => b == k
  | _ => false
theorem eqbv_at {A : Around} {s : Shared} {h : Heap} {k : Bool} : ∀ {us : List Value} {bs : List Bool}, Vals (bs.map V.bl) us → ∀ y ∈ us, SeqAt.EqAt A s y (.bool k) (eqbv k y)
  | [], _, _ => fun y hy => by cases hy
  | u :: us, [], r => by cases r
  | u :: us, b :: bs, r => fun y hy => by
    cases r with
    | cons r1 r2 =>
      rcases List.mem_cons.mp hy with e | e
      · rw [e]
        have r1 : u = Value.bool b := r1
        rw [r1]
        exact SeqAt.EqAt.bool_bool b k
      · exact eqbv_at (h := h) r2 y e
theorem eqbv_count {k : Bool} : ∀ {us : List Value} {bs : List Bool}, Vals (bs.map V.bl) us → us.countP (eqbv k) = bs.count k
  | [], [], _ => rfl
  | [], _ :: _, r => by cases r
  | u :: us, [], r => by cases r
  | u :: us, b :: bs, r => by
    cases r with
    | cons r1 r2 =>
      have r1 : u = Value.bool b := r1
      have ih := eqbv_count (k := k) r2
      rw [List.countP_cons, List.count_cons, ih, r1] <;> rfl
section
variable {X : Cx}
def rCntB (K : PySem.W.Frag) : V → List V → Hp → VK → Prop := fun x xs H Q => ∃ (p : Addr) (bs : List Bool) (k : Bool), x = .ref p ∧ xs = [.bl k] ∧ SqL K H p (bs.map V.bl) ∧ Q (.int (bs.count k : Nat)) H
theorem mt_lcountB : MtR X "list.count" (rCntB X.K) := by
  intro pins s σ H x xs v us Q I rx rxs h
  obtain ⟨p, bs, k, rfl, rfl, hs, q⟩ := h
  cases rx
  obtain ⟨u, rfl, ru⟩ := rxs.one
  cases (show u = Value.bool k from ru)
  obtain ⟨its, rv, ⟨⟨cls, dd, data, sl⟩, n, ho, hc, hdn, hd⟩, hlen⟩ := I.list hs
  simp only at hc hd
  subst hc hd
  refine call_meets PySem.F.slot_list_count ⟨_, ho, rfl⟩ PySem.F.entry_list_count (PySem.F.args_list_count_2 _ _)
    (SeqAt.list_countAt p its.toArray n dd sl (.bool k) (eqbv k)) ⟨ho, fun y hy => eqbv_at (h := s.heap) rv y (by simpa using hy), ?_⟩
  have ec : its.toArray.toList.countP (eqbv k) = bs.count k := eqbv_count rv
  refine ⟨.int (bs.count k : Nat), H, I.tok _, ⟨s.toks, ?_⟩, q⟩
  show Value.int ((its.toArray.toList.countP (eqbv k) : Nat) : Int) s.toks = Value.int ((bs.count k : Nat) : Int) s.toks
  rw [ec]
end
end L2
namespace ML
open PySem PySem.Spec PyProof.Rows L2
section
variable {X : Cx} {pos : Pos}
theorem reps_blsC {w : W} : ∀ {bs : List Bool} {vs : List V}, Reps w vs (bs.map D.bl) → vs = bs.map V.bl
  | [], vs, r => by cases r; rfl
  | b :: bs, vs, r => by
    cases r with
    | cons r1 r2 =>
      cases r1
      rw [reps_blsC r2]; rfl
abbrev mCntB (te : DE) (t : DA) : DE := fun r S Q => te r S fun d S1 => ∃ bs : List Bool, d = .lst (bs.map D.bl) ∧ t r S1 fun ds S2 => match ds with
  | [.bl k] => Q (.int (bs.count k : Nat)) S2
  | _ => False
theorem me_cntB {o e : Expr} {apos : Pos} {to : DE} {t : DA} (ho : PE X o (lE to)) (ha : PA X [e] (lA t)) (hbase : attributeBase o "count" X.env (eval o X.env) = eval o X.env := by rfl)
    (hfew : ((backTo pos (starEach [e] X.env)).all (fun x => !x.1) && (backToKw pos (keywordEach [] X.env)).all (fun x => x.1.isSome) && decide ([e].length + ([] : List Keyword).length + (if ([] : List Keyword).isEmpty then 0 else 1) < 30)) = true := by rfl)
    (hline : (apos.endLine == pos.line) = true := by rfl) (hs : starEach [e] X.env = (false, eval e X.env) :: starEach [] X.env := by rfl) (hpl : (backTo pos (starEach [] X.env)).any (·.1) = false := by rfl) : PE X (.Call (.Attribute o "count" apos) [e] [] pos) (lE (mCntB to t)) :=
  (pe_bm PySem.F.plainAttrs_list PySem.F.slot_list_count PySem.F.type_list_count mt_lcountB ho ha hbase hfew hline hs hpl).mi fun s H Q ⟨r, S, M, Q', R, t, k⟩ => ⟨r, S, M, _, R, t, fun d w1 v q k1 m1 r1 => by
    obtain ⟨bs, rfl, q⟩ := q
    cases r1 with
    | @lst a vs ds e n rr z =>
      cases reps_blsC rr
      refine ⟨.inl ⟨rfl, _, .inl (.inl e)⟩, r, w1.S, w1.M, _, R.keep k1 m1, q, fun ds w2 vs q2 k2 m2 r2 => ?_⟩
      split at q2
      · next kk =>
        obtain ⟨vy, rfl, ry⟩ := reps1 r2
        cases ry
        exact ⟨a, bs, kk, rfl, rfl, .inl (.inl ((k2.keeps m1) _ _ e n).1), k _ w2 _ q2 (k1.trans k2) m2 (.int _)⟩
      · exact q2.elim⟩
theorem huH64 {A : Around} {k : Nat} (hr : L2H.RoomH k A) : A.units + 64 < cLine := by have := hr.un; omega
theorem huH65 {A : Around} {k : Nat} (hr : L2H.RoomH k A) : A.units + 65 < cLine := by have := hr.un; omega
theorem mt_neU {a b : Expr} {ta tb : DE} (hu : X.A.units + 64 < cLine) (ha : PE X a (lE ta)) (hb : PE X b (lE tb)) : PT X (.Compare a [.NotEq] [b] pos) (lT (mTst (mBin oNe ta tb))) := mt_cmp (OpR.or op_ne (op_neD hu)) op2_ne ha hb (nomark _)
end
end ML

set_option maxRecDepth 100000
set_option maxHeartbeats 2000000
/-! MSU: sorted(list of texts), text.count(text). -/
namespace ML
open PySem PySem.Spec PyProof.Rows L2
theorem reps_txts {w : W} : ∀ {bs : List Str} {vs : List V}, Reps w vs (bs.map D.str) → vs = bs.map V.str
  | [], _, r => by cases r; rfl
  | b :: bs, _, r => by
    cases r with
    | cons r1 r2 => cases r1; rw [reps_txts r2]; rfl
theorem txts_reps {w : W} : ∀ (bs : List Str), Reps w (bs.map V.str) (bs.map D.str)
  | [] => .nil
  | b :: bs => .cons (.str b) (txts_reps bs)
def oSortS : OA := fun ds S Q => match ds with
  | [d] => ∃ xs : List Str, asL S d = some (xs.map D.str) ∧ xs.length < 64 ∧ ∀ ys : List Str, ys.Perm xs → sortedS ys = true → Q (.lst (ys.map D.str)) S
  | _ => False
theorem opA_sortS {K : PySem.W.Frag} : OpA (rSortedS K) oSortS := by
  intro ds vs w Q Q' m rr h k
  have hz := sizeLine_eq
  unfold oSortS at h
  split at h
  · obtain ⟨v, rfl, r⟩ := reps1 rr
    obtain ⟨xs, h1, hl, h2⟩ := h
    obtain ⟨a, vs, rfl, e1, e2, z⟩ := asL_rep (K := K) m h1 r
    rw [reps_txts e2] at e1
    refine ⟨a, xs, rfl, e1, hl, fun ys p hp hs hn => k _ ⟨w.S, w.M, _⟩ _ (h2 ys hp hs) (.new hn) (m.new hn) (.lst upd_same (m.free hn) (txts_reps ys) ?_)⟩
    rw [List.length_map, hp.length_eq]; omega
  · exact h.elim
section
variable {X : Cx} {pos : Pos}
theorem me_sortS {e : Expr} {p : Pos} {t : DA} (hm : X.mg "sorted" = none) (ha : PA X [e] (lA t)) (hg : Gl X "sorted" := by rfl) (hs : starEach [e] X.env = (false, eval e X.env) :: starEach [] X.env := by rfl) : PE X (.Call (.Name "sorted" p) [e] [] pos) (lE (mCall oSortS t)) :=
  me_callB cr_sortedS opA_sortS hm ha (by decide +kernel) hg (by decide) (by decide) hs
abbrev mCntS (to te : DE) : DE := fun r S Q => to r S fun d S1 => match d with
  | .str a => te r S1 fun e S2 => match e with
    | .str b => Q (.int (Txt.count a b)) S2
    | _ => False
  | _ => False
theorem me_cntS {o e : Expr} {to te : DE} {apos pos : Pos} (ho : PE X o (lE to)) (he : PE X e (lE te)) (hs : starEach [e] X.env = [(false, eval e X.env)] := by rfl) (hbase : attributeBase o "count" X.env (eval o X.env) = eval o X.env := by rfl) (hline : (apos.endLine == pos.line) = true := by rfl) :
    PE X (.Call (.Attribute o "count" apos) [e] [] pos) (lE (mCntS to te)) := (pe_m1 F.slot_str_count F.type_str_count mt_count ho he hs hbase hline).mi fun s H Q ⟨r, S, M, Q', R, t, k⟩ => by
  refine ⟨r, S, M, _, R, t, fun d w1 v q k1 m1 r1 => ?_⟩
  split at q
  · next a =>
    cases r1
    refine ⟨⟨a, rfl⟩, r, w1.S, w1.M, _, R.keep k1 m1, q, fun e w2 u q2 k2 m2 r2 => ?_⟩
    split at q2
    · next b =>
      cases r2
      exact ⟨a, b, rfl, rfl, k _ w2 _ q2 (k1.trans k2) m2 (.int _)⟩
    · exact q2.elim
  · exact q.elim
end
end ML

set_option maxRecDepth 100000
set_option maxHeartbeats 2000000
/-! MRP: text.replace(name + "..", name + ".."): both are new texts. -/
namespace L2
open PySem PySem.Spec PyProof.Rows
section
variable {X : Cx} {o : Expr} {to : TE}
def tReplN (i : Nat) (c1 c2 : Str) (to : TE) : TE := fun σ H Q => to σ H fun x H1 => ∃ a n : Str, x = .str a ∧ σ[i]? = some (some (.str n)) ∧ 0 < n.length ∧ 0 < c1.length ∧ 0 < c2.length ∧ n.length + c1.length ≤ 1000 ∧ n.length + c2.length ≤ 1000 ∧ a.length ≤ 1000 ∧ c1 ≠ c2 ∧ Q (.str (Txt.replace a (n ++ c1) (n ++ c2))) H1
theorem add_new {prog : Program} {w : World} {A : Around} {E : Value → Shared → Prop} {s : Shared} {x y : Str} {t u : Tok} {Q : Value → Shared → Prop} (hx : 0 < x.length) (hy : 0 < y.length) (hz : x.length + y.length ≤ sizeLine) (h : Q (.str (x ++ y) s.toks) { s with toks := s.toks + 1 }) :
    wpAny (model prog w) A (binaryOp .Add (.str x t) (.str y u)) Q E s := by
  refine PySem.P.add_str ?_
  rw [if_neg (by rw [beq_iff_eq]; omega), if_neg (by rw [beq_iff_eq]; omega)]
  exact ⟨by rw [Str.length_append]; exact hz, h⟩
theorem pe_replN {i : Nat} {nx c1 c2 : Str} {k1 k2 : Nat} {p1 p2 p3 p4 p5 p6 apos pos : Pos} (hN : X.N[i]? = some nx) (hv : Vis X.env.scope nx) (ho : PE X o to)
    (hd : (nx == ("__debug__" : Str)) = false := by decide) (hcd : (nx == ("__classdict__" : Str)) = false := by decide)
    (hst : starEach [.BinOp (.Name nx p1) .Add (.Constant (.str c1) k1 p2) p3, .BinOp (.Name nx p4) .Add (.Constant (.str c2) k2 p5) p6] X.env =
      [(false, eval (.BinOp (.Name nx p1) .Add (.Constant (.str c1) k1 p2) p3) X.env), (false, eval (.BinOp (.Name nx p4) .Add (.Constant (.str c2) k2 p5) p6) X.env)] := by rfl)
    (hbase : attributeBase o "replace" X.env (eval o X.env) = eval o X.env := by rfl) (hline : (apos.endLine == pos.line) = true := by rfl) :
    PE X (.Call (.Attribute o "replace" apos) [.BinOp (.Name nx p1) .Add (.Constant (.str c1) k1 p2) p3, .BinOp (.Name nx p4) .Add (.Constant (.str c2) k2 p5) p6] [] pos) (tReplN i c1 c2 to) := by
  refine ⟨fun pins s σ H Q I h => ?_⟩
  have hz := sizeLine_eq
  refine PySem.Call_method2 hbase hst hline (thn (ho.run pins s σ H _ I h) fun v s1 ⟨x, H1, I1, r1, q1⟩ => ?_)
  obtain ⟨a, n, rfl, hσ, h1, h2, h3, h4, h5, h6, h7, q⟩ := q1
  obtain ⟨t, rfl⟩ := _root_.id r1
  refine ⟨"str", _, F.plainAttrs_str, F.slot_str_replace, F.type_str_replace, typeIs_str _ _ _, (fun _ e => nomatch e), Calls.callWith_builtin rfl (Calls.evalArgs_plain (Calls.spliced_cons ?_))⟩
  refine wpAny_BinOp (raw_name hN hv I1 hσ (fun u ru => ?_) hd hcd)
  obtain ⟨tu, rfl⟩ := _root_.id ru
  refine Calls.Constant_str (add_new h1 h2 (by omega) ?_)
  refine Calls.spliced_cons (wpAny_BinOp (raw_name hN hv ((I1.tok _).tok _) hσ (fun u ru => ?_) hd hcd))
  obtain ⟨tu, rfl⟩ := _root_.id ru
  refine Calls.Constant_str (add_new h1 h3 (by omega) ?_)
  refine Calls.spliced_nil ?_
  refine PySem.SC.replace (Nat.succ_ne_zero _) (Nat.succ_ne_zero _) (by show s1.toks + 1 ≠ s1.toks + 1 + 1 + 1; omega) ?_ ?_ fun t' k => ⟨.str (Txt.replace a (n ++ c1) (n ++ c2)), H1, (((I1.tok _).tok _).tok _).tok k, ⟨t', rfl⟩, q⟩
  · refine beq_eq_false_iff_ne.mpr fun e => h7 ?_
    have := congrArg TL.tl e
    rw [TL.tl_append, TL.tl_append] at this
    exact TL.ext_tl (List.append_cancel_left this)
  · rw [Str.length_append]
    have : (a.length + 1) * (n.length + c2.length) ≤ 1001 * 1000 := Nat.mul_le_mul (by omega) (by omega)
    omega
end
end L2
namespace ML
open PySem PySem.Spec PyProof.Rows L2
section
variable {X : Cx}
abbrev mReplN (i : Nat) (c1 c2 : Str) (to : DE) : DE := fun r S Q => to r S fun d S1 => match d with
  | .str a => ∃ n : Str, r[i]? = some (some (.str n)) ∧ (0 < n.length ∧ 0 < c1.length ∧ 0 < c2.length ∧ n.length + c1.length ≤ 1000 ∧ n.length + c2.length ≤ 1000 ∧ a.length ≤ 1000 ∧ c1 ≠ c2) ∧ Q (.str (Txt.replace a (n ++ c1) (n ++ c2))) S1
  | _ => False
theorem me_replN {o : Expr} {to : DE} {i : Nat} {nx c1 c2 : Str} {k1 k2 : Nat} {p1 p2 p3 p4 p5 p6 apos pos : Pos} (ho : PE X o (lE to)) (hN : X.N[i]? = some nx := by rfl) (hv : Vis X.env.scope nx := by first | exact Or.inl rfl | exact Or.inr (Or.inl rfl) | exact Or.inr (Or.inr rfl))
    (hd : (nx == ("__debug__" : Str)) = false := by decide) (hcd : (nx == ("__classdict__" : Str)) = false := by decide)
    (hst : starEach [.BinOp (.Name nx p1) .Add (.Constant (.str c1) k1 p2) p3, .BinOp (.Name nx p4) .Add (.Constant (.str c2) k2 p5) p6] X.env =
      [(false, eval (.BinOp (.Name nx p1) .Add (.Constant (.str c1) k1 p2) p3) X.env), (false, eval (.BinOp (.Name nx p4) .Add (.Constant (.str c2) k2 p5) p6) X.env)] := by rfl)
    (hbase : attributeBase o "replace" X.env (eval o X.env) = eval o X.env := by rfl) (hline : (apos.endLine == pos.line) = true := by rfl) :
    PE X (.Call (.Attribute o "replace" apos) [.BinOp (.Name nx p1) .Add (.Constant (.str c1) k1 p2) p3, .BinOp (.Name nx p4) .Add (.Constant (.str c2) k2 p5) p6] [] pos) (lE (mReplN i c1 c2 to)) :=
  (pe_replN hN hv ho hd hcd hst hbase hline).mi fun s H Q ⟨r, S, M, Q', R, t, k⟩ => ⟨r, S, M, _, R, t, fun d w1 v q k1 m1 r1 => by
    split at q
    · next a =>
      cases r1
      obtain ⟨n, hr, ⟨h1, h2, h3, h4, h5, h6, h7⟩, q⟩ := q
      obtain ⟨v, hv, rep⟩ := R.slot i _ hr
      cases rep
      exact ⟨a, n, rfl, hv, h1, h2, h3, h4, h5, h6, h7, k _ w1 _ q k1 m1 (.str _)⟩
    · exact q.elim⟩
abbrev bLst (n : Nat) (gs : DGs) : DG := fun d r S Q => match d with
  | .lst ds => match Nat.beq ds.length n with
    | true => gs ds r S Q
    | false => False
  | _ => False
theorem mg_lst {es : List Expr} {k : Nat} {gs : DGs} {is : List Nat} {n : Nat} {pos : Pos} (hc : X.calm = true) (h : PGs X es (lGs is gs)) (hn : (assignEach es X.env).length = n := by rfl) (hst : (assignEach es X.env).findIdx? (·.1) = none := by rfl) :
    PG X (.Tuple es k pos) (lG is (bLst n gs)) := (pg_unl hc h hn hst).mi fun v s H Q ⟨d, r, S, M, Q', R, rp, h, kk⟩ => by
  unfold bLst at h
  split at h
  · next ds =>
    split at h
    · next e2 =>
      cases rp with
      | @lst a vs _ e hn rr z =>
        exact ⟨a, vs, rfl, .inl (.inl e), by rw [rr.length]; exact Nat.eq_of_beq_eq_true e2, ds, r, S, M, Q', R, rr, h, kk⟩
    · exact h.elim
  · exact h.elim
end
end ML

set_option maxRecDepth 100000
set_option maxHeartbeats 2000000
/-! MRG: repr(tuple) where no repr is under way; a law that asks for it, at its own place. -/
namespace L2
open PySem PySem.Spec PyProof.Rows
section
variable {X : Cx}
def rReprD (K : PySem.W.Frag) : List V → Hp → VK → Prop := fun xs H Q => ∃ (a : Addr) (d : PyData), xs = [V.ref a] ∧ Dp K H (V.ref a) d ∧ d.showable = true ∧ d.hasDict = false ∧ d.depth ≤ 60 ∧ d.shown.length ≤ sizeLine ∧ Q (.str d.shown) H
theorem call_reprD (hg : X.A.guards = some []) (hu : X.A.units + 65 < cLine) : CallR X (.builtin "repr") (rReprD X.K) := by
  intro pins s σ H xs us Q I r h
  obtain ⟨a, d, rfl, hd, hs, hn, hdp, hz, q⟩ := h
  obtain ⟨u, rfl, ru⟩ := r.one
  obtain ⟨as, ra⟩ := Dp.reads I d _ u hd ru
  cases (show u = Value.ref a from ru)
  exact repr_of_reads' ra hs (fun e => by rw [hn] at e; cases e) hg (by omega) (fun _ _ e => e) (fun h' u tk hk => ⟨.str d.shown, H, I.kept hk, ⟨_, rfl⟩, q⟩) hz
def tTupK (t : TA) : TE := fun σ H Q => t σ H fun xs H1 => xs.length ≤ sizeLine ∧ ∀ p o, H1 p = none → o.dict = none → Q (.ref p) (upd H1 p (.frz o (.tup xs)))
theorem pe_tupK {es : List Expr} {t : TA} {pos : Pos} {x1} (h : PA X es t) : PE X (.Tuple es x1 pos) (tTupK t) := by
  refine ⟨fun pins s σ H Q I hq => ?_⟩
  refine wpAny_Tuple_spliced (thn (h.run pos pins s σ H _ I hq) fun us s1 ⟨xs, H1, I1, r, z, q⟩ => ⟨by rw [← r.length]; exact z, ?_⟩)
  have I2 : Inv X pins σ (upd H1 s1.heap.objs.size (.frz { cls := .type "tuple", data := .seq us.toArray } (.tup xs))) { s1 with heap := s1.heap.push { cls := .type "tuple", data := .seq us.toArray } } :=
    I1.laid (t' := s1.toks) (fun b o e => Heap.get?_push_of_some _ e) (Nat.le_refl _) (show ObjOk X.prog X.w _ _ _ (.frz _ (.tup xs)) from ⟨Heap.get?_push_size _ rfl, z, us, r, IsTup.new _ _⟩)
  exact ⟨.ref s1.heap.objs.size, _, I2, rfl, q _ _ (I1.hok.fresh (Nat.le_refl _)) rfl⟩
end
end L2
namespace ML
open PySem PySem.Spec PyProof.Rows L2
section
variable {X : Cx} {pos : Pos}
/-- repr of a tuple of data -/
def oRepr : OA := fun ds S Q => match ds with
  | [.tup xs] => ∃ p, toPyM S (.tup xs) = some p ∧ p.showable = true ∧ p.hasDict = false ∧ p.depth ≤ 60 ∧ p.shown.length ≤ sizeLine ∧ Q (.str p.shown) S
  | _ => False
theorem opA_repr {K : PySem.W.Frag} : OpA (rReprD K) oRepr := by
  intro ds vs w Q Q' m rr h k
  unfold oRepr at h
  split at h
  · next xs =>
    obtain ⟨v, rfl, r⟩ := reps1 rr
    obtain ⟨p, h1, h2, h3, h4, h5, q⟩ := h
    have hd := rep_dpM (K := K) m h1 r
    obtain ⟨a, vs, rfl, _⟩ := asT_rep (K := K) (show asT (.tup xs) = some xs from rfl) r
    exact ⟨a, p, rfl, hd, h2, h3, h4, h5, k _ w _ q .refl m (.str _)⟩
  · exact h.elim
theorem me_repr {e : Expr} {p : Pos} {t : DA} {n : Nat} (hg0 : X.A.guards = some []) (hr : Room n X.A) (hm : X.mg "repr" = none) (ha : PA X [e] (lA t)) (hg : Gl X "repr" := by rfl) (hs : starEach [e] X.env = (false, eval e X.env) :: starEach [] X.env := by rfl) : PE X (.Call (.Name "repr" p) [e] [] pos) (lE (mCall oRepr t)) :=
  me_callB (call_reprD hg0 (hu65 hr)) opA_repr hm ha (by decide +kernel) hg (by decide) (by decide) hs
/-- (a, b, ..), the tuple known to have no dict -/
abbrev mTupK (t : DA) : DE := fun r S Q => t r S fun ds S1 => ds.length ≤ 1000 ∧ Q (.kt ds) S1
theorem me_tupK {es : List Expr} {t : DA} {x1} (h : PA X es (lA t)) : PE X (.Tuple es x1 pos) (lE (mTupK t)) := (pe_tupK h).mi fun s H Q ⟨r, S, M, Q', R, t, k⟩ =>
  ⟨r, S, M, _, R, t, fun ds w1 vs ⟨hl, q⟩ k1 m1 r1 => by
    have hz := sizeLine_eq
    have hl2 := r1.length
    exact ⟨by omega, fun p o hp ho => k _ ⟨w1.S, w1.M, _⟩ _ q (k1.trans (.new hp)) (m1.new hp) (.kt upd_same ho (m1.free hp) (r1.keep (.new hp) m1) (by omega))⟩⟩
end
/-- a law's promise where no repr is under way -/
def FnG (P : Program) (w : World) (K : PySem.W.Frag) (mg : Str → Option Value) (base : Heap) (k : Nat) (f : Addr) (fd : FuncData) (ps : List Str) (sp : Sp) : Prop :=
  ∀ (A : Around) (outer : List Env) (s : Shared) (H : Hp) (args : Args) (us : List Value) (vs : List V) (Q : VK) (E : XK), Room k A → A.guards = some [] → Env0 P w K mg base A outer s H → BindsTo s fd args (ps.zip us) → Vals vs us → sp vs H Q E → codeAny (model P w) A (.call (.ref f) args) (CR CX0 outer P w H s Q E) s
section
variable {P : Program} {w : World} {K : PySem.W.Frag} {mg : Str → Option Value} {base : Heap}
theorem def_okG {x : Str} {st : Stmt} {dvs : List V} {kws : List (Str × V)} {a : Addr} {fd : FuncData} {N ps : List Str} {k : Nat} {f : DSp} (F : FunD K x x (defArgs st) (defBody st) (defScope st) dvs kws a fd) (Sc : FnScope N ps (defScope st)) (t : DS) (len : ∀ ds S Q, f ds S Q → ds.length = ps.length)
    (der : ∀ (cdv : Value) (A : Around) (outer : List Env) (s : Shared) (H : Hp) (E : XK), A.guards = some [] → Room k (A.deeper (envOfC x (defScope st) s.heap.objs.size a cdv)) → PSs (cxOf CX0 P w K mg base N x (defScope st) a cdv A outer s H E).nox (defBody st) (lS t))
    (sem : ∀ ds S Q, f ds S Q → t (endD Q) (startD N.length ds) S) : FnG P w K mg base (k + 1) a fd ps (lSp f) := by
  intro A outer s H args us vs Q E hr hg e0 hb rv hsp
  obtain ⟨oc, od, dV, kV, doc, pm, an, cdv, ct, osl, rfl, lk, hcd, _, _⟩ := F.ex
  obtain ⟨S, M, ds, Q', o, r, q, kk⟩ := hsp
  refine LamX.run_ofS lk hcd Sc hr e0 hb rv (r.length.trans (len ds S Q' q)) fun hr2 => ?_
  refine ⟨_, PSs.nox (der cdv A outer s H E hg hr2), startD N.length ds, S, M, endD Q', reps_start o r, sem ds S Q' q, ⟨fun r' w' s' a b c => ?_, fun d w' v a b c e => ?_, fun _ _ _ a _ _ => a.elim, fun _ _ _ a _ _ => a.elim, fun _ _ _ _ a _ _ => a.elim⟩⟩
  · exact kk .non w' .non a c b.ok .non
  · obtain ⟨S'', d', sh, q'⟩ := a
    obtain ⟨M', o', r', k2⟩ := sh w'.M w'.H v c e
    refine kk d' ⟨S'', M', w'.H⟩ v q' (fun c0 ob h n => ?_) o' r'
    obtain ⟨h1, h2, h3⟩ := b c0 ob h n
    obtain ⟨h4, h5⟩ := k2 c0 h3
    exact ⟨h1, h5.trans h2, h4⟩
end
/-- the script alone is tracked -/
def HsG (a : Addr) (vs : List Value) (ns : List Int) : Hp := fun b => if b = a then some (.frz { cls := .type "list", data := .seq vs.toArray } (.lst (ns.map V.int))) else none
theorem walkMLg {l : PySem.W.OpenLaw} {n k m : Nat} {q : Program} {loose : List Str} {XP : (Str → Option Value) → Heap → Prop} {d : DefRec} {ex : PySem.W.Frag → Bool} {fa : List He.Fa} {fn : List He.DefD} {f : DSp}
    (hn : l.most = some n) (hn2 : n ≤ sizeLine) (hdf : d.params.defaults = []) (hnm : d.name = ("law" : Str)) (hr : Room k callerA)
    (F : ∀ (w : World) (K : PySem.W.Frag) (mg : Str → Option Value) (fA : Addr) (h : Heap), K.In h → h.Ns mainGlobals mg → mg ("law" : Str) = some (.ref fA) → ex K = true → He.SaysD fa fn K →
      ∃ fd : FuncData, (∀ (s : Shared) (u : Value), BindsTo s fd ⟨[u], []⟩ [("script", u)]) ∧
        ∀ base : Heap, K.In base → base.Ns mainGlobals mg → FnG l.prog w K mg base k fA fd ["script"] (lSp f))
    (hf : ∀ (ns : List Int) S, f [.fls (ns.map .int)] S fun d _ => d = .bl true) :
    PySem.W.WalkO q loose XP (fun w h => (hookN m ex fa fn).says w h) l.row.toRowW d [] (fun f vs => PySem.call f vs) := by
  refine Att.attach_call hn hdf fun w s₀ s₁ mg mb fA o pm cd doc a vs ns G Y ho hd hcd hmg hobj hints hlen hgen => ?_
  obtain ⟨K, KX, nl, cx, c⟩ := Y
  rw [hnm] at hmg
  obtain ⟨fd, hb, hF⟩ := F w K mg fA _ KX G.T.g hmg cx c
  have hl : ns.length ≤ sizeLine := Nat.le_trans hlen hn2
  have hKa : K.lookup a = none := by
    cases e : K.lookup a with
    | none => rfl
    | some ob =>
      have h1 := KX a ob e
      rw [hobj] at h1
      cases h1
      exact absurd rfl (noL_at nl e)
  have Ha : HsG a vs ns a = some (.frz { cls := .type "list", data := .seq vs.toArray } (.lst (ns.map V.int))) := if_pos rfl
  have Hn : ∀ {b : Addr}, b ≠ a → HsG a vs ns b = none := fun h => if_neg h
  have hO : Only (HsG a vs ns) := fun b => by
    by_cases h : b = a
    · exact .inr ⟨_, _, by rw [h]; exact Ha⟩
    · exact .inl (Hn h)
  have get : ∀ {b : Addr} {ob : Obj}, s₁.heap.get? b = some ob → b ≠ a → (hidT s₁.heap (HsG a vs ns)).get? b = some ob := fun e h => hidT_get e (Hn h)
  have nsK : ∀ {b : Addr} {mm : Str → Option Value}, s₁.heap.Ns b mm → (hidT s₁.heap (HsG a vs ns)).Ns b mm := fun {b mm} ⟨ob, es, ep, e, dd, rr⟩ => ⟨ob, es, ep, get e (fun z => by
    rw [z, hobj] at e
    cases e
    cases dd), dd, rr⟩
  have hKb : K.In (hidT s₁.heap (HsG a vs ns)) := fun b ob e => get (KX b ob e) fun z => by rw [z, hKa] at e; cases e
  have hok : HOk l.prog w (HsG a vs ns) s₁.heap := fun b u e => by
    by_cases h : b = a
    · subst h
      rw [Ha] at e
      cases e
      exact ⟨hobj, by rw [List.length_map]; exact hl, vs, _, vals_ints hints, hobj⟩
    · rw [Hn h] at e; cases e
  have e0 : Env0 l.prog w K mg (hidT s₁.heap (HsG a vs ns)) callerA [] s₁ (HsG a vs ns) :=
    { frames := rfl, mod := ⟨hKb, nsK G.T.g, ⟨mb, nsK G.T.b, G.T.builtins⟩, let ⟨mc, h1, h2⟩ := G.T.nolimit; ⟨mc, nsK h1, h2⟩⟩, bs := fun b ob e => of_hidT e, bsz := Nat.le_of_eq (hidT_size _ _), funs := trivial, frf := (fun b hb => by cases hb), hok := hok, bare := .of_eq hgen }
  have hs := law_sp nl hl hO (show SqL K (HsG a vs ns) a (ns.map V.int) from .inl (.inr ⟨_, Ha⟩)) (hf ns)
  refine codeAny_mono (hF _ hKb (nsK G.T.g) callerA [] s₁ _ ⟨[.ref a], []⟩ [.ref a] [.ref a] _ _ hr rfl e0 (hb s₁ (.ref a)) (.cons rfl .nil) hs) fun r s' h => ?_
  cases r with
  | error e => exact (show False from h).elim
  | ok fl =>
    cases fl with
    | ret u =>
      obtain ⟨v, H', os, bare, un, hok', r', q'⟩ := h
      have q' : v = .bl true := q'
      subst q'
      obtain rfl : u = Value.bool true := r'
      refine ⟨rfl, OldK.of_keep fun b ob e => ?_, os, bare⟩
      by_cases hba : b = a
      · subst hba
        have z := un.frzs b _ _ Ha
        rw [hobj] at e
        cases e
        exact (hok' b _ z).1
      · exact un.keep b ob e (Hn hba) (fun z => by cases z) (fun z => by cases z)
    | _ => exact (show False from h).elim
end ML

set_option maxRecDepth 100000
set_option maxHeartbeats 2000000
/-! MLM: sorted(t, key=lambda number: (names[number], number)) in a law whose names is captured; the law's end with its table. -/
namespace ML
open PySem PySem.Spec PyProof.Rows L2
abbrev lamP (p : Pos) : Arguments := { posonlyargs := [], args := [{ arg := "number", annotation := none, pos := p }], vararg := none, kwonlyargs := [], kw_defaults := [], kwarg := none, defaults := [] }
abbrev lamB (p1 p2 p3 p4 p5 : Pos) (k : Nat) : Expr := .Tuple [.Subscript (.Name "names" p1) (.Name "number" p2) p3, .Name "number" p4] k p5
abbrev lamC : Scope := { kind := .function, names := [(Str.ofString "number", .local), (Str.ofString "names", .free)], isGenerator := false, isCoroutine := false, more := [] }
/-- the lambda called: all that was there stays -/
theorem lam_key {P : Program} {w : World} {A : Around} {s : Shared} {f c' c d : Addr} {q : Str} {cl : List (Str × Addr)} {pm ctv : Value} {p p1 p2 p3 p4 p5 : Pos} {k : Nat} {vs : List (Key × Value)} {n : Int} {tn tm : Tok} {nm : Str}
    (hroom : A.depth < recursionLimit) (hf : s.heap.get? f = some (PySem.W.kla_obj "<lambda>" q (lamP p) (lamB p1 p2 p3 p4 p5 k) lamC cl pm c' ctv)) (hcd : s.heap.CodeRec (.ref c') q)
    (hcl : cl.lookup ("names" : Str) = some c) (hc : s.heap.IsCell c (some (.ref d))) (hd : s.heap.DictOf (mixKind P w) d vs) (hv : valueAt vs (Sum.inl n) = some (.str nm tm)) (lim : s.heap.NoLimit) :
    wpAny (model P w) A (call (.ref f) [.int n tn]) (PySem.W.KeyPure (.tuple [.str nm, .int n]) s) (fun _ _ => False) s := by
  have key : codeAny (model P w) A (.call (.ref f) ⟨[.int n tn], []⟩) (fun r s' => ∃ v, r = .ok (.ret v) ∧ PySem.W.KeyPure (.tuple [.str nm, .int n]) s v s') s := by
    refine PySem.W.kla_callFunE hroom hf rfl rfl rfl rfl hcd ?_
    have hb : bindArgs (PySem.W.kla_fn "<lambda>" q (lamP p) (lamB p1 p2 p3 p4 p5 k) lamC cl pm (.ref c') ctv) ⟨[.int n tn], []⟩ = (pure [(("number" : Str), Value.int n tn)] : Sem (List (Str × Value))) := rfl
    rw [hb]
    refine wpAny_pure (wpAny_newFunctionEnv (show ∀ x ∈ lamC.names, x.2 ≠ NameKind.cell by decide) (fun y hy => by cases List.mem_singleton.mp hy; rfl) (fun h₁ hns hsb => ⟨lim.fresh _ hsb, ?_⟩) rfl)
    have kp : ∀ b o, s.heap.get? b = some o → h₁.get? b = some o := fun b o e => hsb.extBut b o (Nat.ne_of_lt (Heap.lt_size e)) (Heap.get?_push_of_some _ e)
    refine PySem.W.kla_codeExpr ?_
    have hn2 : h₁.IsCell c (some (.ref d)) := by
      obtain ⟨o, ho, hd⟩ := hc
      exact ⟨o, kp _ _ ho, hd⟩
    have hd2 : h₁.DictOf (mixKind P w) d vs := hd.keep kp
    refine wpAny_Tuple_spliced (Calls.spliced_cons ?_)
    refine subD_of PySem.F.slot_dict_getitem.lookup (fun _ _ => rfl) (wpAny_Name (wpAny_loadName_free rfl rfl hcl hn2 ?_ (by decide)) (by decide))
    refine wpAny_Name (wpAny_loadName_local rfl rfl hns rfl ⟨hd2.typeIs, wpAny_getItem_of (kV_is (k := Sum.inl n) ⟨_, rfl⟩) hd2.mapOf hv ?_⟩) (by decide)
    refine Calls.spliced_cons (wpAny_Name (wpAny_loadName_local rfl rfl hns rfl ?_) (by decide))
    refine Calls.spliced_nil ⟨by rw [sizeLine_eq]; show 2 ≤ 16777216; omega, ?_⟩
    refine ⟨_, rfl, _, _, rfl, fun b o e => Heap.get?_push_of_some _ (kp b o e), ?_⟩
    exact .tuple (Heap.get?_push_size _ rfl) rfl rfl (.cons (.str _ _) (.cons (.int _ _) .nil))
  refine wpAny_call (codeAny_mono key fun r s' hq => ?_)
  obtain ⟨v, rfl, h⟩ := hq
  exact h
section
variable {prog : Program} {w : World} {A : Around} {E : Value → Shared → Prop} {s : Shared}
/-- sorted(t, key=f), t a list or a tuple -/
theorem sortedKQ {β : Type} {R : Value → β → Prop} {l : Addr} {T : String} {o : Obj} {vs : List Value} {n : Nat} {bs : List β} {f : Addr} {Q : Value → Shared → Prop} (k : β → PyData) (hT : T = "list" ∨ T = "tuple") (ho : s.heap.get? l = some o) (hc : o.cls = .type T) (hd : o.data = .seq vs.toArray n)
    (e : PySem.W.EachIs R vs bs) (hal : PySem.W.AllAlike (bs.map k)) (hk : PySem.W.Sortable (bs.map k)) (hL : vs.length ≤ sizeLine) (hu : ∀ x, x ∈ bs → A.units + 2 + (k x).depth < cLine)
    (turn : ∀ (v : Value) (x : β), R v x → x ∈ bs → ∀ (h : Heap) (tk : Nat), (∀ b o, s.heap.get? b = some o → h.get? b = some o) →
      wpAny (model prog w) A.in1.in1 (call (.ref f) [v]) (PySem.W.KeyPure (k x) { s with heap := h, toks := tk }) (fun _ _ => False) { s with heap := h, toks := tk })
    (h : ∀ out c h' tk, (∀ b o, s.heap.get? b = some o → h'.get? b = some o) → h'.get? (s.heap.objs.size + 1) = some (seqObj "list" (List.toArray out) c) → PySem.W.EachIs R out (bs.mergeSort (PySem.W.dataLe false k)) →
      Q (.ref (s.heap.objs.size + 1)) { s with heap := h', toks := tk }) :
    wpAny (model prog w) A (call (.builtin "sorted") [.ref l] [(Str.ofString "key", .ref f)]) Q E s := by
  have up : ∀ {g : Heap}, PySem.W.KeepsBut (s.heap.objs.size + 1) (PySem.W.copyHeap s.heap vs) g → ∀ b o, s.heap.get? b = some o → g.get? b = some o := fun {g} kp b o q =>
    kp b o (Nat.ne_of_lt (Nat.lt_succ_of_lt (Heap.lt_size q))) (PySem.W.copyHeap_old q)
  refine call_function_entry_kw kind_sorted plain_sorted entry_sorted (ksk_s1 _ _) ?_
  unfold Builtin.«sorted»
  refine wpAny_bind (m := checkCount "sorted" 1 1 _) (wpAny_pure ?_)
  refine wpAny_bind (collectQ l hT ho hc hd (by rw [List.size_toArray]; exact hL) ?_)
  rw [List.toList_toArray]
  refine wpAny_bind (wpAny_newList ?_ hL)
  have sz : (gotH s.heap vs.toArray).objs.size = s.heap.objs.size + 1 := by rw [Heap.size_update, size_push']
  show wpAny _ _ _ _ _ { s with heap := PySem.W.copyHeap s.heap vs }
  rw [sz]
  refine wpAny_bind (wpAny_holding (wpAny_call_entry_kw slot_list_sort ⟨_, PySem.W.copyHeap_at s.heap vs, rfl⟩ entry_list_sort ?body (ksk_l1 _ _)))
  case body =>
    show wpAny (model prog w) A.in1.in1 (Builtin.«list.sort» ⟨[.ref (s.heap.objs.size + 1)], [(Str.ofString "key", .ref f)]⟩) _ _ _
    rw [ksk_t1]
    refine PySem.W.keyH_tree (kz := bs.map k) (s := { s with heap := PySem.W.copyHeap s.heap vs }) (PySem.W.copyHeap_at s.heap vs) (by rw [List.length_map]; exact e.length.symm) hL hal hk (PySem.W.bound_map (A := A.in1.in1) hu)
      (PySem.W.keyH_turns (s := { s with heap := PySem.W.copyHeap s.heap vs }) e fun v x hR hx h tk kp => turn v x hR hx h tk (up kp)) fun h' tk out c kp hD ko => ⟨_, rfl, ?_⟩
    exact wpAny_pure ⟨_, rfl, h out c h' tk (up kp) hD (PySem.W.keyedOut_each k ko e)⟩
end
/-! ### the lambda made -/
theorem upd_swap {H : Hp} {a b : Addr} {x y : HO} (h : a ≠ b) : upd (upd H a x) b y = upd (upd H b y) a x := by
  funext z
  by_cases h1 : z = b
  · subst h1; rw [upd_same, upd_ne (Ne.symm h), upd_same]
  · rw [upd_ne h1]
    by_cases h2 : z = a
    · subst h2; rw [upd_same, upd_same]
    · rw [upd_ne h2, upd_ne h2, upd_ne h1]
section
variable {X : Cx} {pins : List (Addr × Obj)} {σ : L2.St} {H : Hp} {s : Shared}
/-- behind the making: the heap as it was, or the table longer by a new code object -/
theorem lam_makeH {c P : Addr} {params : Arguments} {body : Expr} {scope : Scope} {pos : Pos} {E Q : Value → Shared → Prop} {ps : Array Value} (I : Inv X pins σ H s) (TB : LamX.TabB X.base X.mg c P) (hcode : X.env.code = .ref c) (hP : H P = some (.tbl ps)) (ht : TriplesOk ps.toList)
    (ha : ∀ (pos : Pos) (cv : Value), codeAmong pos ps.toList = some cv → ∃ c, cv = .ref c ∧ H c = some (LamX.CodeO c (X.env.qual ++ "<lambda>")))
    (hdef : defaultsOf params X.env = ([], [])) (hfree : ∀ y ∈ scope.names, y.2 = .free → ∃ c, X.env.cells.lookup y.1 = some c)
    (h : ∀ (f c' : Addr) (pm ctv : Value) (H1 : Hp) (s' : Shared), Inv X pins σ H1 s' → (H1 = H ∨ H c' = none ∧ H1 = upd (upd H P (.tbl (ps ++ #[rawInt pos.line, rawInt pos.col, .ref c']))) c' (LamX.CodeO c' (X.env.qual ++ "<lambda>"))) → H1 c' = some (LamX.CodeO c' (X.env.qual ++ "<lambda>")) →
      s'.heap.get? f = some (PySem.W.kla_obj "<lambda>" (X.env.qual ++ "<lambda>") params body scope (cloFrom X.env.cells scope.names []) pm c' ctv) → Q (.ref f) s') :
    wpAny (model X.prog X.w) X.A (eval (.Lambda params body scope pos) X.env) Q E s := by
  refine PySem.W.kla_eval hdef ?_
  have bP := TB.bm.keeps I.bk
  have gl := I.mod.glob.keeps I.bk
  have cd := TB.code.keeps I.bk
  have oP := I.hok P _ hP
  cases hc : codeAmong pos ps.toList with
  | none =>
    refine PySem.W.kla_makeFunction (mg := X.mg) (c := c) (P := P) (ps := ps) (closure_ok hfree) I.ok.glob gl hcode cd oP ht hc TB.gP bP fun c' ctv h' tk hx hge hlt hrec htb => ?_
    obtain ⟨_, oc, vs, t, e2, hoc, hd, hv⟩ := hrec
    cases e2
    refine h h'.objs.size c' ((X.mg "__name__").getD .none) ctv _ _ (LamX.inv_table (t' := tk) (more := #[rawInt pos.line, rawInt pos.col, .ref c'])
      (h' := h'.push (PySem.W.kla_obj "<lambda>" (X.env.qual ++ "<lambda>") params body scope (cloFrom X.env.cells scope.names []) ((X.mg "__name__").getD .none) c' ctv)) I hP
      (fun b o hb e => Heap.get?_push_of_some _ (hx b o hb e)) (Heap.get?_push_of_some _ htb) hge ⟨oc, vs, t, Heap.get?_push_of_some _ hoc, hd, hv⟩) (.inr ⟨I.hok.fresh hge, rfl⟩) upd_same (Heap.get?_push_size _ rfl)
  | some cv =>
    obtain ⟨c', rfl, hco⟩ := ha pos cv hc
    refine PySem.W.kla_makeFunctionHit (mg := X.mg) (c := c) (P := P) (ps := ps) (closure_ok hfree) I.ok.glob gl hcode cd oP ht hc bP fun ctv h' tk hx hsz => ?_
    exact h h'.objs.size c' ((X.mg "__name__").getD .none) ctv H _ (I.kept fun b o e => Heap.get?_push_of_some _ (hx b o e)) (.inl rfl) hco (Heap.get?_push_size _ rfl)
end
theorem up_eq {S : Mem} {P : Addr} {o : MO} (h : S P = some o) : up S P o = S := by
  funext b
  unfold up
  split
  · next e => rw [e, h]
  · rfl
/-- the table longer by one of the lambda's code objects, as a step of the world -/
theorem tbl_step {S M : Mem} {H : Hp} {P c' : Addr} {ps : Array Value} {pos : Pos} (k : Ok ⟨S, M, H⟩) (hS : S P = some .hid) (hP : H P = some (.tbl ps)) (hc : H c' = none) :
    Step ⟨S, M, H⟩ ⟨S, M, upd (upd H P (.tbl (ps ++ #[rawInt pos.line, rawInt pos.col, .ref c']))) c' (LamX.CodeO c' lamQ)⟩ ∧ Ok ⟨S, M, upd (upd H P (.tbl (ps ++ #[rawInt pos.line, rawInt pos.col, .ref c']))) c' (LamX.CodeO c' lamQ)⟩ := by
  have ne : P ≠ c' := ne_of_none hP hc
  have hM : M P = some .hid := k.sub P _ hS
  have eS : up S P .hid = S := up_eq hS
  have eM : up M P .hid = M := up_eq hM
  rw [upd_swap ne]
  have k1 : Ok ⟨S, M, upd H c' (LamX.CodeO c' lamQ)⟩ := k.new hc
  have s1 : Step ⟨S, M, H⟩ ⟨S, M, upd H c' (LamX.CodeO c' lamQ)⟩ := .new hc
  have mc : M c' = none := k.free hc
  obtain ⟨u, hu, ro⟩ := k1.mem P _ hM
  have hu : upd H c' (LamX.CodeO c' lamQ) P = some u := hu
  rw [upd_ne ne, hP] at hu
  cases hu
  have r : RepO ⟨S, M, upd H c' (LamX.CodeO c' lamQ)⟩ .hid (.tbl (ps ++ #[rawInt pos.line, rawInt pos.col, .ref c'])) := by
    cases ro with
    | tbl t =>
      have eL : (ps ++ #[rawInt pos.line, rawInt pos.col, .ref c']).toList = ps.toList ++ [rawInt pos.line, rawInt pos.col, .ref c'] := by simp
      refine .tbl ⟨by rw [eL]; exact PySem.TriplesOk_snoc _ _ _ _ t.1, fun p' cv hcv => ?_⟩
      rw [eL] at hcv
      rcases LamX.among_app _ t.1 hcv with z | z
      · exact t.2 p' cv z
      · exact ⟨c', z, upd_same, mc⟩
  have s2 := Step.write (M := M) (H := upd H c' (LamX.CodeO c' lamQ)) (o := .tbl (ps ++ #[rawInt pos.line, rawInt pos.col, .ref c'])) (y := .hid) hS
  have k2 := k1.write hS r
  rw [eS, eM] at s2 k2
  exact ⟨s1.trans s2, k2⟩
/-! ### sorted(t, key=lambda number: (names[number], number)) -/
def keyN (nm : Int → Str) (n : Int) : PyData := .tuple [.str (nm n), .int n]
def mSortLam (P : Addr) (te : DE) (j : Nat) : DE := fun r S Q => te r S fun d S1 => S1 P = some .hid ∧ ∃ (ns : List Int) (nm : Int → Str) (g : Addr), asQ S1 d = some (ns.map .int) ∧ r[j]? = some (some (.obj g)) ∧ (∀ n ∈ ns, getD S1 g (.int n) = some (some (.str (nm n)))) ∧
  Q (.lst ((ns.mergeSort (PySem.W.dataLe false (keyN nm))).map .int)) S1
theorem each_ints : ∀ {vs : List Value} {ns : List Int}, IntsAre vs ns → PySem.W.EachIs (fun v n => ∃ t, v = Value.int n t) vs ns
  | _, _, h => by
    induction h with
    | nil => exact .nil
    | cons _ _ _ ih => exact .cons ⟨_, rfl⟩ ih
theorem ints_each : ∀ {vs : List Value} {ns : List Int}, PySem.W.EachIs (fun v n => ∃ t, v = Value.int n t) vs ns → IntsAre vs ns
  | _, _, h => by
    induction h with
    | nil => exact .nil
    | cons h _ ih => obtain ⟨t, rfl⟩ := h; exact .cons _ _ ih
section
variable {X : Cx} {n j : Nat} {e : Expr} {te : DE} {q1 p p1 p2 p3 p4 p5 lp kp pos : Pos} {k5 : Nat} {c P : Addr}
theorem me_sortLam (hr : Room n X.A) (TB : LamX.TabB X.base X.mg c P) (hcode : X.env.code = .ref c) (hq : X.env.qual ++ "<lambda>" = lamQ) (hP0 : X.H_0 P = some (.tbl #[])) (hm : X.mg "sorted" = none) (he : PE X e (lE te)) (hN : X.N[j]? = some ("names" : Str)) (hsc : X.env.scope.names.lookup ("names" : Str) = some .cell)
    (hg : Gl X "sorted" := by rfl) (hs : backTo pos (starEach [e] X.env) = (false, eval e X.env) :: backTo pos (starEach [] X.env) := by rfl) (hpl : (backTo pos (starEach [e] X.env)).any (·.1) = false := by rfl) :
    PE X (.Call (.Name "sorted" q1) [e] [⟨some "key", .Lambda (lamP p) (lamB p1 p2 p3 p4 p5 k5) lamC lp, kp⟩] pos) (lE (mSortLam P te j)) := by
  refine ⟨fun pins s σ H Q I h => ?_⟩
  obtain ⟨r, S, M, Q', R, t, k⟩ := h
  refine wpAny_Call_Name_kw (ld_blt (u := .builtin "sorted") I hg hm (by decide +kernel) ?_ (by decide) (by decide))
  refine PyProof.Rows.callWith_kw ?_ hs hpl rfl rfl
  rw [hs]
  refine Calls.spliced_cons (thn (he.run pins s σ H (fun v H1 => ∃ (d : D) (w1 : W), w1.H = H1 ∧ Step ⟨S, M, H⟩ w1 ∧ Ok w1 ∧ Rep w1 v d ∧ w1.S P = some .hid ∧ ∃ (ns : List Int) (nm : Int → Str) (g : Addr), asQ w1.S d = some (ns.map .int) ∧ r[j]? = some (some (.obj g)) ∧
    (∀ n ∈ ns, getD w1.S g (.int n) = some (some (.str (nm n)))) ∧ Q' (.lst ((ns.mergeSort (PySem.W.dataLe false (keyN nm))).map .int)) w1.S) I ⟨r, S, M, _, R, t, fun d w1 v a b c e => ⟨d, w1, rfl, b, c, e, a⟩⟩) fun u s1 ⟨v, H1, I1, r1, d, ⟨S1, M1, HH⟩, hH, st1, ok1, rp1, hS1, ns, nm, g, hns, hjg, hget, hQ⟩ => ?_)
  have hH : HH = H1 := hH
  subst hH
  refine Calls.spliced_nil ?_
  show wpAny _ _ (evalAll [(do let v ← eval (.Lambda (lamP p) (lamB p1 p2 p3 p4 p5 k5) lamC lp) X.env; standAt pos; pure v)]) _ _ s1
  -- the table
  obtain ⟨ps, hP⟩ := I1.base.tbls P _ hP0
  rw [Array.empty_append] at hP
  obtain ⟨_, hu, ro⟩ := ok1.mem P _ (ok1.sub P _ hS1)
  have hu := hP.symm.trans hu
  cases hu
  have tg : TblG ⟨S1, M1, HH⟩ ps := by cases ro with | tbl t => exact t
  have hfree : ∀ y ∈ lamC.names, y.2 = NameKind.free → ∃ c, X.env.cells.lookup y.1 = some c := fun y hy e2 => by
    rcases List.mem_cons.mp hy with rfl | hy
    · cases e2
    · cases List.mem_singleton.mp hy
      exact I1.ok.has _ (.inl hsc)
  refine wpAny_evalAll_cons (wpAny_bind (lam_makeH I1 TB hcode hP tg.1 (fun pos cv e2 => by
    obtain ⟨c0, h1, h2, _⟩ := tg.2 pos cv e2
    rw [hq]
    exact ⟨c0, h1, h2⟩) rfl hfree fun f c' pm ctv H2 s2 I2 hH2 hc2 hf2 => wpAny_bind (wpAny_standAt (wpAny_pure (wpAny_evalAll_nil ?_)))))
  show wpAny _ _ (call (.builtin "sorted") [u] [(Str.ofString "key", .ref f)]) _ _ s2
  rw [hq] at hf2 hc2 hH2
  -- the world behind the making
  have w2 : Step ⟨S1, M1, HH⟩ ⟨S1, M1, H2⟩ ∧ Ok ⟨S1, M1, H2⟩ := by
    rcases hH2 with rfl | ⟨hn, rfl⟩
    · exact ⟨.refl, ok1⟩
    · exact tbl_step ok1 hS1 hP hn
  obtain ⟨st2, ok2⟩ := w2
  have rp2 := rp1.keep st2 ok1
  obtain ⟨a, vs, rfl, e1, e2, z⟩ := asQ_rep (K := X.K) (w := ⟨S1, M1, H2⟩) ok2 hns rp2
  rw [reps_ints e2] at e1
  obtain ⟨T, o, its, n', hT, ho, hc, hd, rv, hz⟩ := sq_both I2 e1
  obtain rfl : u = Value.ref a := r1
  have hi := rv.ints
  -- names
  obtain ⟨vg, hvg, rg⟩ := (R.keep st1 ok1 |>.keep st2 ok2).slot j _ hjg
  cases rg
  obtain ⟨m, hn, hl⟩ := I2.loc
  obtain ⟨ug, rug, lk⟩ := hl j _ _ hN hvg (.inr (.inl hsc))
  obtain rfl : ug = Value.ref g := rug
  obtain ⟨cc, hcc, hcell⟩ : ∃ cc, X.env.cells.lookup ("names" : Str) = some cc ∧ s2.heap.IsCell cc (some (.ref g)) := by
    rcases lk with ⟨hk, _⟩ | ⟨_, cc, h1, h2⟩
    · have hk := hsc.symm.trans (show X.env.scope.names.lookup ("names" : Str) = _ from hk)
      cases hk
    · exact ⟨cc, h1, h2⟩
  have hclo : (cloFrom X.env.cells lamC.names []).lookup ("names" : Str) = some cc := NdefX.clo_has hfree (by decide) hcc
  have hcr : s2.heap.CodeRec (.ref c') lamQ := NdefX.codeO_at I2.hok hc2
  have hu65 := hu65 hr
  refine sortedKQ (keyN nm) hT ho hc hd (each_ints hi) (PySem.W.AllAlike.of fun _ _ => by simp [keyN, PySem.W.alike, PySem.W.alikeAll]) (PySem.W.Sortable.tuples fun _ => ⟨_, _, rfl⟩) hz (fun x _ => ?_) (fun v x ⟨t, hv⟩ hx h' tk kp => ?_) fun out c0 h' tk kp hD eo => ?_
  · have hd : (keyN nm x).depth = 1 := by simp [keyN, PyData.depth, PyData.depthAll]
    omega
  · subst hv
    obtain ⟨ov, dg, rp⟩ := getD_rep (v := .int x) ok2 (hget x hx) (.int x)
    cases ov with
    | none => exact rp.elim
    | some w' =>
      have rp : Rep ⟨S1, M1, H2⟩ w' (.str (nm x)) := rp
      cases rp
      rcases dg with ⟨kvs, kk, e, ey, l⟩ | ⟨_, _, _, _, ey, _⟩
      · obtain ⟨_, _, vs', rel, dd⟩ := dk_rd I2.hok e
        have ek : kk = Sum.inl x := by
          cases kk with
          | inl i => cases ey; rfl
          | inr i => cases ey
        subst ek
        obtain ⟨w'', hw, rw'⟩ := RelO.some_of (v := .str (nm x)) (o := valueAt vs' (Sum.inl x)) (by rw [l]; exact rel.val _)
        obtain ⟨tm, rfl⟩ := rw'
        refine lam_key (c := cc) (d := g) (vs := vs') hr.depth (kp _ _ hf2) ?_ hclo ?_ (dd.keep kp) hw (I2.nolimit.keeps kp)
        · obtain ⟨c1, oc, vc, tc, h1, h2, h3, h4⟩ := hcr
          exact ⟨c1, oc, vc, tc, h1, kp _ _ h2, h3, h4⟩
        · obtain ⟨oc, h1, h2⟩ := hcell
          exact ⟨oc, kp _ _ h1, h2⟩
      · cases ey
  · have io := ints_each eo
    have ln : (ns.mergeSort (PySem.W.dataLe false (keyN nm))).length ≤ sizeLine := by rw [List.length_mergeSort]; rw [List.length_map] at z; exact z
    have hp : H2 (s2.heap.objs.size + 1) = none := I2.hok.fresh (Nat.le_succ _)
    refine ⟨.ref (s2.heap.objs.size + 1), upd H2 (s2.heap.objs.size + 1) (.lst ((ns.mergeSort (PySem.W.dataLe false (keyN nm))).map V.int)), I2.laid (t' := tk) kp (Nat.le_succ _) ⟨by rw [List.length_map]; exact ln, out, c0, vals_of_ints io, hD⟩, rfl, ?_⟩
    exact k _ ⟨S1, M1, upd H2 (s2.heap.objs.size + 1) _⟩ _ hQ ((st1.trans st2).trans (.new hp)) (ok2.new hp) (.lst upd_same (ok2.free hp) (ints_reps _) (by rw [List.length_map]; exact ln))
end
/-! ### the law's promise and its end, with its table -/
def FnT (P : Program) (w : World) (K : PySem.W.Frag) (mg : Str → Option Value) (base : Heap) (Pt : Addr) (k : Nat) (f : Addr) (fd : FuncData) (ps : List Str) (sp : Sp) : Prop :=
  ∀ (A : Around) (outer : List Env) (s : Shared) (H : Hp) (args : Args) (us : List Value) (vs : List V) (Q : VK) (E : XK), Room k A → H Pt = some (.tbl #[]) → Env0 P w K mg base A outer s H → BindsTo s fd args (ps.zip us) → Vals vs us → sp vs H Q E → codeAny (model P w) A (.call (.ref f) args) (CR CX0 outer P w H s Q E) s
section
variable {P : Program} {w : World} {K : PySem.W.Frag} {mg : Str → Option Value} {base : Heap}
theorem def_okT {x : Str} {st : Stmt} {dvs : List V} {kws : List (Str × V)} {a c Pt : Addr} {fd : FuncData} {N ps : List Str} {k : Nat} {f : DSp} (F : FunD K x x (defArgs st) (defBody st) (defScope st) dvs kws a fd) (hc : fd.code = .ref c) (Sc : FnScope N ps (defScope st)) (t : DS) (len : ∀ ds S Q, f ds S Q → ds.length = ps.length)
    (der : ∀ (A : Around) (outer : List Env) (s : Shared) (H : Hp) (E : XK), H Pt = some (.tbl #[]) → Room k (A.deeper (envOfC x (defScope st) s.heap.objs.size a (.ref c))) → PSs (cxOf CX0 P w K mg base N x (defScope st) a (.ref c) A outer s H E).nox (defBody st) (lS t))
    (sem : ∀ ds S Q, f ds S Q → t (endD Q) (startD N.length ds) S) : FnT P w K mg base Pt (k + 1) a fd ps (lSp f) := by
  intro A outer s H args us vs Q E hr hP e0 hb rv hsp
  obtain ⟨oc, od, dV, kV, doc, pm, an, cdv, ct, osl, rfl, lk, hcd, _, _⟩ := F.ex
  have hc : cdv = .ref c := hc
  subst hc
  obtain ⟨S, M, ds, Q', o, r, q, kk⟩ := hsp
  refine LamX.run_ofS lk hcd Sc hr e0 hb rv (r.length.trans (len ds S Q' q)) fun hr2 => ?_
  refine ⟨_, PSs.nox (der A outer s H E hP hr2), startD N.length ds, S, M, endD Q', reps_start o r, sem ds S Q' q, ⟨fun r' w' s' a b c => ?_, fun d w' v a b c e => ?_, fun _ _ _ a _ _ => a.elim, fun _ _ _ a _ _ => a.elim, fun _ _ _ _ a _ _ => a.elim⟩⟩
  · exact kk .non w' .non a c b.ok .non
  · obtain ⟨S'', d', sh, q'⟩ := a
    obtain ⟨M', o', r', k2⟩ := sh w'.M w'.H v c e
    refine kk d' ⟨S'', M', w'.H⟩ v q' (fun c0 ob h n => ?_) o' r'
    obtain ⟨h1, h2, h3⟩ := b c0 ob h n
    obtain ⟨h4, h5⟩ := k2 c0 h3
    exact ⟨h1, h5.trans h2, h4⟩
end
/-! ### the head: a hook that keeps no list and no table -/
def notT (g : Addr → Option Obj) (a : Addr) : Bool := match g a with
  | some ⟨.none, _, .fields _, _⟩ => false
  | _ => true
def kT (n : Nat) (g : Addr → Option Obj) : PySem.W.Frag := He.frG g ((He.asD g n).filter fun a => notL g a && notT g a)
def obsT (n : Nat) (ex : PySem.W.Frag → Bool) (fa : List He.Fa) (fn : List He.DefD) (g : Addr → Option Obj) : Bool × He.AlD := (noL (kT n g) && (PySem.W.noTabs (kT n g) && ex (kT n g)), He.obsD fa fn (kT n g))
def hookT (n : Nat) (ex : PySem.W.Frag → Bool) (fa : List He.Fa) (fn : List He.DefD) : PySem.W.Hook where
  α := Bool × He.AlD
  obs := fun s => obsT n ex fa fn s.heap.get?
  val := fun _ => (true, He.valD fn)
  says := fun _ h => ∃ K : PySem.W.Frag, K.In h ∧ noL K = true ∧ PySem.W.noTabs K = true ∧ ex K = true ∧ He.SaysD fa fn K
  of := fun _ _ e => by
    have h1 := congrArg (fun z : Bool × He.AlD => z.1) e
    have h2 := Bool.and_eq_true_iff.mp h1
    have h3 := Bool.and_eq_true_iff.mp h2.2
    exact ⟨_, He.frG_in, h2.1, h3.1, h3.2, congrArg (fun z : Bool × He.AlD => z.2) e⟩
  keeps := fun _ _ _ ⟨K, hK, c⟩ k => ⟨K, PySem.W.Frag.In.keeps hK k, c⟩
theorem obsT_eq {n : Nat} {ex : PySem.W.Frag → Bool} {fa : List He.Fa} {fn : List He.DefD} {g : Addr → Option Obj} {s : Shared} (h : ∀ a, g a = s.heap.get? a) : obsT n ex fa fn g = (hookT n ex fa fn).obs s := by
  obtain rfl : g = s.heap.get? := funext h
  rfl
theorem noTab_at {K : PySem.W.Frag} (h : PySem.W.noTabs K = true) {a : Addr} {o : Obj} (e : K.lookup a = some o) : o ≠ PySem.W.tabObj #[] := fun q => by
  have h2 := List.all_eq_true.mp h (a, o) (PySem.W.mem_of_lookupK e)
  subst q
  exact absurd (show false = true from h2) Bool.false_ne_true
/-- the script and the table alone are tracked -/
def HsT (a P : Addr) (vs : List Value) (ns : List Int) : Hp := fun b => if b = a then some (.frz { cls := .type "list", data := .seq vs.toArray } (.lst (ns.map V.int))) else if b = P then some (.tbl #[]) else none
def ST (P : Addr) : Mem := fun b => if b = P then some .hid else none
theorem walkMLt {l : PySem.W.OpenLaw} {n k m : Nat} {q : Program} {loose : List Str} {XP : (Str → Option Value) → Heap → Prop} {d : DefRec} {ex : PySem.W.Frag → Bool} {fa : List He.Fa} {fn : List He.DefD} {f : Addr → DSp}
    (hn : l.most = some n) (hn2 : n ≤ sizeLine) (hdf : d.params.defaults = []) (hnm : d.name = ("law" : Str)) (hr : Room k callerA) (hrec : ((recsOf q).any fun e => e.name == d.name) = true)
    (F : ∀ (w : World) (K : PySem.W.Frag) (mg : Str → Option Value) (fA : Addr) (h : Heap), K.In h → h.Ns mainGlobals mg → mg ("law" : Str) = some (.ref fA) → ex K = true → He.SaysD fa fn K →
      ∃ fd : FuncData, (∃ oc od osl, K.lookup fA = some ⟨oc, od, .func fd, osl⟩) ∧ (∀ (s : Shared) (u : Value), BindsTo s fd ⟨[u], []⟩ [("script", u)]) ∧
        ∀ (base : Heap) (c Pt : Addr), K.In base → base.Ns mainGlobals mg → fd.code = .ref c → LamX.TabB base mg c Pt → FnT l.prog w K mg base Pt k fA fd ["script"] (lSp (f Pt)))
    (hf : ∀ (Pt : Addr) (ns : List Int) S, S Pt = some .hid → f Pt [.fls (ns.map .int)] S fun d _ => d = .bl true) :
    PySem.W.WalkO q loose XP (fun w h => (hookT m ex fa fn).says w h) l.row.toRowW d [] (fun f vs => PySem.call f vs) := by
  refine Att.attach_call hn hdf fun w s₀ s₁ mg mb fA o pm cd doc a vs ns G Y ho hd hcd hmg hobj hints hlen hgen => ?_
  obtain ⟨K, KX, nl, nt, cx, c⟩ := Y
  have hmg0 := hmg
  rw [hnm] at hmg
  obtain ⟨fd, ⟨oc, od, osl, lkf⟩, hb, hF⟩ := F w K mg fA _ KX G.T.g hmg cx c
  -- the law's code object and its table
  obtain ⟨cT, PT, hcT, hHd, hPT⟩ : ∃ cT PT, fd.code = .ref cT ∧ PySem.W.CodeHd s₁.heap cT PT ∧ s₁.heap.get? PT = some { cls := .none, data := .fields #[] } := by
    obtain ⟨dL, hm, hn1⟩ := List.any_eq_true.mp hrec
    have hn2 : dL.name = d.name := beq_iff_eq.mp hn1
    obtain ⟨a', o', fd', c', P', h1, h2, h3, h4, h5, h6⟩ := G.T.tab dL hm
    rw [hn2, hmg0] at h1
    cases h1
    have g1 := KX _ _ lkf
    rw [g1] at h2
    cases h2
    cases h3
    exact ⟨c', P', h4, PySem.W.CodeHd.of h5 h6, h6.2⟩
  have hl : ns.length ≤ sizeLine := Nat.le_trans hlen hn2
  have hKa : K.lookup a = none := by
    cases e : K.lookup a with
    | none => rfl
    | some ob =>
      have h1 := KX a ob e
      rw [hobj] at h1
      cases h1
      exact absurd rfl (noL_at nl e)
  have hKP : K.lookup PT = none := by
    cases e : K.lookup PT with
    | none => rfl
    | some ob =>
      have h1 := KX PT ob e
      rw [hPT] at h1
      cases h1
      exact absurd rfl (noTab_at nt e)
  have aP : a ≠ PT := fun z => by
    rw [z, hPT] at hobj
    cases hobj
  have Ha : HsT a PT vs ns a = some (.frz { cls := .type "list", data := .seq vs.toArray } (.lst (ns.map V.int))) := if_pos rfl
  have HP : HsT a PT vs ns PT = some (.tbl #[]) := (if_neg aP.symm).trans (if_pos rfl)
  have Hn : ∀ {b : Addr}, b ≠ a → b ≠ PT → HsT a PT vs ns b = none := fun h h2 => (if_neg h).trans (if_neg h2)
  have get : ∀ {b : Addr} {ob : Obj}, s₁.heap.get? b = some ob → b ≠ a → b ≠ PT → (hidT s₁.heap (HsT a PT vs ns)).get? b = some ob := fun e h h2 => hidT_get e (Hn h h2)
  have nsK : ∀ {b : Addr} {mm : Str → Option Value}, s₁.heap.Ns b mm → (hidT s₁.heap (HsT a PT vs ns)).Ns b mm := fun {b mm} ⟨ob, es, ep, e, dd, rr⟩ => ⟨ob, es, ep, get e (fun z => by
    rw [z, hobj] at e
    cases e
    cases dd) (fun z => by
    rw [z, hPT] at e
    cases e
    cases dd), dd, rr⟩
  have hKb : K.In (hidT s₁.heap (HsT a PT vs ns)) := fun b ob e => get (KX b ob e) (fun z => by rw [z, hKa] at e; cases e) fun z => by rw [z, hKP] at e; cases e
  have hok : HOk l.prog w (HsT a PT vs ns) s₁.heap := fun b u e => by
    by_cases h : b = a
    · subst h
      rw [Ha] at e
      cases e
      exact ⟨hobj, by rw [List.length_map]; exact hl, vs, _, vals_ints hints, hobj⟩
    · by_cases h2 : b = PT
      · subst h2
        rw [HP] at e
        cases e
        exact hPT
      · rw [Hn h h2] at e; cases e
  have TB : LamX.TabB (hidT s₁.heap (HsT a PT vs ns)) mg cT PT := by
    refine ⟨?_, ?_, fun z => ?_⟩
    · obtain ⟨o, us, file, tf, flags, tg, inF, text, tt, e1, r1, r2, r3, r4, r5, r6, r7, r8, hne⟩ := hHd
      refine ⟨o, us, file, tf, flags, tg, inF, text, tt, get e1 (fun z => ?_) hne, r1, r2, r3, r4, r5, r6, r7, r8, hne⟩
      rw [z, hobj] at e1
      cases e1
      cases r2
    · obtain ⟨bm, ob, b1, b2, b3, b4, b5, b6⟩ := G.T.bmain
      have nP : bm ≠ PT := fun z => by
        rw [z, hPT] at b3
        cases b3
        cases b6
      refine ⟨bm, ob, b1, b2, fun z => ?_, nP, get b3 (fun z => ?_) nP, b4, b5, b6⟩
      · obtain ⟨o, es, ep, e, hd, _⟩ := G.T.g
        rw [z, e] at b3
        cases b3
        rw [hd] at b6
        cases b6
      · rw [z, hobj] at b3
        cases b3
        cases b6
    · obtain ⟨o, es, ep, e, hd, _⟩ := G.T.g
      rw [z, hPT] at e
      cases e
      cases hd
  have e0 : Env0 l.prog w K mg (hidT s₁.heap (HsT a PT vs ns)) callerA [] s₁ (HsT a PT vs ns) :=
    { frames := rfl, mod := ⟨hKb, nsK G.T.g, ⟨mb, nsK G.T.b, G.T.builtins⟩, let ⟨mc, h1, h2⟩ := G.T.nolimit; ⟨mc, nsK h1, h2⟩⟩, bs := fun b ob e => of_hidT e, bsz := Nat.le_of_eq (hidT_size _ _), funs := trivial, frf := (fun b hb => by cases hb), hok := hok, bare := .of_eq hgen }
  have SP : ST PT PT = some .hid := if_pos rfl
  have Sn : ∀ {b : Addr}, b ≠ PT → ST PT b = none := fun h => if_neg h
  have hs : lSp (f PT) [.ref a] (HsT a PT vs ns) (fun v _ => v = .bl true) fun _ _ _ => False := by
    refine ⟨ST PT, ST PT, [.fls (ns.map .int)], _, ⟨fun _ _ h => h, fun b o h => ?_⟩, .cons (.fls Ha (Sn aP) (ints_reps ns) (by rw [List.length_map]; exact hl)) .nil, hf PT ns _ SP, fun d w' v e _ _ r => ?_⟩
    · by_cases hb : b = PT
      · subst hb
        have h : ST b b = some o := h
        rw [SP] at h
        cases h
        refine ⟨_, HP, .tbl ⟨True.intro, fun pos cv hc => ?_⟩⟩
        have z : codeAmong pos [] = some cv := hc
        simp [codeAmong] at z
      · have h : ST PT b = some o := h
        rw [Sn hb] at h
        cases h
    · have e' : d = D.bl true := e
      subst e'
      cases r
      rfl
  refine codeAny_mono (hF _ cT PT hKb (nsK G.T.g) hcT TB callerA [] s₁ _ ⟨[.ref a], []⟩ [.ref a] [.ref a] _ _ hr HP e0 (hb s₁ (.ref a)) (.cons rfl .nil) hs) fun r s' h => ?_
  cases r with
  | error e => exact (show False from h).elim
  | ok fl =>
    cases fl with
    | ret u =>
      obtain ⟨v, H', os, bare, un, hok', r', q'⟩ := h
      have q' : v = .bl true := q'
      subst q'
      obtain rfl : u = Value.bool true := r'
      have key : ∀ b ob, b ≠ PT → s₁.heap.get? b = some ob → s'.heap.get? b = some ob := fun b ob nb e => by
        by_cases hba : b = a
        · subst hba
          have z := un.frzs b _ _ Ha
          rw [hobj] at e
          cases e
          exact (hok' b _ z).1
        · exact un.keep b ob e (Hn hba nb) (fun z => by cases z) (fun z => by cases z)
      have grown : ∃ more : Array Value, s'.heap.get? PT = some { cls := .none, data := .fields more } := by
        obtain ⟨more, z⟩ := un.tbls PT #[] HP
        exact ⟨_, hok' PT _ z⟩
      obtain ⟨more, hm⟩ := grown
      refine ⟨rfl, ⟨fun b ob e => ?_, fun b ob e => ?_⟩, os, bare⟩
      · by_cases hb2 : b = PT
        · subst hb2
          rw [hPT] at e
          cases e
          exact .inr (.inl ⟨(hHd.tab hPT).isCodeTable, rfl, #[], more, rfl, by rw [Array.empty_append]; exact hm⟩)
        · exact .inl (key b ob hb2 e)
      · by_cases hb2 : b = PT
        · subst hb2
          exact ⟨_, hm⟩
        · exact ⟨ob, key b ob hb2 e⟩
    | _ => exact (show False from h).elim
end ML

set_option maxRecDepth 100000
namespace LW
open PySem PySem.Spec PyProof.Rows L2 ML
section
variable {P : Program} {w : World} {K : PySem.W.Frag} {mg : Str → Option Value} {base : Heap}
def topS (i : Nat) : Stmt := PySem.Challenge.pw_parttree_k17_whole_nodes_and_elders.main.body.getD i (.Pass ⟨0, 0, 0, 0⟩)
def inS (s : Stmt) (j : Nat) : Stmt := match s with | .ClassDef (body := b) .. => b.getD j (.Pass ⟨0, 0, 0, 0⟩) | _ => .Pass ⟨0, 0, 0, 0⟩
abbrev itab : ExTab := []
abbrev xtab : ExTab := []
/-! ### is_name -/
abbrev s_is_name : Stmt := topS 6
abbrev nm_is_name : List Str := ["thing", "sign"]
theorem sc_is_name : FnScope nm_is_name ["thing"] (defScope s_is_name) := ⟨rfl, rfl, rfl, by decide +kernel, rfl, by decide +kernel, by decide +kernel⟩
abbrev m_is_name : DS :=
    (mRet (mAndV (mIsi .tStr (mVar 0)) (mAndV (mChain oLe oLe (mC (.int 1)) (mCall oLen (mCons (mVar 0) mNil)) (mC (.int 6))) (mCall oAll (mCons (mLc (wSeq (mVar 0)) [1] (bName 1) mYes (mBin (oIn false) (mVar 1) (mC (.str "abcdefghijklmnopqrstuvwxyz")))) mNil)))))
theorem d_is_name {n : Nat} (g_LETTERS : GlC mg "LETTERS" (.str "abcdefghijklmnopqrstuvwxyz")) (g_NAME_MOST : GlC mg "NAME_MOST" (.int 6)) (b_all : mg "all" = none) (b_isinstance : mg "isinstance" = none) (b_len : mg "len" = none) (b_str : mg "str" = none) {a : Addr} {cdv : Value} {A : Around} {outer : List Env} {s : Shared} {H : Hp} {E : XK} (hr : Room n (A.deeper (envOfC "is_name" (defScope s_is_name) s.heap.objs.size a cdv))) :
    PSs (cxOf CX0 P w K mg base nm_is_name "is_name" (defScope s_is_name) a cdv A outer s H E).nox (defBody s_is_name) (lS (m_is_name)) :=
    (mss_one (ms_ret (me_and (me_isi .tStr b_isinstance b_str (me_var 0)) (me_and (me_chain op_le op2_le op_le op2_le me_int (me_len b_len (ma_cons (me_var 0) ma_nil)) (me_gint g_NAME_MOST)) (me_one (me_all rfl b_all (ma_cons (me_lc (own := [("sign", 1)]) rfl sc_is_name.nd (mi_seq (me_var 0)) (blkOk_by (N := nm_is_name) (sc := defScope s_is_name) (by decide +kernel)) (fun _ _ _ _ _ => (mg_name (i := 1) sc_is_name.nd rfl (by first | exact Or.inl rfl | exact Or.inr rfl))) (fun _ _ _ _ _ => mts_nil) (fun _ _ _ _ _ => (me_in hr (me_var 1) (me_gstr g_LETTERS)))) ma_nil)))))))
/-! ### is_number -/
abbrev s_is_number : Stmt := topS 7
abbrev nm_is_number : List Str := ["thing", "low"]
theorem sc_is_number : FnScope nm_is_number ["thing", "low"] (defScope s_is_number) := ⟨rfl, rfl, rfl, by decide +kernel, rfl, by decide +kernel, by decide +kernel⟩
abbrev m_is_number : DS :=
    (mRet (mAndV (mIsi .tInt (mVar 0)) (mAndV (mNotV (mIsi .tBool (mVar 0))) (mChain oLe oLe (mVar 1) (mVar 0) (mC (.int 999))))))
theorem d_is_number {n : Nat} (g_NUMBER_MOST : GlC mg "NUMBER_MOST" (.int 999)) (b_bool : mg "bool" = none) (b_int : mg "int" = none) (b_isinstance : mg "isinstance" = none) {a : Addr} {cdv : Value} {A : Around} {outer : List Env} {s : Shared} {H : Hp} {E : XK} (hr : Room n (A.deeper (envOfC "is_number" (defScope s_is_number) s.heap.objs.size a cdv))) :
    PSs (cxOf CX0 P w K mg base nm_is_number "is_number" (defScope s_is_number) a cdv A outer s H E).nox (defBody s_is_number) (lS (m_is_number)) :=
    (mss_one (ms_ret (me_and (me_isi .tInt b_isinstance b_int (me_var 0)) (me_and (me_not (me_isi .tBool b_isinstance b_bool (me_var 0))) (me_one (me_chain op_le op2_le op_le op2_le (me_var 1) (me_var 0) (me_gint g_NUMBER_MOST)))))))
/-! ### is_node -/
abbrev s_is_node : Stmt := topS 8
abbrev nm_is_node : List Str := ["thing"]
theorem sc_is_node : FnScope nm_is_node ["thing"] (defScope s_is_node) := ⟨rfl, rfl, rfl, by decide +kernel, rfl, by decide +kernel, by decide +kernel⟩
abbrev m_is_node (f_is_name : DSp) (f_is_number : DSp) : DS :=
    (mSeq (mIfS (mOr (mNot (mTru (mIsi .tTup (mVar 0)))) (mOr (mTst (mBin oNe (mCall oLen (mCons (mVar 0) mNil)) (mC (.int 3)))) (mNot (mTru (mCall f_is_name (mCons (mBin oIx (mVar 0) (mC (.int 2))) mNil)))))) (mRet (mC (.bl false))) mNx)
    (mRet (mAndV (mCall f_is_number (mCons (mBin oIx (mVar 0) (mC (.int 0))) (mCons (mC (.int 1)) mNil))) (mCall f_is_number (mCons (mBin oIx (mVar 0) (mC (.int 1))) (mCons (mC (.int 0)) mNil))))))
theorem d_is_node {n : Nat} {f_is_name : DSp} {n_is_name : Nat} (c_is_name : Cal P w K mg base "is_name" n_is_name f_is_name) (l_is_name : n_is_name ≤ n) {f_is_number : DSp} {n_is_number : Nat} (c_is_number : Cal P w K mg base "is_number" n_is_number f_is_number) (l_is_number : n_is_number ≤ n) (g_TOP : GlC mg "TOP" (.int 0)) (b_isinstance : mg "isinstance" = none) (b_len : mg "len" = none) (b_tuple : mg "tuple" = none) {a : Addr} {cdv : Value} {A : Around} {outer : List Env} {s : Shared} {H : Hp} {E : XK} (hr : Room n (A.deeper (envOfC "is_node" (defScope s_is_node) s.heap.objs.size a cdv))) :
    PSs (cxOf CX0 P w K mg base nm_is_node "is_node" (defScope s_is_node) a cdv A outer s H E).nox (defBody s_is_node) (lS (m_is_node f_is_name f_is_number)) :=
    (mss_cons (ms_if (mw_or (mt_not (mt_tru (me_isi .tTup b_isinstance b_tuple (me_var 0)))) (mw_or (mt_ne hr (me_len b_len (ma_cons (me_var 0) ma_nil)) me_int) (mw_or1 (mt_not (mt_tru (me_call c_is_name hr (ma_cons (me_ix hr (me_var 0) me_int) ma_nil))))))).pt (mss_one (ms_ret me_bl)) mss_nil)
    (mss_one (ms_ret (me_and (me_call c_is_number hr (ma_cons (me_ix hr (me_var 0) me_int) (ma_cons me_int ma_nil))) (me_one (me_call c_is_number hr (ma_cons (me_ix hr (me_var 0) me_int) (ma_cons (me_gint g_TOP) ma_nil))))))))
/-! ### row_of -/
abbrev s_row_of : Stmt := topS 9
abbrev nm_row_of : List Str := ["rows", "number", "row"]
theorem sc_row_of : FnScope nm_row_of ["rows", "number"] (defScope s_row_of) := ⟨rfl, rfl, rfl, by decide +kernel, rfl, by decide +kernel, by decide +kernel⟩
abbrev m_row_of : DS :=
    (mSeq (mFor (wSeq (mVar 0)) (bName 2) (mIfS (mTst (mBin oEq (mBin oIx (mVar 2) (mC (.int 0))) (mVar 1))) (mRet (mVar 2)) mNx))
    (mRet (mC .non)))
theorem d_row_of {n : Nat} {a : Addr} {cdv : Value} {A : Around} {outer : List Env} {s : Shared} {H : Hp} {E : XK} (hr : Room n (A.deeper (envOfC "row_of" (defScope s_row_of) s.heap.objs.size a cdv))) :
    PSs (cxOf CX0 P w K mg base nm_row_of "row_of" (defScope s_row_of) a cdv A outer s H E).nox (defBody s_row_of) (lS (m_row_of)) :=
    (mss_cons (ms_for PassesOwn.never rfl (mi_seq (me_var 0)) (mg_name (i := 2) sc_row_of.nd rfl (by first | exact Or.inl rfl | exact Or.inr rfl)) (mss_one (ms_if (mt_eq hr (me_ix hr (me_var 2) me_int) (me_var 1)) (mss_one (ms_ret (me_var 2))) mss_nil)))
    (mss_one (ms_ret me_non)))
/-! ### elders -/
abbrev s_elders : Stmt := topS 10
abbrev nm_elders : List Str := ["rows", "number", "found", "row"]
theorem sc_elders : FnScope nm_elders ["rows", "number"] (defScope s_elders) := ⟨rfl, rfl, rfl, by decide +kernel, rfl, by decide +kernel, by decide +kernel⟩
abbrev m_elders (f_row_of : DSp) : DS :=
    (mSeq (mSet 2 (mTup mNil))
    (mSeq (mSet 3 (mCall f_row_of (mCons (mVar 0) (mCons (mVar 1) mNil))))
    (mSeq (mWhile (mAnd (mTst (mBin (oIs true) (mVar 3) (mC .non))) (mAnd (mTst (mBin oNe (mBin oIx (mVar 3) (mC (.int 1))) (mC (.int 0)))) (mTst (mBin (oIn true) (mBin oIx (mVar 3) (mC (.int 1))) (mVar 2))))) (mSeq (mSet 2 (mBin oAdd (mTup (mCons (mBin oIx (mVar 3) (mC (.int 1))) mNil)) (mVar 2)))
    (mSet 3 (mCall f_row_of (mCons (mVar 0) (mCons (mBin oIx (mVar 3) (mC (.int 1))) mNil))))))
    (mRet (mVar 2)))))
theorem d_elders {n : Nat} {f_row_of : DSp} {n_row_of : Nat} (c_row_of : Cal P w K mg base "row_of" n_row_of f_row_of) (l_row_of : n_row_of ≤ n) (g_TOP : GlC mg "TOP" (.int 0)) {a : Addr} {cdv : Value} {A : Around} {outer : List Env} {s : Shared} {H : Hp} {E : XK} (hr : Room n (A.deeper (envOfC "elders" (defScope s_elders) s.heap.objs.size a cdv))) :
    PSs (cxOf CX0 P w K mg base nm_elders "elders" (defScope s_elders) a cdv A outer s H E).nox (defBody s_elders) (lS (m_elders f_row_of)) :=
    (mss_cons (ms_set (i := 2) sc_elders.nd rfl (by first | exact Or.inl rfl | exact Or.inr rfl) (me_tup ma_nil))
    (mss_cons (ms_set (i := 3) sc_elders.nd rfl (by first | exact Or.inl rfl | exact Or.inr rfl) (me_call c_row_of hr (ma_cons (me_var 0) (ma_cons (me_var 1) ma_nil))))
    (mss_cons (ms_while PassesOwn.never (mw_and (mt_isNot (me_var 3) me_non) (mw_and (mt_ne hr (me_ix hr (me_var 3) me_int) (me_gint g_TOP)) (mw_and1 (mt_notIn hr (me_ix hr (me_var 3) me_int) (me_var 2))))).pt (mss_cons (ms_set (i := 2) sc_elders.nd rfl (by first | exact Or.inl rfl | exact Or.inr rfl) (me_add (me_tup (ma_cons (me_ix hr (me_var 3) me_int) ma_nil)) (me_var 2)))
    (mss_one (ms_set (i := 3) sc_elders.nd rfl (by first | exact Or.inl rfl | exact Or.inr rfl) (me_call c_row_of hr (ma_cons (me_var 0) (ma_cons (me_ix hr (me_var 3) me_int) ma_nil)))))))
    (mss_one (ms_ret (me_var 2))))))
/-! ### is_tree -/
abbrev s_is_tree : Stmt := topS 11
abbrev nm_is_tree : List Str := ["thing", "numbers", "one", "row", "two"]
theorem sc_is_tree : FnScope nm_is_tree ["thing"] (defScope s_is_tree) := ⟨rfl, rfl, rfl, by decide +kernel, rfl, by decide +kernel, by decide +kernel⟩
abbrev m_is_tree (f_is_node : DSp) (f_elders : DSp) : DS :=
    (mSeq (mIfS (mOr (mNot (mTru (mIsi .tTup (mVar 0)))) (mOr (mTst (mBin oGt (mCall oLen (mCons (mVar 0) mNil)) (mC (.int 20)))) (mNot (mTru (mCall oAll (mCons (mLc (wSeq (mVar 0)) [2] (bName 2) mYes (mCall f_is_node (mCons (mVar 2) mNil))) mNil)))))) (mRet (mC (.bl false))) mNx)
    (mSeq (mSet 1 (mLc (wSeq (mVar 0)) [3] (bName 3) mYes (mBin oIx (mVar 3) (mC (.int 0)))))
    (mSeq (mIfS (mNot (mTru (mCall oAll (mCons (mLc (wZip (mCons (mSl (mVar 1) mNoPart (mPart (mUn oNeg (mC (.int 1))))) (mCons (mSl (mVar 1) (mPart (mC (.int 1))) mNoPart) mNil))) [2, 4] (bTup 2 (bCons (bName 2) (bCons (bName 4) bNil))) mYes (mBin oLt (mVar 2) (mVar 4))) mNil)))) (mRet (mC (.bl false))) mNx)
    (mSeq (mIfS (mNot (mTru (mCall oAll (mCons (mLc (wSeq (mVar 0)) [3] (bName 3) mYes (mOrV (mBin oEq (mBin oIx (mVar 3) (mC (.int 1))) (mC (.int 0))) (mBin (oIn false) (mBin oIx (mVar 3) (mC (.int 1))) (mVar 1)))) mNil)))) (mRet (mC (.bl false))) mNx)
    (mRet (mNotV (mCall oAny (mCons (mLc (wSeq (mVar 0)) [3] (bName 3) mYes (mBin (oIn false) (mBin oIx (mVar 3) (mC (.int 0))) (mCall f_elders (mCons (mVar 0) (mCons (mBin oIx (mVar 3) (mC (.int 0))) mNil))))) mNil))))))))
theorem d_is_tree {n : Nat} {f_is_node : DSp} {n_is_node : Nat} (c_is_node : Cal P w K mg base "is_node" n_is_node f_is_node) (l_is_node : n_is_node ≤ n) {f_elders : DSp} {n_elders : Nat} (c_elders : Cal P w K mg base "elders" n_elders f_elders) (l_elders : n_elders ≤ n) (g_ROWS_MOST : GlC mg "ROWS_MOST" (.int 20)) (g_TOP : GlC mg "TOP" (.int 0)) (b_all : mg "all" = none) (b_any : mg "any" = none) (b_isinstance : mg "isinstance" = none) (b_len : mg "len" = none) (b_tuple : mg "tuple" = none) (b_zip : mg "zip" = none) {a : Addr} {cdv : Value} {A : Around} {outer : List Env} {s : Shared} {H : Hp} {E : XK} (hr : Room n (A.deeper (envOfC "is_tree" (defScope s_is_tree) s.heap.objs.size a cdv))) :
    PSs (cxOf CX0 P w K mg base nm_is_tree "is_tree" (defScope s_is_tree) a cdv A outer s H E).nox (defBody s_is_tree) (lS (m_is_tree f_is_node f_elders)) :=
    (mss_cons (ms_if (mw_or (mt_not (mt_tru (me_isi .tTup b_isinstance b_tuple (me_var 0)))) (mw_or (mt_gt (me_len b_len (ma_cons (me_var 0) ma_nil)) (me_gint g_ROWS_MOST)) (mw_or1 (mt_not (mt_tru (me_all rfl b_all (ma_cons (me_lc (own := [("one", 2)]) rfl sc_is_tree.nd (mi_seq (me_var 0)) (blkOk_by (N := nm_is_tree) (sc := defScope s_is_tree) (by decide +kernel)) (fun _ _ _ _ _ => (mg_name (i := 2) sc_is_tree.nd rfl (by first | exact Or.inl rfl | exact Or.inr rfl))) (fun _ _ _ _ _ => mts_nil) (fun _ _ _ _ _ => (me_call c_is_node hr (ma_cons (me_var 2) ma_nil)))) ma_nil))))))).pt (mss_one (ms_ret me_bl)) mss_nil)
    (mss_cons (ms_set (i := 1) sc_is_tree.nd rfl (by first | exact Or.inl rfl | exact Or.inr rfl) (me_lc (own := [("row", 3)]) rfl sc_is_tree.nd (mi_seq (me_var 0)) (blkOk_by (N := nm_is_tree) (sc := defScope s_is_tree) (by decide +kernel)) (fun _ _ _ _ _ => (mg_name (i := 3) sc_is_tree.nd rfl (by first | exact Or.inl rfl | exact Or.inr rfl))) (fun _ _ _ _ _ => mts_nil) (fun _ _ _ _ _ => (me_ix hr (me_var 3) me_int))))
    (mss_cons (ms_if (mt_not (mt_tru (me_all rfl b_all (ma_cons (me_lc (own := [("one", 2), ("two", 4)]) rfl sc_is_tree.nd (mi_zip b_zip (ma_cons (me_slice (me_var 1) mo_none (mo_some (me_neg me_int))) (ma_cons (me_slice (me_var 1) (mo_some me_int) mo_none) ma_nil))) (blkOk_by (N := nm_is_tree) (sc := defScope s_is_tree) (by decide +kernel)) (fun _ _ _ _ _ => (mg_tup rfl (mgs_cons (mg_name (i := 2) sc_is_tree.nd rfl (by first | exact Or.inl rfl | exact Or.inr rfl)) (mgs_cons (mg_name (i := 4) sc_is_tree.nd rfl (by first | exact Or.inl rfl | exact Or.inr rfl)) mgs_nil)))) (fun _ _ _ _ _ => mts_nil) (fun _ _ _ _ _ => (me_lt (me_var 2) (me_var 4)))) ma_nil)))) (mss_one (ms_ret me_bl)) mss_nil)
    (mss_cons (ms_if (mt_not (mt_tru (me_all rfl b_all (ma_cons (me_lc (own := [("row", 3)]) rfl sc_is_tree.nd (mi_seq (me_var 0)) (blkOk_by (N := nm_is_tree) (sc := defScope s_is_tree) (by decide +kernel)) (fun _ _ _ _ _ => (mg_name (i := 3) sc_is_tree.nd rfl (by first | exact Or.inl rfl | exact Or.inr rfl))) (fun _ _ _ _ _ => mts_nil) (fun _ _ _ _ _ => (me_or (me_eq hr (me_ix hr (me_var 3) me_int) (me_gint g_TOP)) (me_one (me_in hr (me_ix hr (me_var 3) me_int) (me_var 1)))))) ma_nil)))) (mss_one (ms_ret me_bl)) mss_nil)
    (mss_one (ms_ret (me_not (me_any rfl b_any (ma_cons (me_lc (own := [("row", 3)]) rfl sc_is_tree.nd (mi_seq (me_var 0)) (blkOk_by (N := nm_is_tree) (sc := defScope s_is_tree) (by decide +kernel)) (fun _ _ _ _ _ => (mg_name (i := 3) sc_is_tree.nd rfl (by first | exact Or.inl rfl | exact Or.inr rfl))) (fun _ _ _ _ _ => mts_nil) (fun _ _ _ _ _ => (me_in hr (me_ix hr (me_var 3) me_int) (me_call c_elders hr (ma_cons (me_var 0) (ma_cons (me_ix hr (me_var 3) me_int) ma_nil)))))) ma_nil)))))))))
/-! ### kids -/
abbrev s_kids : Stmt := topS 12
abbrev nm_kids : List Str := ["rows", "parent", "name", "number", "row"]
theorem sc_kids : FnScope nm_kids ["rows", "parent"] (defScope s_kids) := ⟨rfl, rfl, rfl, by decide +kernel, rfl, by decide +kernel, by decide +kernel⟩
abbrev m_kids : DS :=
    (mRet (mCall oTupleK (mCons (mLc (wSeq (mCall oSorted (mCons (mLc (wSeq (mVar 0)) [4] (bName 4) (mTst (mBin oEq (mBin oIx (mVar 4) (mC (.int 1))) (mVar 1))) (mTup (mCons (mBin oIx (mVar 4) (mC (.int 2))) (mCons (mBin oIx (mVar 4) (mC (.int 0))) mNil)))) mNil))) [2, 3] (bTup 2 (bCons (bName 2) (bCons (bName 3) bNil))) mYes (mVar 3)) mNil)))
theorem d_kids {n : Nat} (b_sorted : mg "sorted" = none) (b_tuple : mg "tuple" = none) {a : Addr} {cdv : Value} {A : Around} {outer : List Env} {s : Shared} {H : Hp} {E : XK} (hr : Room n (A.deeper (envOfC "kids" (defScope s_kids) s.heap.objs.size a cdv))) :
    PSs (cxOf CX0 P w K mg base nm_kids "kids" (defScope s_kids) a cdv A outer s H E).nox (defBody s_kids) (lS (m_kids)) :=
    (mss_one (ms_ret (me_tupleK b_tuple (ma_cons (me_lc (own := [("name", 2), ("number", 3)]) rfl sc_kids.nd (mi_seq (me_sorted hr b_sorted (ma_cons (me_lc (own := [("row", 4)]) rfl sc_kids.nd (mi_seq (me_var 0)) (blkOk_by (N := nm_kids) (sc := defScope s_kids) (by decide +kernel)) (fun _ _ _ _ _ => (mg_name (i := 4) sc_kids.nd rfl (by first | exact Or.inl rfl | exact Or.inr rfl))) (fun _ _ _ _ _ => (mts_one (mt_eq hr (me_ix hr (me_var 4) me_int) (me_var 1)))) (fun _ _ _ _ _ => (me_tup (ma_cons (me_ix hr (me_var 4) me_int) (ma_cons (me_ix hr (me_var 4) me_int) ma_nil))))) ma_nil))) (blkOk_by (N := nm_kids) (sc := defScope s_kids) (by decide +kernel)) (fun _ _ _ _ _ => (mg_tup rfl (mgs_cons (mg_name (i := 2) sc_kids.nd rfl (by first | exact Or.inl rfl | exact Or.inr rfl)) (mgs_cons (mg_name (i := 3) sc_kids.nd rfl (by first | exact Or.inl rfl | exact Or.inr rfl)) mgs_nil)))) (fun _ _ _ _ _ => mts_nil) (fun _ _ _ _ _ => (me_var 3))) ma_nil))))
/-! ### below -/
abbrev s_below : Stmt := topS 13
abbrev nm_below : List Str := ["rows", "number", "found", "one"]
theorem sc_below : FnScope nm_below ["rows", "number"] (defScope s_below) := ⟨rfl, rfl, rfl, by decide +kernel, rfl, by decide +kernel, by decide +kernel⟩
abbrev m_below (f_kids : DSp) (f_below : DSp) : DS :=
    (mSeq (mSet 2 (mTup mNil))
    (mSeq (mFor (wSeq (mCall f_kids (mCons (mVar 0) (mCons (mVar 1) mNil)))) (bName 3) (mSet 2 (mBin oAdd (mBin oAdd (mVar 2) (mTup (mCons (mVar 3) mNil))) (mCall f_below (mCons (mVar 0) (mCons (mVar 3) mNil))))))
    (mRet (mVar 2))))
theorem d_below {n : Nat} {f_kids : DSp} {n_kids : Nat} (c_kids : Cal P w K mg base "kids" n_kids f_kids) (l_kids : n_kids ≤ n) {f_below : DSp} {n_below : Nat} (c_below : Cal P w K mg base "below" n_below f_below) (l_below : n_below ≤ n) {a : Addr} {cdv : Value} {A : Around} {outer : List Env} {s : Shared} {H : Hp} {E : XK} (hr : Room n (A.deeper (envOfC "below" (defScope s_below) s.heap.objs.size a cdv))) :
    PSs (cxOf CX0 P w K mg base nm_below "below" (defScope s_below) a cdv A outer s H E).nox (defBody s_below) (lS (m_below f_kids f_below)) :=
    (mss_cons (ms_set (i := 2) sc_below.nd rfl (by first | exact Or.inl rfl | exact Or.inr rfl) (me_tup ma_nil))
    (mss_cons (ms_for PassesOwn.never rfl (mi_seq (me_call c_kids hr (ma_cons (me_var 0) (ma_cons (me_var 1) ma_nil)))) (mg_name (i := 3) sc_below.nd rfl (by first | exact Or.inl rfl | exact Or.inr rfl)) (mss_one (ms_set (i := 2) sc_below.nd rfl (by first | exact Or.inl rfl | exact Or.inr rfl) (me_add (me_add (me_var 2) (me_tup (ma_cons (me_var 3) ma_nil))) (me_call c_below hr (ma_cons (me_var 0) (ma_cons (me_var 3) ma_nil)))))))
    (mss_one (ms_ret (me_var 2)))))
/-! ### path -/
abbrev s_path : Stmt := topS 14
abbrev nm_path : List Str := ["rows", "number"]
theorem sc_path : FnScope nm_path ["rows", "number"] (defScope s_path) := ⟨rfl, rfl, rfl, by decide +kernel, rfl, by decide +kernel, by decide +kernel⟩
abbrev m_path (f_elders : DSp) : DS :=
    (mRet (mBin oAdd (mCall f_elders (mCons (mVar 0) (mCons (mVar 1) mNil))) (mTup (mCons (mVar 1) mNil))))
theorem d_path {n : Nat} {f_elders : DSp} {n_elders : Nat} (c_elders : Cal P w K mg base "elders" n_elders f_elders) (l_elders : n_elders ≤ n) {a : Addr} {cdv : Value} {A : Around} {outer : List Env} {s : Shared} {H : Hp} {E : XK} (hr : Room n (A.deeper (envOfC "path" (defScope s_path) s.heap.objs.size a cdv))) :
    PSs (cxOf CX0 P w K mg base nm_path "path" (defScope s_path) a cdv A outer s H E).nox (defBody s_path) (lS (m_path f_elders)) :=
    (mss_one (ms_ret (me_add (me_call c_elders hr (ma_cons (me_var 0) (ma_cons (me_var 1) ma_nil))) (me_tup (ma_cons (me_var 1) ma_nil)))))
/-! ### part -/
abbrev s_part : Stmt := topS 15
abbrev nm_part : List Str := ["rows", "parent", "first", "many", "every", "some", "told", "number"]
theorem sc_part : FnScope nm_part ["rows", "parent", "first", "many"] (defScope s_part) := ⟨rfl, rfl, rfl, by decide +kernel, rfl, by decide +kernel, by decide +kernel⟩
abbrev m_part (f_kids : DSp) (f_row_of : DSp) (f_below : DSp) : DS :=
    (mSeq (mSet 4 (mCall f_kids (mCons (mVar 0) (mCons (mVar 1) mNil))))
    (mSeq (mSet 5 (mSl (mVar 4) (mPart (mVar 2)) (mPart (mBin oAdd (mVar 2) (mVar 3)))))
    (mSeq (mSet 6 (mCall oTuple (mCons (mLc (wSeq (mVar 5)) [7] (bName 7) mYes (mTup (mCons (mVar 7) (mCons (mBin oIx (mCall f_row_of (mCons (mVar 0) (mCons (mVar 7) mNil))) (mC (.int 2))) (mCons (mCall oLen (mCons (mCall f_below (mCons (mVar 0) (mCons (mVar 7) mNil))) mNil)) mNil))))) mNil)))
    (mRet (mTup (mCons (mVar 1) (mCons (mCall oLen (mCons (mVar 4) mNil)) (mCons (mVar 2) (mCons (mVar 6) mNil)))))))))
theorem d_part {n : Nat} {f_kids : DSp} {n_kids : Nat} (c_kids : Cal P w K mg base "kids" n_kids f_kids) (l_kids : n_kids ≤ n) {f_row_of : DSp} {n_row_of : Nat} (c_row_of : Cal P w K mg base "row_of" n_row_of f_row_of) (l_row_of : n_row_of ≤ n) {f_below : DSp} {n_below : Nat} (c_below : Cal P w K mg base "below" n_below f_below) (l_below : n_below ≤ n) (b_len : mg "len" = none) (b_tuple : mg "tuple" = none) {a : Addr} {cdv : Value} {A : Around} {outer : List Env} {s : Shared} {H : Hp} {E : XK} (hr : Room n (A.deeper (envOfC "part" (defScope s_part) s.heap.objs.size a cdv))) :
    PSs (cxOf CX0 P w K mg base nm_part "part" (defScope s_part) a cdv A outer s H E).nox (defBody s_part) (lS (m_part f_kids f_row_of f_below)) :=
    (mss_cons (ms_set (i := 4) sc_part.nd rfl (by first | exact Or.inl rfl | exact Or.inr rfl) (me_call c_kids hr (ma_cons (me_var 0) (ma_cons (me_var 1) ma_nil))))
    (mss_cons (ms_set (i := 5) sc_part.nd rfl (by first | exact Or.inl rfl | exact Or.inr rfl) (me_slice (me_var 4) (mo_some (me_var 2)) (mo_some (me_add (me_var 2) (me_var 3)))))
    (mss_cons (ms_set (i := 6) sc_part.nd rfl (by first | exact Or.inl rfl | exact Or.inr rfl) (me_tuple b_tuple (ma_cons (me_lc (own := [("number", 7)]) rfl sc_part.nd (mi_seq (me_var 5)) (blkOk_by (N := nm_part) (sc := defScope s_part) (by decide +kernel)) (fun _ _ _ _ _ => (mg_name (i := 7) sc_part.nd rfl (by first | exact Or.inl rfl | exact Or.inr rfl))) (fun _ _ _ _ _ => mts_nil) (fun _ _ _ _ _ => (me_tup (ma_cons (me_var 7) (ma_cons (me_ix hr (me_call c_row_of hr (ma_cons (me_var 0) (ma_cons (me_var 7) ma_nil))) me_int) (ma_cons (me_len b_len (ma_cons (me_call c_below hr (ma_cons (me_var 0) (ma_cons (me_var 7) ma_nil))) ma_nil)) ma_nil)))))) ma_nil)))
    (mss_one (ms_ret (me_tup (ma_cons (me_var 1) (ma_cons (me_len b_len (ma_cons (me_var 4) ma_nil)) (ma_cons (me_var 2) (ma_cons (me_var 6) ma_nil))))))))))
/-! ### _law_draw -/
abbrev s__law_draw : Stmt := topS 17
abbrev nm__law_draw : List Str := ["script", "town", "many", "k", "cell", "number", "more"]
theorem sc__law_draw : FnScope nm__law_draw ["script", "town", "many"] (defScope s__law_draw) := ⟨rfl, rfl, rfl, by decide +kernel, rfl, by decide +kernel, by decide +kernel⟩
abbrev m__law_draw : DS :=
    (mSeq (mDrop (mAppend (mVar 1) (mCons (mC (.int 0)) mNil)))
    (mSeq (mSet 3 (mCall oLen (mCons (mVar 1) mNil)))
    (mSeq (mSet 4 (mC (.int 0)))
    (mSeq (mIfS (mTru (mVar 0)) (mSet 4 (mBin oIx (mVar 0) (mBin oMod (mVar 3) (mCall oLen (mCons (mVar 0) mNil))))) mNx)
    (mSeq (mSet 5 (mBin oMod (mBin oAdd (mVar 4) (mBin oMul (mC (.int 104729)) (mVar 3))) (mC (.int 4294967291))))
    (mSeq (mSet 5 (mBin oMod (mBin oMul (mBin oMod (mBin oMul (mVar 5) (mVar 5)) (mC (.int 4294967279))) (mC (.int 48271))) (mC (.int 4294967291))))
    (mSeq (mSet 6 (mBin oMod (mBin oMul (mBin oMod (mBin oMul (mVar 5) (mVar 5)) (mC (.int 4294967279))) (mC (.int 69621))) (mC (.int 4294967291))))
    (mRet (mBin oMod (mBin oAdd (mBin oMul (mBin oFdiv (mVar 5) (mC (.int 64))) (mC (.int 67108864))) (mBin oFdiv (mVar 6) (mC (.int 64)))) (mVar 2))))))))))
theorem d__law_draw {n : Nat} (b_len : mg "len" = none) {a : Addr} {cdv : Value} {A : Around} {outer : List Env} {s : Shared} {H : Hp} {E : XK} (hr : Room n (A.deeper (envOfC "_law_draw" (defScope s__law_draw) s.heap.objs.size a cdv))) :
    PSs (cxOf CX0 P w K mg base nm__law_draw "_law_draw" (defScope s__law_draw) a cdv A outer s H E).nox (defBody s__law_draw) (lS (m__law_draw)) :=
    (mss_cons (ms_expr (me_append (me_var 1) (ma_cons me_int ma_nil)))
    (mss_cons (ms_set (i := 3) sc__law_draw.nd rfl (by first | exact Or.inl rfl | exact Or.inr rfl) (me_len b_len (ma_cons (me_var 1) ma_nil)))
    (mss_cons (ms_set (i := 4) sc__law_draw.nd rfl (by first | exact Or.inl rfl | exact Or.inr rfl) me_int)
    (mss_cons (ms_if (mt_tru (me_var 0)) (mss_one (ms_set (i := 4) sc__law_draw.nd rfl (by first | exact Or.inl rfl | exact Or.inr rfl) (me_ix hr (me_var 0) (me_mod (me_var 3) (me_len b_len (ma_cons (me_var 0) ma_nil)))))) mss_nil)
    (mss_cons (ms_set (i := 5) sc__law_draw.nd rfl (by first | exact Or.inl rfl | exact Or.inr rfl) (me_mod (me_add (me_var 4) (me_mul me_int (me_var 3))) me_int))
    (mss_cons (ms_set (i := 5) sc__law_draw.nd rfl (by first | exact Or.inl rfl | exact Or.inr rfl) (me_mod (me_mul (me_mod (me_mul (me_var 5) (me_var 5)) me_int) me_int) me_int))
    (mss_cons (ms_set (i := 6) sc__law_draw.nd rfl (by first | exact Or.inl rfl | exact Or.inr rfl) (me_mod (me_mul (me_mod (me_mul (me_var 5) (me_var 5)) me_int) me_int) me_int))
    (mss_one (ms_ret (me_mod (me_add (me_mul (me_fdiv (me_var 5) me_int) me_int) (me_fdiv (me_var 6) me_int)) (me_var 2)))))))))))
/-! ### _law_pick -/
abbrev s__law_pick : Stmt := topS 18
abbrev nm__law_pick : List Str := ["script", "town", "some"]
theorem sc__law_pick : FnScope nm__law_pick ["script", "town", "some"] (defScope s__law_pick) := ⟨rfl, rfl, rfl, by decide +kernel, rfl, by decide +kernel, by decide +kernel⟩
abbrev m__law_pick (f__law_draw : DSp) : DS :=
    (mRet (mBin oIx (mVar 2) (mCall f__law_draw (mCons (mVar 0) (mCons (mVar 1) (mCons (mCall oLen (mCons (mVar 2) mNil)) mNil))))))
theorem d__law_pick {n : Nat} {f__law_draw : DSp} {n__law_draw : Nat} (c__law_draw : Cal P w K mg base "_law_draw" n__law_draw f__law_draw) (l__law_draw : n__law_draw ≤ n) (b_len : mg "len" = none) {a : Addr} {cdv : Value} {A : Around} {outer : List Env} {s : Shared} {H : Hp} {E : XK} (hr : Room n (A.deeper (envOfC "_law_pick" (defScope s__law_pick) s.heap.objs.size a cdv))) :
    PSs (cxOf CX0 P w K mg base nm__law_pick "_law_pick" (defScope s__law_pick) a cdv A outer s H E).nox (defBody s__law_pick) (lS (m__law_pick f__law_draw)) :=
    (mss_one (ms_ret (me_ix hr (me_var 2) (me_call c__law_draw hr (ma_cons (me_var 0) (ma_cons (me_var 1) (ma_cons (me_len b_len (ma_cons (me_var 2) ma_nil)) ma_nil)))))))
/-! ### _law_tree -/
abbrev s__law_tree : Stmt := topS 19
abbrev nm__law_tree : List Str := ["script", "town", "most", "got", "numbers", "k", "number", "name"]
theorem sc__law_tree : FnScope nm__law_tree ["script", "town", "most"] (defScope s__law_tree) := ⟨rfl, rfl, rfl, by decide +kernel, rfl, by decide +kernel, by decide +kernel⟩
abbrev m__law_tree (f__law_draw : DSp) (f__law_pick : DSp) : DS :=
    (mSeq (mAsg (mTup (mCons mDNew (mCons (mLstO (mCons (mC (.int 0)) mNil)) mNil))) (bTup 2 (bCons (bName 3) (bCons (bName 4) bNil))))
    (mSeq (mFor (wRng1 (mCons (mCall f__law_draw (mCons (mVar 0) (mCons (mVar 1) (mCons (mBin oAdd (mVar 2) (mC (.int 1))) mNil)))) mNil)) (bName 5) (mSeq (mSet 6 (mBin oAdd (mC (.int 1)) (mCall f__law_draw (mCons (mVar 0) (mCons (mVar 1) (mCons (mCall f__law_pick (mCons (mVar 0) (mCons (mVar 1) (mCons (mLst (mCons (mC (.int 20)) (mCons (mC (.int 999)) mNil))) mNil)))) mNil))))))
    (mIfS (mTst (mBin (oIn true) (mVar 6) (mVar 3))) (mSeq (mSet 7 (mCall f__law_pick (mCons (mVar 0) (mCons (mVar 1) (mCons (mLst (mCons (mC (.str "a")) (mCons (mC (.str "b")) (mCons (mC (.str "ab")) (mCons (mC (.str "ba")) (mCons (mC (.str "zed")) mNil)))))) mNil)))))
    (mSeq (mPut (mVar 3) (mVar 6) (mTup (mCons (mVar 6) (mCons (mCall f__law_pick (mCons (mVar 0) (mCons (mVar 1) (mCons (mVar 4) mNil)))) (mCons (mVar 7) mNil)))))
    (mDrop (mAppend (mVar 4) (mCons (mVar 6) mNil))))) mNx)))
    (mRet (mCall oTuple (mCons (mLc (wSeq (mCall oSortD (mCons (mVar 3) mNil))) [6] (bName 6) mYes (mBin oIx (mVar 3) (mVar 6))) mNil)))))
theorem d__law_tree {n : Nat} {f__law_draw : DSp} {n__law_draw : Nat} (c__law_draw : Cal P w K mg base "_law_draw" n__law_draw f__law_draw) (l__law_draw : n__law_draw ≤ n) {f__law_pick : DSp} {n__law_pick : Nat} (c__law_pick : Cal P w K mg base "_law_pick" n__law_pick f__law_pick) (l__law_pick : n__law_pick ≤ n) (b_range : mg "range" = none) (b_sorted : mg "sorted" = none) (b_tuple : mg "tuple" = none) {a : Addr} {cdv : Value} {A : Around} {outer : List Env} {s : Shared} {H : Hp} {E : XK} (hr : Room n (A.deeper (envOfC "_law_tree" (defScope s__law_tree) s.heap.objs.size a cdv))) :
    PSs (cxOf CX0 P w K mg base nm__law_tree "_law_tree" (defScope s__law_tree) a cdv A outer s H E).nox (defBody s__law_tree) (lS (m__law_tree f__law_draw f__law_pick)) :=
    (mss_cons (ms_asg (me_tup (ma_cons me_dnew (ma_cons (me_lstO (ma_cons me_int ma_nil)) ma_nil))) (mg_tup rfl (mgs_cons (mg_name (i := 3) sc__law_tree.nd rfl (by first | exact Or.inl rfl | exact Or.inr rfl)) (mgs_cons (mg_name (i := 4) sc__law_tree.nd rfl (by first | exact Or.inl rfl | exact Or.inr rfl)) mgs_nil))))
    (mss_cons (ms_for PassesOwn.never rfl (mi_rng1 b_range (ma_cons (me_call c__law_draw hr (ma_cons (me_var 0) (ma_cons (me_var 1) (ma_cons (me_add (me_var 2) me_int) ma_nil)))) ma_nil)) (mg_name (i := 5) sc__law_tree.nd rfl (by first | exact Or.inl rfl | exact Or.inr rfl)) (mss_cons (ms_set (i := 6) sc__law_tree.nd rfl (by first | exact Or.inl rfl | exact Or.inr rfl) (me_add me_int (me_call c__law_draw hr (ma_cons (me_var 0) (ma_cons (me_var 1) (ma_cons (me_call c__law_pick hr (ma_cons (me_var 0) (ma_cons (me_var 1) (ma_cons (me_lst (ma_cons me_int (ma_cons me_int ma_nil))) ma_nil)))) ma_nil))))))
    (mss_one (ms_if (mt_notIn hr (me_var 6) (me_var 3)) (mss_cons (ms_set (i := 7) sc__law_tree.nd rfl (by first | exact Or.inl rfl | exact Or.inr rfl) (me_call c__law_pick hr (ma_cons (me_var 0) (ma_cons (me_var 1) (ma_cons (me_lst (ma_cons me_str (ma_cons me_str (ma_cons me_str (ma_cons me_str (ma_cons me_str ma_nil)))))) ma_nil)))))
    (mss_cons (ms_put hr (me_var 3) (me_var 6) (me_tup (ma_cons (me_var 6) (ma_cons (me_call c__law_pick hr (ma_cons (me_var 0) (ma_cons (me_var 1) (ma_cons (me_var 4) ma_nil)))) (ma_cons (me_var 7) ma_nil)))))
    (mss_one (ms_expr (me_append (me_var 4) (ma_cons (me_var 6) ma_nil)))))) mss_nil))))
    (mss_one (ms_ret (me_tuple b_tuple (ma_cons (me_lc (own := [("number", 6)]) rfl sc__law_tree.nd (mi_seq (me_sortD rfl b_sorted (ma_cons (me_var 3) ma_nil))) (blkOk_by (N := nm__law_tree) (sc := defScope s__law_tree) (by decide +kernel)) (fun _ _ _ _ _ => (mg_name (i := 6) sc__law_tree.nd rfl (by first | exact Or.inl rfl | exact Or.inr rfl))) (fun _ _ _ _ _ => mts_nil) (fun _ _ _ _ _ => (me_ix hr (me_var 3) (me_var 6)))) ma_nil))))))
/-! ### _law_node_holds -/
abbrev s__law_node_holds : Stmt := topS 21
abbrev nm__law_node_holds : List Str := ["rows", "row", "number", "parent", "name", "due", "one", "other", "at"]
theorem sc__law_node_holds : FnScope nm__law_node_holds ["rows", "row"] (defScope s__law_node_holds) := ⟨rfl, rfl, rfl, by decide +kernel, rfl, by decide +kernel, by decide +kernel⟩
abbrev m__law_node_holds (f_kids : DSp) (f_path : DSp) (f_elders : DSp) (f_below : DSp) (f_part : DSp) : DS :=
    (mSeq (mAsg (mVar 1) (bTup 3 (bCons (bName 2) (bCons (bName 3) (bCons (bName 4) bNil)))))
    (mSeq (mIfS (mOr (mTst (mBin (oIn true) (mVar 2) (mCall f_kids (mCons (mVar 0) (mCons (mVar 3) mNil))))) (mTst (mBin oNe (mCall f_path (mCons (mVar 0) (mCons (mVar 2) mNil))) (mBin oAdd (mCall f_elders (mCons (mVar 0) (mCons (mVar 2) mNil))) (mTup (mCons (mVar 2) mNil)))))) (mRet (mC (.bl false))) mNx)
    (mSeq (mIfS (mTst (mBin oNe (mCall f_elders (mCons (mVar 0) (mCons (mVar 2) mNil))) (mIfE (mTst (mBin oEq (mVar 3) (mC (.int 0)))) (mTup mNil) (mCall f_path (mCons (mVar 0) (mCons (mVar 3) mNil)))))) (mRet (mC (.bl false))) mNx)
    (mSeq (mSet 5 (mTup mNil))
    (mSeq (mFor (wSeq (mCall f_kids (mCons (mVar 0) (mCons (mVar 2) mNil)))) (bName 6) (mSet 5 (mBin oAdd (mBin oAdd (mVar 5) (mTup (mCons (mVar 6) mNil))) (mCall f_below (mCons (mVar 0) (mCons (mVar 6) mNil))))))
    (mSeq (mIfS (mTst (mBin oNe (mCall f_below (mCons (mVar 0) (mCons (mVar 2) mNil))) (mVar 5))) (mRet (mC (.bl false))) mNx)
    (mSeq (mFor (wSeq (mVar 0)) (bName 7) (mIfS (mTst (mBin oNe (mBin (oIn false) (mBin oIx (mVar 7) (mC (.int 0))) (mCall f_below (mCons (mVar 0) (mCons (mVar 2) mNil)))) (mBin (oIn false) (mVar 2) (mCall f_elders (mCons (mVar 0) (mCons (mBin oIx (mVar 7) (mC (.int 0))) mNil)))))) (mRet (mC (.bl false))) mNx))
    (mSeq (mSet 8 (mIdx (mCall f_kids (mCons (mVar 0) (mCons (mVar 3) mNil))) (mCons (mVar 2) mNil)))
    (mRet (mBin oEq (mBin oIx (mCall f_part (mCons (mVar 0) (mCons (mVar 3) (mCons (mVar 8) (mCons (mC (.int 1)) mNil))))) (mC (.int 3))) (mTup (mCons (mTup (mCons (mVar 2) (mCons (mVar 4) (mCons (mCall oLen (mCons (mVar 5) mNil)) mNil)))) mNil))))))))))))
theorem d__law_node_holds {n : Nat} {f_kids : DSp} {n_kids : Nat} (c_kids : Cal P w K mg base "kids" n_kids f_kids) (l_kids : n_kids ≤ n) {f_path : DSp} {n_path : Nat} (c_path : Cal P w K mg base "path" n_path f_path) (l_path : n_path ≤ n) {f_elders : DSp} {n_elders : Nat} (c_elders : Cal P w K mg base "elders" n_elders f_elders) (l_elders : n_elders ≤ n) {f_below : DSp} {n_below : Nat} (c_below : Cal P w K mg base "below" n_below f_below) (l_below : n_below ≤ n) {f_part : DSp} {n_part : Nat} (c_part : Cal P w K mg base "part" n_part f_part) (l_part : n_part ≤ n) (b_len : mg "len" = none) {a : Addr} {cdv : Value} {A : Around} {outer : List Env} {s : Shared} {H : Hp} {E : XK} (hr : Room n (A.deeper (envOfC "_law_node_holds" (defScope s__law_node_holds) s.heap.objs.size a cdv))) :
    PSs (cxOf CX0 P w K mg base nm__law_node_holds "_law_node_holds" (defScope s__law_node_holds) a cdv A outer s H E).nox (defBody s__law_node_holds) (lS (m__law_node_holds f_kids f_path f_elders f_below f_part)) :=
    (mss_cons (ms_asg (me_var 1) (mg_tup rfl (mgs_cons (mg_name (i := 2) sc__law_node_holds.nd rfl (by first | exact Or.inl rfl | exact Or.inr rfl)) (mgs_cons (mg_name (i := 3) sc__law_node_holds.nd rfl (by first | exact Or.inl rfl | exact Or.inr rfl)) (mgs_cons (mg_name (i := 4) sc__law_node_holds.nd rfl (by first | exact Or.inl rfl | exact Or.inr rfl)) mgs_nil)))))
    (mss_cons (ms_if (mw_or (mt_notIn hr (me_var 2) (me_call c_kids hr (ma_cons (me_var 0) (ma_cons (me_var 3) ma_nil)))) (mw_or1 (mt_ne hr (me_call c_path hr (ma_cons (me_var 0) (ma_cons (me_var 2) ma_nil))) (me_add (me_call c_elders hr (ma_cons (me_var 0) (ma_cons (me_var 2) ma_nil))) (me_tup (ma_cons (me_var 2) ma_nil)))))).pt (mss_one (ms_ret me_bl)) mss_nil)
    (mss_cons (ms_if (mt_ne hr (me_call c_elders hr (ma_cons (me_var 0) (ma_cons (me_var 2) ma_nil))) (me_if (mt_eq hr (me_var 3) me_int) (me_tup ma_nil) (me_call c_path hr (ma_cons (me_var 0) (ma_cons (me_var 3) ma_nil))))) (mss_one (ms_ret me_bl)) mss_nil)
    (mss_cons (ms_set (i := 5) sc__law_node_holds.nd rfl (by first | exact Or.inl rfl | exact Or.inr rfl) (me_tup ma_nil))
    (mss_cons (ms_for PassesOwn.never rfl (mi_seq (me_call c_kids hr (ma_cons (me_var 0) (ma_cons (me_var 2) ma_nil)))) (mg_name (i := 6) sc__law_node_holds.nd rfl (by first | exact Or.inl rfl | exact Or.inr rfl)) (mss_one (ms_set (i := 5) sc__law_node_holds.nd rfl (by first | exact Or.inl rfl | exact Or.inr rfl) (me_add (me_add (me_var 5) (me_tup (ma_cons (me_var 6) ma_nil))) (me_call c_below hr (ma_cons (me_var 0) (ma_cons (me_var 6) ma_nil)))))))
    (mss_cons (ms_if (mt_ne hr (me_call c_below hr (ma_cons (me_var 0) (ma_cons (me_var 2) ma_nil))) (me_var 5)) (mss_one (ms_ret me_bl)) mss_nil)
    (mss_cons (ms_for PassesOwn.never rfl (mi_seq (me_var 0)) (mg_name (i := 7) sc__law_node_holds.nd rfl (by first | exact Or.inl rfl | exact Or.inr rfl)) (mss_one (ms_if (mt_ne hr (me_in hr (me_ix hr (me_var 7) me_int) (me_call c_below hr (ma_cons (me_var 0) (ma_cons (me_var 2) ma_nil)))) (me_in hr (me_var 2) (me_call c_elders hr (ma_cons (me_var 0) (ma_cons (me_ix hr (me_var 7) me_int) ma_nil))))) (mss_one (ms_ret me_bl)) mss_nil)))
    (mss_cons (ms_set (i := 8) sc__law_node_holds.nd rfl (by first | exact Or.inl rfl | exact Or.inr rfl) (me_idx hr (me_call c_kids hr (ma_cons (me_var 0) (ma_cons (me_var 3) ma_nil))) (ma_cons (me_var 2) ma_nil)))
    (mss_one (ms_ret (me_eq hr (me_ix hr (me_call c_part hr (ma_cons (me_var 0) (ma_cons (me_var 3) (ma_cons (me_var 8) (ma_cons me_int ma_nil))))) me_int) (me_tup (ma_cons (me_tup (ma_cons (me_var 2) (ma_cons (me_var 4) (ma_cons (me_len b_len (ma_cons (me_var 5) ma_nil)) ma_nil)))) ma_nil)))))))))))))
/-! ### law -/
abbrev s_law : Stmt := topS 22
abbrev nm_law : List Str := ["script", "town", "k", "rows", "names", "every", "parent", "some", "inner", "row", "one"]
theorem sc_law : FnScope nm_law ["script"] (defScope s_law) := ⟨rfl, rfl, rfl, by decide +kernel, rfl, by decide +kernel, by decide +kernel⟩
abbrev m_law (Pt : Addr) (f__law_tree : DSp) (f_is_tree : DSp) (f__law_node_holds : DSp) (f_kids : DSp) (f_below : DSp) : DS :=
    (mSeq (mSet 1 (mLstO mNil))
    (mSeq (mFor (wRng1 (mCons (mC (.int 5)) mNil)) (bName 2) (mSeq (mSet 3 (mCall f__law_tree (mCons (mVar 0) (mCons (mVar 1) (mCons (mC (.int 16)) mNil)))))
    (mSeq (mAsg (mTup (mCons (mCall oDict1 (mCons (mLc (wSeq (mVar 3)) [9] (bName 9) mYes (mTup (mCons (mBin oIx (mVar 9) (mC (.int 0))) (mCons (mBin oIx (mVar 9) (mC (.int 2))) mNil)))) mNil)) (mCons (mLstO mNil) mNil))) (bTup 2 (bCons (bName 4) (bCons (bName 5) bNil))))
    (mSeq (mIfS (mOr (mNot (mTru (mCall f_is_tree (mCons (mVar 3) mNil)))) (mNot (mTru (mCall oAll (mCons (mLc (wSeq (mVar 3)) [9] (bName 9) mYes (mCall f__law_node_holds (mCons (mVar 3) (mCons (mVar 9) mNil)))) mNil))))) (mRet (mC (.bl false))) mNx)
    (mSeq (mFor (wSeq (mBin oAdd (mLst (mCons (mC (.int 0)) mNil)) (mLc (wSeq (mVar 3)) [9] (bName 9) mYes (mBin oIx (mVar 9) (mC (.int 0)))))) (bName 6) (mSeq (mSet 7 (mCall f_kids (mCons (mVar 3) (mCons (mVar 6) mNil))))
    (mSeq (mIfS (mTst (mBin oNe (mCall oList (mCons (mVar 7) mNil)) (mSortLam Pt (mVar 7) 4))) (mRet (mC (.bl false))) mNx)
    (mSeq (mDrop (mExt (mVar 5) (mCons (mCall oList (mCons (mVar 7) mNil)) mNil)))
    (mSeq (mSet 8 (mLc (wSeq (mVar 7)) [10] (bName 10) mYes (mCall oList (mCons (mCall f_below (mCons (mVar 3) (mCons (mVar 10) mNil))) mNil))))
    (mIfS (mTst (mBin oNe (mBin oAdd (mCall oSum (mCons (mLc (wSeq (mVar 8)) [10] (bName 10) mYes (mCall oLen (mCons (mVar 10) mNil))) mNil)) (mCall oLen (mCons (mVar 7) mNil))) (mCall oLen (mCons (mCall f_below (mCons (mVar 3) (mCons (mVar 6) mNil))) mNil)))) (mRet (mC (.bl false))) mNx))))))
    (mSeq (mIfS (mOr (mTst (mBin oNe (mCall oSortI (mCons (mVar 5) mNil)) (mLc (wSeq (mVar 3)) [9] (bName 9) mYes (mBin oIx (mVar 9) (mC (.int 0)))))) (mTst (mBin oNe (mCall oSortQ (mCons (mCall f_below (mCons (mVar 3) (mCons (mC (.int 0)) mNil))) mNil)) (mCall oSortI (mCons (mVar 5) mNil))))) (mRet (mC (.bl false))) mNx)
    (mIfS (mOr (mTst (mBin oNe (mCall f_kids (mCons (mTup mNil) (mCons (mC (.int 0)) mNil))) (mTup mNil))) (mOr (mTst (mBin oNe (mCall f_below (mCons (mTup mNil) (mCons (mC (.int 0)) mNil))) (mTup mNil))) (mNot (mTru (mCall f_is_tree (mCons (mTup mNil) mNil)))))) (mRet (mC (.bl false))) mNx)))))))
    (mRet (mC (.bl true)))))
theorem d_law {n : Nat} {cT Pt : Addr} (tb : LamX.TabB base mg cT Pt) {f__law_tree : DSp} {n__law_tree : Nat} (c__law_tree : Cal P w K mg base "_law_tree" n__law_tree f__law_tree) (l__law_tree : n__law_tree ≤ n) {f_is_tree : DSp} {n_is_tree : Nat} (c_is_tree : Cal P w K mg base "is_tree" n_is_tree f_is_tree) (l_is_tree : n_is_tree ≤ n) {f__law_node_holds : DSp} {n__law_node_holds : Nat} (c__law_node_holds : Cal P w K mg base "_law_node_holds" n__law_node_holds f__law_node_holds) (l__law_node_holds : n__law_node_holds ≤ n) {f_kids : DSp} {n_kids : Nat} (c_kids : Cal P w K mg base "kids" n_kids f_kids) (l_kids : n_kids ≤ n) {f_below : DSp} {n_below : Nat} (c_below : Cal P w K mg base "below" n_below f_below) (l_below : n_below ≤ n) (b_all : mg "all" = none) (b_dict : mg "dict" = none) (b_len : mg "len" = none) (b_list : mg "list" = none) (b_range : mg "range" = none) (b_sorted : mg "sorted" = none) (b_sum : mg "sum" = none) {a : Addr} {A : Around} {outer : List Env} {s : Shared} {H : Hp} {E : XK} (hP : H Pt = some (.tbl #[])) (hr : Room n (A.deeper (envOfC "law" (defScope s_law) s.heap.objs.size a (.ref cT)))) :
    PSs (cxOf CX0 P w K mg base nm_law "law" (defScope s_law) a (.ref cT) A outer s H E).nox (defBody s_law) (lS (m_law Pt f__law_tree f_is_tree f__law_node_holds f_kids f_below)) :=
    (mss_cons (ms_set (i := 1) sc_law.nd rfl (by first | exact Or.inl rfl | exact Or.inr rfl) (me_lstO ma_nil))
    (mss_cons (ms_for PassesOwn.never rfl (mi_rng1 b_range (ma_cons me_int ma_nil)) (mg_name (i := 2) sc_law.nd rfl (by first | exact Or.inl rfl | exact Or.inr rfl)) (mss_cons (ms_set (i := 3) sc_law.nd rfl (by first | exact Or.inl rfl | exact Or.inr rfl) (me_call c__law_tree hr (ma_cons (me_var 0) (ma_cons (me_var 1) (ma_cons me_int ma_nil)))))
    (mss_cons (ms_asg (me_tup (ma_cons (me_dict1 rfl b_dict (ma_cons (me_lc (own := [("row", 9)]) rfl sc_law.nd (mi_seq (me_var 3)) (blkOk_by (N := nm_law) (sc := defScope s_law) (by decide +kernel)) (fun _ _ _ _ _ => (mg_name (i := 9) sc_law.nd rfl (by first | exact Or.inl rfl | exact Or.inr rfl))) (fun _ _ _ _ _ => mts_nil) (fun _ _ _ _ _ => (me_tup (ma_cons (me_ix hr (me_var 9) me_int) (ma_cons (me_ix hr (me_var 9) me_int) ma_nil))))) ma_nil)) (ma_cons (me_lstO ma_nil) ma_nil))) (mg_tup rfl (mgs_cons (mg_name (i := 4) sc_law.nd rfl (by first | exact Or.inl rfl | exact Or.inr rfl)) (mgs_cons (mg_name (i := 5) sc_law.nd rfl (by first | exact Or.inl rfl | exact Or.inr rfl)) mgs_nil))))
    (mss_cons (ms_if (mw_or (mt_not (mt_tru (me_call c_is_tree hr (ma_cons (me_var 3) ma_nil)))) (mw_or1 (mt_not (mt_tru (me_all rfl b_all (ma_cons (me_lc (own := [("row", 9)]) rfl sc_law.nd (mi_seq (me_var 3)) (blkOk_by (N := nm_law) (sc := defScope s_law) (by decide +kernel)) (fun _ _ _ _ _ => (mg_name (i := 9) sc_law.nd rfl (by first | exact Or.inl rfl | exact Or.inr rfl))) (fun _ _ _ _ _ => mts_nil) (fun _ _ _ _ _ => (me_call c__law_node_holds hr (ma_cons (me_var 3) (ma_cons (me_var 9) ma_nil))))) ma_nil)))))).pt (mss_one (ms_ret me_bl)) mss_nil)
    (mss_cons (ms_for PassesOwn.never rfl (mi_seq (me_add (me_lst (ma_cons me_int ma_nil)) (me_lc (own := [("row", 9)]) rfl sc_law.nd (mi_seq (me_var 3)) (blkOk_by (N := nm_law) (sc := defScope s_law) (by decide +kernel)) (fun _ _ _ _ _ => (mg_name (i := 9) sc_law.nd rfl (by first | exact Or.inl rfl | exact Or.inr rfl))) (fun _ _ _ _ _ => mts_nil) (fun _ _ _ _ _ => (me_ix hr (me_var 9) me_int))))) (mg_name (i := 6) sc_law.nd rfl (by first | exact Or.inl rfl | exact Or.inr rfl)) (mss_cons (ms_set (i := 7) sc_law.nd rfl (by first | exact Or.inl rfl | exact Or.inr rfl) (me_call c_kids hr (ma_cons (me_var 3) (ma_cons (me_var 6) ma_nil))))
    (mss_cons (ms_if (mt_ne hr (me_list b_list (ma_cons (me_var 7) ma_nil)) (me_sortLam (j := 4) hr tb rfl rfl hP b_sorted (me_var 7) rfl rfl)) (mss_one (ms_ret me_bl)) mss_nil)
    (mss_cons (ms_expr (me_ext (me_var 5) (ma_cons (me_list b_list (ma_cons (me_var 7) ma_nil)) ma_nil)))
    (mss_cons (ms_setLc (i := 8) (own := [("one", 10)]) rfl sc_law.nd rfl rfl rfl rfl (by decide +kernel) (mi_seq (me_var 7)) (blkOk_by (N := nm_law) (sc := defScope s_law) (by decide +kernel)) (fun _ _ _ _ _ => (mg_name (i := 10) sc_law.nd rfl (by first | exact Or.inl rfl | exact Or.inr rfl))) (fun _ _ _ _ _ => mts_nil) (fun _ _ _ _ _ => (me_list b_list (ma_cons (me_call c_below hr (ma_cons (me_var 3) (ma_cons (me_var 10) ma_nil))) ma_nil))))
    (mss_one (ms_if (mt_ne hr (me_add (me_sum rfl b_sum (ma_cons (me_lc (own := [("one", 10)]) rfl sc_law.nd (mi_seq (me_var 8)) (blkOk_by (N := nm_law) (sc := defScope s_law) (by decide +kernel)) (fun _ _ _ _ _ => (mg_name (i := 10) sc_law.nd rfl (by first | exact Or.inl rfl | exact Or.inr rfl))) (fun _ _ _ _ _ => mts_nil) (fun _ _ _ _ _ => (me_len b_len (ma_cons (me_var 10) ma_nil)))) ma_nil)) (me_len b_len (ma_cons (me_var 7) ma_nil))) (me_len b_len (ma_cons (me_call c_below hr (ma_cons (me_var 3) (ma_cons (me_var 6) ma_nil))) ma_nil))) (mss_one (ms_ret me_bl)) mss_nil)))))))
    (mss_cons (ms_if (mw_or (mt_ne hr (me_sortI b_sorted (ma_cons (me_var 5) ma_nil)) (me_lc (own := [("row", 9)]) rfl sc_law.nd (mi_seq (me_var 3)) (blkOk_by (N := nm_law) (sc := defScope s_law) (by decide +kernel)) (fun _ _ _ _ _ => (mg_name (i := 9) sc_law.nd rfl (by first | exact Or.inl rfl | exact Or.inr rfl))) (fun _ _ _ _ _ => mts_nil) (fun _ _ _ _ _ => (me_ix hr (me_var 9) me_int)))) (mw_or1 (mt_ne hr (me_sortQ b_sorted (ma_cons (me_call c_below hr (ma_cons (me_var 3) (ma_cons me_int ma_nil))) ma_nil)) (me_sortI b_sorted (ma_cons (me_var 5) ma_nil))))).pt (mss_one (ms_ret me_bl)) mss_nil)
    (mss_one (ms_if (mw_or (mt_ne hr (me_call c_kids hr (ma_cons (me_tup ma_nil) (ma_cons me_int ma_nil))) (me_tup ma_nil)) (mw_or (mt_ne hr (me_call c_below hr (ma_cons (me_tup ma_nil) (ma_cons me_int ma_nil))) (me_tup ma_nil)) (mw_or1 (mt_not (mt_tru (me_call c_is_tree hr (ma_cons (me_tup ma_nil) ma_nil))))))).pt (mss_one (ms_ret me_bl)) mss_nil))))))))
    (mss_one (ms_ret me_bl))))
end
end LW

set_option maxRecDepth 100000
local macro_rules | `(tactic| walk_at "w") => `(tactic| conv => whnf)
namespace LW
open PySem PySem.Spec PyProof.Rows L2 ML
theorem e_is_name : ∀ ds S Q, isNameS ds S Q → m_is_name (endD Q) (startD 2 ds) S := by
  rintro _ S Q ⟨x, rfl, hs, q⟩
  cases x with
  | str z =>
    unfold sl at hs
    have hz := sizeLine_eq
    have hl : z.length ≤ sizeLine := by have := of_decide_eq_true hs; omega
    have q : Q (.bl (decide (1 ≤ (z.length : Int)) && (decide ((z.length : Int) ≤ 6) && z.cps.toList.all fun c => hasW ⟨#[c]⟩ LET))) S := q
    walk_at "w"
    refine ⟨hl, ?_⟩
    cases h1 : decide (1 ≤ (z.length : Int)) with
    | false =>
      rw [h1] at q
      walk_at "w"
      rw [h1]
      exact ⟨S, _, .refl, q⟩
    | true =>
      rw [h1, Bool.true_and] at q
      walk_at "w"
      rw [h1]
      walk_at "w"
      cases h2 : decide ((z.length : Int) ≤ 6) with
      | false => rw [h2] at q; exact ⟨S, _, .refl, q⟩
      | true =>
        rw [h2, Bool.true_and] at q
        refine ⟨hl, ?_⟩
        show lcL none _ _ _ _ _ _ (z.cps.toList.map sgnD) [] _
        refine lcL_map (f := fun c => D.bl (hasW ⟨#[c]⟩ LET)) _ [] (fun c hc K hK => hK) ?_
        refine ⟨z.cps.toList.map fun c => hasW ⟨#[c]⟩ LET, by rw [List.nil_append, List.map_map]; rfl, ?_⟩
        rw [List.all_map]
        exact ⟨S, _, .refl, q⟩
  | non => exact ⟨S, _, .refl, q⟩
  | bl b => exact ⟨S, _, .refl, q⟩
  | int b => exact ⟨S, _, .refl, q⟩
  | tup b => exact ⟨S, _, .refl, q⟩
  | lst b => exact ⟨S, _, .refl, q⟩
  | _ => unfold sl at hs; cases hs
theorem l_is_name : ∀ ds S Q, isNameS ds S Q → ds.length = 1 := by rintro _ _ _ ⟨_, rfl, _⟩; rfl
theorem e_is_number : ∀ ds S Q, isNumS ds S Q → m_is_number (endD Q) (startD 2 ds) S := by
  rintro _ S Q ⟨x, low, rfl, hs, q⟩
  cases x with
  | int i =>
    have q : Q (.bl (decide (low ≤ i) && decide (i ≤ 999))) S := q
    walk_at "w"
    cases h1 : decide (low ≤ i) with
    | false => rw [h1] at q; exact ⟨S, _, .refl, q⟩
    | true => rw [h1, Bool.true_and] at q; exact ⟨S, _, .refl, q⟩
  | non => exact ⟨S, _, .refl, q⟩
  | bl b => exact ⟨S, _, .refl, q⟩
  | str b => exact ⟨S, _, .refl, q⟩
  | tup b => exact ⟨S, _, .refl, q⟩
  | lst b => exact ⟨S, _, .refl, q⟩
  | _ => unfold sl at hs; cases hs
theorem l_is_number : ∀ ds S Q, isNumS ds S Q → ds.length = 2 := by rintro _ _ _ ⟨_, _, rfl, _⟩; rfl
theorem e_is_node : ∀ ds S Q, isNodeS ds S Q → m_is_node isNameS isNumS (endD Q) (startD 1 ds) S := by
  rintro _ S Q ⟨x, rfl, hs, q⟩
  cases x with
  | tup xs =>
    by_cases hl : xs.length = 3
    · match xs, hl with
      | [a, b, c], _ =>
        unfold sl at hs
        have ha := sls_mem hs a (by simp)
        have hb := sls_mem hs b (by simp)
        have hc := sls_mem hs c (by simp)
        have q : Q (.bl (nameB c && (numB 1 a && numB 0 b))) S := q
        refine ⟨c, rfl, hc, ?_⟩
        cases h1 : nameB c with
        | false => rw [h1] at q; exact ⟨S, _, .refl, q⟩
        | true =>
          rw [h1, Bool.true_and] at q
          refine ⟨a, 1, rfl, ha, ?_⟩
          cases h2 : numB 1 a with
          | false => rw [h2] at q; exact ⟨S, _, .refl, q⟩
          | true => rw [h2, Bool.true_and] at q; exact ⟨b, 0, rfl, hb, S, _, .refl, q⟩
    · have e : nodeB (.tup xs) = false := by
        unfold nodeB
        split
        · next h => cases h; exact absurd rfl hl
        · rfl
      rw [e] at q
      have h3 : ¬ ((xs.length : Int) = 3) := by omega
      walk_at "w"
      simp only [h3, decide_false, Bool.not_false]
      exact ⟨S, _, .refl, q⟩
  | non => exact ⟨S, _, .refl, q⟩
  | bl b => exact ⟨S, _, .refl, q⟩
  | int b => exact ⟨S, _, .refl, q⟩
  | str b => exact ⟨S, _, .refl, q⟩
  | lst b => exact ⟨S, _, .refl, q⟩
  | _ => unfold sl at hs; cases hs
theorem l_is_node : ∀ ds S Q, isNodeS ds S Q → ds.length = 1 := by rintro _ _ _ ⟨_, rfl, _⟩; rfl
theorem e_row_of : ∀ ds S Q, rowOfS ds S Q → m_row_of (endD Q) (startD 3 ds) S := by
  rintro _ S Q ⟨rows, n, rfl, q⟩
  walk_at "w"
  show forL none _ _ _ (rows.map rowD) _ _
  refine forL_inv (fun rr r S' => S' = S ∧ ∃ x2, r = [some (treeD rows), some (.int n), x2] ∧ ML.rowOf rows n = ML.rowOf rr n) ?_ ?_ _ _ _ ⟨rfl, _, rfl, rfl⟩
  · rintro x rr r S' nx ⟨rfl, x2, rfl, e⟩ hnx
    walk_at "w"
    refine ifB (fun h => ?_) (fun h => ?_)
    · have e2 : ML.rowOf (x :: rr) n = some x := by unfold ML.rowOf; rw [List.find?_cons, h]
      rw [e, e2] at q
      exact ⟨S', _, .refl, q⟩
    · have e2 : ML.rowOf (x :: rr) n = ML.rowOf rr n := by unfold ML.rowOf; rw [List.find?_cons, h]
      exact hnx _ _ ⟨rfl, _, rfl, e.trans e2⟩
  · rintro r S' ⟨rfl, x2, rfl, e⟩
    rw [e] at q
    exact ⟨S', _, .refl, q⟩
theorem l_row_of : ∀ ds S Q, rowOfS ds S Q → ds.length = 2 := by rintro _ _ _ ⟨_, _, rfl, _⟩; rfl
theorem e_elders : ∀ ds S Q, eldersS ds S Q → m_elders rowOfS (endD Q) (startD 4 ds) S := by
  rintro _ S Q ⟨rows, n, es, rfl, T, hb, he, q⟩
  have hz := sizeLine_eq
  have hl := he.len T
  refine ⟨rows, n, rfl, ?_⟩
  rcases he with he | ⟨h0, rfl⟩
  · obtain ⟨r, hr⟩ : ∃ r, ML.rowOf rows n = some r := by cases he with | top e _ => exact ⟨_, e⟩ | more e _ _ => exact ⟨_, e⟩
    rw [hr]
    refine whileL_inv (fun k r S' => S' = S ∧ ∃ c es found row, r = [some (treeD rows), some (.int n), some (intsT found), some (rowD row)] ∧ ML.rowOf rows c = some row ∧ Eld rows c es ∧ k = es.length ∧ (∀ e ∈ es, e ∉ found) ∧ es.length + found.length ≤ 10000 ∧ Q (intsT (es ++ found)) S) ?_ es.length _ _ ⟨rfl, n, es, [], r, rfl, hr, he, rfl, (fun _ _ h => by cases h), by rw [List.length_nil]; omega, by rw [List.append_nil]; exact q⟩
    rintro k r' S' nx ⟨rfl, c, es, found, row, rfl, hr, he, rfl, hd, hlen, q⟩ hnx
    cases he with
    | top e hp =>
      rw [hr] at e; cases e
      walk_at "w"
      rw [hp]
      exact ⟨S', _, .refl, q⟩
    | @more _ r2 es2 e hp he2 =>
      rw [hr] at e; cases e
      have hu := (Eld.more hr hp he2).nodup T
      have hu2 : row.p ∉ es2 := fun h => by
        have := (List.nodup_append.mp hu).2.2 _ h row.p (by simp)
        exact this rfl
      have hnf : row.p ∉ found := hd _ (by simp)
      rw [List.length_append, List.length_singleton] at hlen
      walk_at "w"
      simp only [hp, decide_false, Bool.not_false]
      obtain ⟨d, e, ds, f1, f2, f3, f4, f5, f6⟩ := inIntsF S' row.p (y := intsT found) (.inl rfl)
      refine ⟨d, e, ds, f1, f2, f3, f4, f5, ?_⟩
      rw [f6]
      simp only [hnf, decide_false, Bool.not_false, if_true]
      refine ⟨by simp only [List.length_map, List.length_cons, List.length_nil]; omega, ?_⟩
      obtain ⟨r3, hr3⟩ : ∃ r, ML.rowOf rows row.p = some r := by cases he2 with | top e _ => exact ⟨_, e⟩ | more e _ _ => exact ⟨_, e⟩
      refine ⟨rows, row.p, rfl, ?_⟩
      rw [hr3]
      refine hnx es2.length _ _ (by simp) ⟨rfl, row.p, es2, row.p :: found, r3, rfl, hr3, he2, rfl, fun e h z => ?_, by simp only [List.length_cons]; omega, by simpa using q⟩
      rcases List.mem_cons.mp z with rfl | z
      · exact hu2 h
      · exact hd e (by simp [h]) z
  · rw [h0]
    refine ⟨1, ?_⟩
    rw [whileL_succ]
    exact ⟨S, _, .refl, q⟩
theorem l_elders : ∀ ds S Q, eldersS ds S Q → ds.length = 2 := by rintro _ _ _ ⟨_, _, _, rfl, _⟩; rfl
/-- rows that are a tree's if only their parents are there -/
structure Half (rows : List TRow) : Prop where
  inc : (ids rows).Pairwise (· < ·)
  N : Named rows
  nd : ∀ r ∈ rows, nodeB (rowD r) = true
  len : rows.length ≤ 20
theorem Good.half {rows : List TRow} (G : Good rows) : Half rows := ⟨G.T.inc, G.N, fun r hr => G.node hr, G.len⟩
def isTreeQ : DSp := fun ds S Q => ∃ rows, ds = [treeD rows] ∧ Half rows ∧ ((∀ r ∈ rows, r.p = 0 ∨ r.p ∈ ids rows) → Good rows) ∧ ((∀ r ∈ rows, r.p = 0 ∨ r.p ∈ ids rows) → Q (.bl true) S) ∧ (¬ (∀ r ∈ rows, r.p = 0 ∨ r.p ∈ ids rows) → Q (.bl false) S)
theorem isTreeQ_good {rows : List TRow} {S : Mem} {Q : WK} (G : Good rows) (q : Q (.bl true) S) : isTreeQ [treeD rows] S Q := ⟨rows, rfl, Good.half G, fun _ => G, fun _ => q, fun z => absurd G.T.par z⟩
theorem e_is_tree : ∀ ds S Q, isTreeQ ds S Q → m_is_tree isNodeS eldersS (endD Q) (startD 5 ds) S := by
  rintro _ S Q ⟨rows, rfl, G, hG, q1, q2⟩
  have hlen := G.len
  walk_at "w"
  rw [List.length_map]
  have h20 : ¬ ((rows.length : Int) > 20) := by omega
  simp only [h20, decide_false]
  show lcL none _ _ _ _ _ _ (rows.map rowD) [] _
  refine lcL_map (f := fun _ : TRow => D.bl true) rows [] (fun r hr K hK => ⟨rowD r, rfl, sl_row (G.N r hr), by rw [G.nd r hr]; exact hK⟩) ?_
  refine ⟨rows.map fun _ => true, by rw [List.nil_append, List.map_map]; rfl, ?_⟩
  rw [show (rows.map fun _ => true).all id = true by rw [List.all_map]; exact List.all_eq_true.mpr fun _ _ => rfl]
  walk_at "w"
  show lcL none _ _ _ _ _ _ (rows.map rowD) [] _
  refine lcL_map (f := fun r : TRow => D.int r.n) rows [] (fun r hr K hK => hK) ?_
  rw [List.nil_append, show rows.map (fun r : TRow => D.int r.n) = (ids rows).map D.int by rw [List.map_map]; rfl]
  walk_at "w"
  rw [show cutQ ((ids rows).map D.int) none (some (-1)) = (ids rows).dropLast.map D.int from (cutX_map _ _ _ _).trans (congrArg (List.map D.int) (cutX_init _)), show cutQ ((ids rows).map D.int) (some 1) none = ((ids rows).drop 1).map D.int from (cutX_map _ _ _ _).trans (congrArg (List.map D.int) (cutX_drop _ 1)), zipD_ints]
  refine lcL_map (f := fun _ : Int × Int => D.bl true) _ [] (fun p hp K hK => ?_) ?_
  · walk_at "w"
    rw [decide_eq_true (zip_inc G.inc p hp)]
    exact hK
  refine ⟨((ids rows).dropLast.zip ((ids rows).drop 1)).map fun _ => true, by rw [List.nil_append, List.map_map]; rfl, ?_⟩
  rw [show (((ids rows).dropLast.zip ((ids rows).drop 1)).map fun _ => true).all id = true by rw [List.all_map]; exact List.all_eq_true.mpr fun _ _ => rfl]
  walk_at "w"
  show lcL none _ _ _ _ _ _ (rows.map rowD) [] _
  refine lcL_map (f := fun r : TRow => D.bl (decide (r.p = 0 ∨ r.p ∈ ids rows))) rows [] (fun r hr K hK => ?_) ?_
  · walk_at "w"
    by_cases h0 : r.p = 0
    · rw [decide_eq_true (show r.p = 0 ∨ r.p ∈ ids rows from .inl h0)] at hK
      simp only [h0, decide_true]
      exact hK
    · rw [show decide (r.p = 0 ∨ r.p ∈ ids rows) = decide (r.p ∈ ids rows) from decide_eq_decide.mpr ⟨fun z => z.resolve_left h0, .inr⟩] at hK
      simp only [h0, decide_false]
      refine exInL fun d e ds f => ?_
      rw [f]
      exact hK
  refine ⟨rows.map fun r => decide (r.p = 0 ∨ r.p ∈ ids rows), by rw [List.nil_append, List.map_map]; rfl, ?_⟩
  by_cases hp : ∀ r ∈ rows, r.p = 0 ∨ r.p ∈ ids rows
  · have T := (hG hp).T
    rw [show (rows.map fun r => decide (r.p = 0 ∨ r.p ∈ ids rows)).all id = true by rw [List.all_map]; exact List.all_eq_true.mpr fun r hr => decide_eq_true (hp r hr)]
    walk_at "w"
    show lcL none _ _ _ _ _ _ (rows.map rowD) [] _
    refine lcL_map (f := fun _ : TRow => D.bl false) rows [] (fun r hr K hK => ?_) ?_
    · refine ⟨rows, r.n, eldL rows r.n, rfl, T, by omega, T.eldO r.n, ?_⟩
      refine exInT fun d e ds f => ?_
      have hn : ¬ r.n ∈ eldL rows r.n := fun h => by
        obtain ⟨rk, hk⟩ := T.rank
        exact absurd (((mem_eldL T).mp h).1.rank hk) (Nat.lt_irrefl _)
      rw [f, decide_eq_false hn]
      exact hK
    refine ⟨rows.map fun _ => false, by rw [List.nil_append, List.map_map]; rfl, ?_⟩
    rw [show (rows.map fun _ => false).any id = false by rw [List.any_map]; exact List.any_eq_false.mpr fun _ _ h => Bool.noConfusion h]
    exact ⟨S, _, .refl, q1 hp⟩
  · rw [show (rows.map fun r => decide (r.p = 0 ∨ r.p ∈ ids rows)).all id = false by
      rw [List.all_map]
      refine Bool.eq_false_iff.mpr fun z => hp fun r hr => ?_
      exact of_decide_eq_true (List.all_eq_true.mp z r hr)]
    exact ⟨S, _, .refl, q2 hp⟩
theorem l_is_tree : ∀ ds S Q, isTreeQ ds S Q → ds.length = 1 := by rintro _ _ _ ⟨_, rfl, _⟩; rfl
theorem e_kids : ∀ ds S Q, kidsKS ds S Q → m_kids (endD Q) (startD 5 ds) S := by
  rintro _ S Q ⟨rows, p, rfl, hb, q⟩
  walk_at "w"
  show lcL none _ _ _ _ _ _ (rows.map rowD) [] _
  refine lcL_fm (p := fun r : TRow => decide (r.p = p)) (f := fun r : TRow => prD (r.s, r.n)) rows [] (fun r hr K K0 h1 h2 => ?_) ?_
  · walk_at "w"
    exact ifB (fun h => h1 h) (fun h => h2 h)
  · rw [List.nil_append, prs_filter]
    refine ⟨_, rfl, fun i => i == 0, fun x hx => ?_, fun ys hp hs => ?_⟩
    · obtain ⟨y, _, rfl⟩ := List.mem_map.mp hx
      exact pair_ok y
    · rw [pairs_sorted hp hs]
      show lcL none _ _ _ _ _ _ ((prSort (prsOf rows p)).map prD) [] _
      refine lcL_map (f := fun x : Pr => D.int x.2) _ [] (fun x hx K hK => hK) ?_
      rw [List.nil_append]
      refine ⟨S, _, .refl, ?_⟩
      have e : (prSort (prsOf rows p)).map (fun x : Pr => D.int x.2) = (kidsF rows p).map .int := by unfold kidsF; rw [List.map_map]; rfl
      rw [e]; exact q
theorem l_kids : ∀ ds S Q, kidsKS ds S Q → ds.length = 2 := by rintro _ _ _ ⟨_, _, rfl, _⟩; rfl
theorem e_below (m : Nat) : ∀ ds S Q, belowS (m + 1) ds S Q → m_below kidsKS (belowS m) (endD Q) (startD 4 ds) S := by
  rintro _ S Q ⟨rows, n, rfl, hb, hh, hl, q⟩
  have hz := sizeLine_eq
  refine ⟨rows, n, rfl, hb, ?_⟩
  walk_at "w"
  show forL none _ _ _ ((kidsF rows n).map D.int) _ _
  cases m with
  | zero => rw [hh.none, List.map_nil, forL_nil]; exact ⟨S, _, .refl, q⟩
  | succ m =>
    refine forL_inv (fun rr r S' => S' = S ∧ ∃ x3 got, r = [some (treeD rows), some (.int n), some (intsT got), x3] ∧ belowF rows (m + 1) n = got ++ rr.flatMap (fun k => k :: belowF rows m k) ∧ ∀ k ∈ rr, k ∈ kidsF rows n) ?_ ?_ _ _ _ ⟨rfl, _, [], rfl, rfl, fun k hk => hk⟩
    · rintro k rr r S' nx ⟨rfl, x3, got, rfl, e, hk⟩ hnx
      rw [List.flatMap_cons] at e
      have el := congrArg List.length e
      simp only [List.length_append, List.length_cons] at el
      walk_at "w"
      refine ⟨by simp only [List.length_map, List.length_cons, List.length_nil]; omega, ?_⟩
      refine ⟨rows, k, rfl, hb, hh.kid (hk k List.mem_cons_self), by omega, ?_⟩
      walk_at "w"
      refine ⟨by simp only [List.length_append, List.length_map, List.length_cons, List.length_nil]; omega, ?_⟩
      refine hnx _ _ ⟨rfl, some (.int k), got ++ (k :: belowF rows m k), ?_, by rw [e, List.append_assoc], fun j hj => hk j (List.mem_cons_of_mem _ hj)⟩
      show _ = [_, _, some (D.tup ((got ++ (k :: belowF rows m k)).map D.int)), _]
      rw [show (got ++ (k :: belowF rows m k)).map D.int = got.map D.int ++ [D.int k] ++ (belowF rows m k).map D.int by simp]; rfl
    · rintro r S' ⟨rfl, x3, got, rfl, e, _⟩
      rw [e, List.flatMap_nil, List.append_nil] at q
      exact ⟨S', _, .refl, q⟩
theorem l_below (m : Nat) : ∀ ds S Q, belowS (m + 1) ds S Q → ds.length = 2 := by rintro _ _ _ ⟨_, _, rfl, _⟩; rfl
theorem e_path : ∀ ds S Q, pathS ds S Q → m_path eldersS (endD Q) (startD 2 ds) S := by
  rintro _ S Q ⟨rows, n, es, rfl, T, hb, he, q⟩
  have hz := sizeLine_eq
  have hl := he.len T
  refine ⟨rows, n, es, rfl, T, hb, he, ?_⟩
  refine ⟨by simp only [List.length_map, List.length_cons, List.length_nil]; omega, S, _, .refl, ?_⟩
  have e : (es ++ [n]).map D.int = es.map D.int ++ [D.int n] := by simp
  show Q (D.tup (es.map D.int ++ [D.int n])) S
  rw [← e]; exact q
theorem l_path : ∀ ds S Q, pathS ds S Q → ds.length = 2 := by rintro _ _ _ ⟨_, _, _, rfl, _⟩; rfl
theorem e_part (m : Nat) : ∀ ds S Q, partS m ds S Q → m_part kidsKS rowOfS (belowS (m + 1)) (endD Q) (startD 8 ds) S := by
  rintro _ S Q ⟨rows, p, first, many, rfl, T, hm, hb, q⟩
  refine ⟨rows, p, rfl, hb, ?_⟩
  intro d hd
  have hd : asT d = some (cutQ ((kidsF rows p).map D.int) (some (first : Int)) (some ((first : Int) + (many : Int)))) := hd
  rw [show cutQ ((kidsF rows p).map D.int) (some (first : Int)) (some ((first : Int) + (many : Int))) = (((kidsF rows p).drop first).take many).map D.int by rw [← cutX_mid, ← cutX_map]] at hd
  rcases asT_cases hd with rfl | rfl
  all_goals
    show lcL none _ _ _ _ _ _ ((((kidsF rows p).drop first).take many).map D.int) [] _
    refine lcL_map (f := tellD rows m) _ [] (fun k hk K hK => ?_) ?_
    · have hk2 : k ∈ kidsF rows p := List.mem_of_mem_drop (List.mem_of_mem_take hk)
      obtain ⟨r, hr, e1, e2⟩ := mem_kids.mp hk2
      obtain ⟨r2, hr2⟩ := rowOf_some (rows := rows) (n := k) (List.mem_map.mpr ⟨r, hr, e1⟩)
      rw [tell_row hr2] at hK
      refine ⟨rows, k, rfl, ?_⟩
      rw [hr2]
      refine ⟨rows, k, rfl, hb, T.hgt hm k, Nat.le_trans (T.below_len m k) hb, ?_⟩
      walk_at "w"
      rw [List.length_map]
      exact hK
    · rw [List.nil_append]
      refine ⟨S, _, .refl, ?_⟩
      walk_at "w"
      rw [List.length_map]
      exact q
theorem l_part (m : Nat) : ∀ ds S Q, partS m ds S Q → ds.length = 4 := by rintro _ _ _ ⟨_, _, _, _, rfl, _⟩; rfl
theorem e__law_draw : ∀ ds S Q, drawT ds S Q → m__law_draw (endD Q) (startD 7 ds) S := by
  intro ds S Q hT
  have hS := drawT_S hT
  clear hT
  revert hS
  rintro ⟨ns, t, zs, many, rfl, hS, hz, hm, h⟩
  have hl := sizeLine_eq
  refine ⟨isLst_obj hS, zs, hS, by omega, ?_⟩
  walk_at "w"
  simp only [up_same]
  generalize hk : (((zs ++ [D.int 0]).length : Nat) : Int) = k
  have k0 : 0 ≤ k ∧ k < 16777216 := by rw [List.length_append, List.length_singleton] at hk; omega
  have fin : ∀ cell : Int, (mSeq (mSet 5 (mBin oMod (mBin oAdd (mVar 4) (mBin oMul (mC (.int 104729)) (mVar 3))) (mC (.int 4294967291))))
    (mSeq (mSet 5 (mBin oMod (mBin oMul (mBin oMod (mBin oMul (mVar 5) (mVar 5)) (mC (.int 4294967279))) (mC (.int 48271))) (mC (.int 4294967291))))
    (mSeq (mSet 6 (mBin oMod (mBin oMul (mBin oMod (mBin oMul (mVar 5) (mVar 5)) (mC (.int 4294967279))) (mC (.int 69621))) (mC (.int 4294967291))))
    (mRet (mBin oMod (mBin oAdd (mBin oMul (mBin oFdiv (mVar 5) (mC (.int 64))) (mC (.int 67108864))) (mBin oFdiv (mVar 6) (mC (.int 64)))) (mVar 2))))))
      (endD Q) [some (.fls (ns.map D.int)), some (.obj t), some (.int many), some (.int k), some (.int cell), none, none] (up S t (.lst (zs ++ [.int 0]))) := by
    intro cell
    refine ⟨.inl ⟨by omega, by omega⟩, by decide, ?_⟩
    have a1 : 0 ≤ (cell + 104729 * k) % 4294967291 ∧ (cell + 104729 * k) % 4294967291 < 4294967291 := by omega
    generalize (cell + 104729 * k) % 4294967291 = n1 at a1 ⊢
    refine ⟨.inl ⟨by omega, by omega⟩, by decide, .inr ⟨by omega, by omega⟩, by decide, ?_⟩
    have a2 : 0 ≤ n1 * n1 % 4294967279 * 48271 % 4294967291 ∧ n1 * n1 % 4294967279 * 48271 % 4294967291 < 4294967291 := ⟨Int.emod_nonneg _ (by decide), Int.emod_lt_of_pos _ (by decide)⟩
    generalize n1 * n1 % 4294967279 * 48271 % 4294967291 = n2 at a2 ⊢
    refine ⟨.inl ⟨by omega, by omega⟩, by decide, .inr ⟨by omega, by omega⟩, by decide, ?_⟩
    have a3 : 0 ≤ n2 * n2 % 4294967279 * 69621 % 4294967291 ∧ n2 * n2 % 4294967279 * 69621 % 4294967291 < 4294967291 := ⟨Int.emod_nonneg _ (by decide), Int.emod_lt_of_pos _ (by decide)⟩
    generalize n2 * n2 % 4294967279 * 69621 % 4294967291 = n3 at a3 ⊢
    refine ⟨⟨by decide, by decide⟩, .inr ⟨by omega, by omega⟩, ⟨by decide, by decide⟩, hm, _, _, .refl, h _ (Int.emod_nonneg _ (by omega)) (Int.emod_lt_of_pos _ hm)⟩
  cases ns with
  | nil => exact fin 0
  | cons n0 ns =>
    walk_at "w"
    have hp : (0 : Int) < ((n0 :: ns).map D.int).length := by rw [List.length_map, List.length_cons]; omega
    refine ⟨hp, ?_⟩
    obtain ⟨c, hc⟩ := atI_ints (ns := n0 :: ns) (i := k % ((n0 :: ns).map D.int).length) (Int.emod_nonneg _ (by omega)) (by
      have := Int.emod_lt_of_pos k hp
      rw [List.length_map] at this ⊢; exact this)
    exact opt_some hc (fin c)
theorem l__law_draw : ∀ ds S Q, drawT ds S Q → ds.length = 3 := by rintro _ _ _ ⟨_, _, _, _, rfl, _⟩; rfl
theorem e__law_pick : ∀ ds S Q, pickT ds S Q → m__law_pick drawT (endD Q) (startD 3 ds) S := by
  rintro _ S Q ⟨ns, t, k, d, xs, rfl, hT, hk, hi, hx, q⟩
  have pos : ∀ ys : List D, ys ≠ [] → (0 : Int) < ys.length := fun ys h => by have := List.length_pos_iff.mpr h; omega
  cases hi with
  | lst =>
    refine ⟨ns, t, _, k, rfl, hT, hk, pos _ hx, fun r S' h0 h1 hT' hF => ?_⟩
    obtain ⟨x, hm, ha⟩ := atI_mem h0 h1
    exact opt_some ha ⟨S', x, .refl, q x hm S' hT' hF⟩
  | tup =>
    refine ⟨ns, t, _, k, rfl, hT, hk, pos _ hx, fun r S' h0 h1 hT' hF => ?_⟩
    obtain ⟨x, hm, ha⟩ := atI_mem h0 h1
    exact opt_some ha ⟨S', x, .refl, q x hm S' hT' hF⟩
  | obj hn hS =>
    walk_at "w"
    simp only [hS]
    refine ⟨ns, t, _, k, rfl, hT, hk, pos _ hx, fun r S' h0 h1 hT' hF => ?_⟩
    obtain ⟨x, hm, ha⟩ := atI_mem h0 h1
    walk_at "w"
    simp only [(hF _ hn).trans hS]
    exact opt_some ha ⟨S', x, .refl, q x hm S' hT' hF⟩
  | @str z hz =>
    have ez : (z.length : Int) = ((z.cps.toList.map sgnD).length : Int) := by rw [List.length_map, Array.length_toList]; rfl
    refine ⟨hz, ns, t, _, k, rfl, hT, hk, by rw [ez]; exact pos _ hx, fun r S' h0 h1 hT' hF => ?_⟩
    rw [ez, List.length_map] at h1
    obtain ⟨x, hm, ha⟩ := atI_mem (xs := z.cps.toList) h0 h1
    exact ⟨hz, opt_some ha ⟨S', _, .refl, q _ (List.mem_map.mpr ⟨x, hm, rfl⟩) S' hT' hF⟩⟩
theorem l__law_pick : ∀ ds S Q, pickT ds S Q → ds.length = 3 := by rintro _ _ _ ⟨_, _, _, _, _, rfl, _⟩; rfl
theorem nameB_ok : ∀ x ∈ ([.str "a", .str "b", .str "ab", .str "ba", .str "zed"] : List D), ∃ z : Str, x = .str z ∧ okName z ∧ z ∈ namesB := by
  intro x hx
  simp only [List.mem_cons, List.not_mem_nil, or_false] at hx
  rcases hx with rfl | rfl | rfl | rfl | rfl
  all_goals exact ⟨_, rfl, ⟨by decide, by decide, by decide⟩, by decide⟩
theorem e__law_tree : ∀ ds S Q, treeBT ds S Q → m__law_tree drawT pickT (endD Q) (startD 8 ds) S := by
  rintro _ S Q ⟨ns, t, k, most, rfl, hT, hm, hk, q⟩
  have hz := sizeLine_eq
  intro g hg a ha
  have hgt : g ≠ t := by
    obtain ⟨zs, h1, _⟩ := hT
    intro e; subst e; rw [hg] at h1; cases h1
  have hag : a ≠ g := by
    intro e; subst e; rw [up_same] at ha; cases ha
  have hat : a ≠ t := by
    obtain ⟨zs, h1, _⟩ := hT
    intro e; subst e; rw [up_ne hag, h1] at ha; cases ha
  have hT0 : Tn (up (up S g (.dk [])) a (.lst [.int 0])) t k := let ⟨zs, h1, h2⟩ := hT; ⟨zs, (up_ne hat.symm).trans ((up_ne hgt.symm).trans h1), h2⟩
  have ha0 : S a = none := (up_ne hag).symm.trans ha
  refine ⟨ns, t, _, k, rfl, hT0, by omega, by show (0 : Int) < (most : Int) + 1; omega, fun r0 S1 h0 h1 hT1 hF1 => ?_⟩
  obtain ⟨n, rfl⟩ := Int.eq_ofNat_of_zero_le h0
  have hn : n ≤ most := by omega
  refine ⟨by omega, ?_⟩
  show forL none _ _ _ ((List.range n).map fun i => D.int (0 + (i : Nat))) _ _
  refine forL_inv (fun rr r S' => ∃ (rs : List TRow) (x5 x6 x7 : Option D), r = [some (.fls (ns.map .int)), some (.obj t), some (.int most), some (.obj g), some (.obj a), x5, x6, x7] ∧ S' g = some (.dk (dkOf rs)) ∧ S' a = some (.lst ((0 :: ids rs).map .int)) ∧ (ids rs).Nodup ∧ (∀ r ∈ rs, 0 < r.n ∧ r.n ≤ 999) ∧ Named rs ∧ (∀ r ∈ rs, r.s ∈ namesB) ∧ PIn rs ∧ rs.length + rr.length ≤ n ∧ Tn S' t (k + 1 + 4 * (n - rr.length)) ∧ rr.length ≤ n ∧ ∀ b, b ≠ t → b ≠ a → b ≠ g → S' b = S b) ?_ ?_ _ _ _ ⟨[], _, _, _, rfl, (hF1 g hgt).trans ((up_ne hag.symm).trans up_same), (hF1 a hat).trans up_same, List.nodup_nil, (fun _ h => by cases h), (fun _ h => by cases h), (fun _ h => by cases h), (fun _ h => by cases h), by rw [List.length_range]; simp, by rw [List.length_range]; exact hT1.mono (by omega), by rw [List.length_range]; exact Nat.le_refl _, fun b b1 b2 b3 => (hF1 b b1).trans ((up_ne b2).trans (up_ne b3))⟩
  · rintro i rr r S2 nx ⟨rs, x5, x6, x7, rfl, hg2, ha2, nd, hpos, hN, hB, hP, hl, hT2, hr, hf2⟩ hnx
    rw [List.length_cons] at hl hT2 hr
    refine ⟨ns, t, _, _, _, rfl, hT2, by omega, .lst _, by simp, fun x hx S3 hT3 hF3 => ?_⟩
    have hx2 : ∃ m : Int, x = .int m ∧ 0 < m ∧ m ≤ 999 := by
      simp only [List.mem_cons, List.not_mem_nil, or_false] at hx
      rcases hx with rfl | rfl <;> exact ⟨_, rfl, by decide, by decide⟩
    obtain ⟨m, rfl, m0, m1⟩ := hx2
    refine ⟨ns, t, m, _, rfl, hT3, by omega, m0, fun r1 S4 g0 g1 hT4 hF4 => ?_⟩
    have hg4 : S4 g = some (.dk (dkOf rs)) := (hF4 g hgt).trans ((hF3 g hgt).trans hg2)
    have ha4 : S4 a = some (.lst ((0 :: ids rs).map .int)) := (hF4 a hat).trans ((hF3 a hat).trans ha2)
    have gd : getD S4 g (.int (1 + r1)) = some (lookD (dkOf rs) (Sum.inl (1 + r1) : Key)) := by unfold getD; simp only [hg4]; rfl
    refine .inl ⟨_, gd, ?_⟩
    rw [look_iff nd]
    by_cases hin : 1 + r1 ∈ ids rs
    · simp only [hin, decide_true, Bool.not_true, if_true]
      exact hnx _ _ ⟨rs, _, _, _, rfl, hg4, ha4, nd, hpos, hN, hB, hP, by omega, hT4.mono (by omega), by omega, fun b b1 b2 b3 => (hF4 b b1).trans ((hF3 b b1).trans (hf2 b b1 b2 b3))⟩
    · simp only [hin, decide_false, Bool.not_false, if_true]
      refine ⟨ns, t, _, _, _, rfl, hT4, by omega, .lst _, by simp, fun x hx S5 hT5 hF5 => ?_⟩
      obtain ⟨z, rfl, hzn, hzb⟩ := nameB_ok x hx
      have hg5 := (hF5 g hgt).trans hg4
      have ha5 := (hF5 a hat).trans ha4
      refine ⟨ns, t, _, _, _, rfl, hT5, by omega, .obj hat ha5, by simp, fun x hx S6 hT6 hF6 => ?_⟩
      obtain ⟨p, hp, rfl⟩ := List.mem_map.mp hx
      have hg6 := (hF6 g hgt).trans hg5
      have ha6 := (hF6 a hat).trans ha5
      have hlr : (dkOf rs).length < sizeLine := by rw [List.length_map]; omega
      walk_at "w"
      simp only [hg6]
      refine ⟨_, rfl, hlr, ?_⟩
      rw [put_out hin]
      have ha7 : up S6 g (.dk (dkOf rs ++ [(Sum.inl (1 + r1), .tup [.int (1 + r1), .int p, .str z])])) a = some (.lst ((0 :: ids rs).map .int)) := (up_ne hag).trans ha6
      refine ⟨isLst_obj ha7, _, ha7, by simp only [List.length_map, List.length_cons]; omega, ?_⟩
      refine hnx _ _ ⟨rs ++ [⟨1 + r1, p, z⟩], _, _, _, rfl, ?_, ?_, ?_, fun r hr => ?_, fun r hr => ?_, fun r hr => ?_, hP.add hin (List.mem_cons.mp hp), by simp only [List.length_append, List.length_singleton]; omega, ?_, by omega, fun b b1 b2 b3 => ?_⟩
      · rw [up_ne hag.symm, up_same]; simp
      · rw [up_same]; simp
      · rw [show ids (rs ++ [(⟨1 + r1, p, z⟩ : TRow)]) = ids rs ++ [1 + r1] by simp]
        refine List.nodup_append.mpr ⟨nd, by simp, fun x hx y hy => ?_⟩
        rw [List.mem_singleton.mp hy]
        intro e; exact hin (e ▸ hx)
      · rcases List.mem_append.mp hr with hr | hr
        · exact hpos r hr
        · rw [List.mem_singleton.mp hr]; exact ⟨by show 0 < 1 + r1; omega, by show 1 + r1 ≤ 999; omega⟩
      · rcases List.mem_append.mp hr with hr | hr
        · exact hN r hr
        · rw [List.mem_singleton.mp hr]; exact hzn
      · rcases List.mem_append.mp hr with hr | hr
        · exact hB r hr
        · rw [List.mem_singleton.mp hr]; exact hzb
      · obtain ⟨zs, z1, z2⟩ := hT6
        exact ⟨zs, (up_ne hat.symm).trans ((up_ne hgt.symm).trans z1), by omega⟩
      · exact (up_ne b2).trans ((up_ne b3).trans ((hF6 b b1).trans ((hF5 b b1).trans ((hF4 b b1).trans ((hF3 b b1).trans (hf2 b b1 b2 b3))))))
  · rintro r S2 ⟨rs, x5, x6, x7, rfl, hg2, ha2, nd, hpos, hN, hB, hP, hl, hT2, _, hf2⟩
    rw [List.length_nil] at hl
    walk_at "w"
    simp only [hg2]
    refine ⟨ids rs, by rw [List.map_map, List.map_map]; rfl, by rw [List.length_map]; omega, fun ys hp hs => ?_⟩
    obtain ⟨rs', p1, p2⟩ := perm_lift hp rs rfl
    have nd' : ys.Nodup := hp.nodup_iff.mpr nd
    subst p2
    rw [show (rs'.map fun r => r.n).map D.int = rs'.map fun r => D.int r.n by rw [List.map_map]; rfl]
    refine lcL_map (f := rowD) rs' [] (fun r hr K hK => ?_) ?_
    · walk_at "w"
      simp only [hg2]
      have gd : getD S2 g (.int r.n) = some (some (rowD r)) := by
        unfold getD; simp only [hg2]
        exact congrArg some (look_in nd (p1.mem_iff.mp hr))
      exact opt_some gd hK
    · rw [List.nil_append]
      refine ⟨rid (rid S2 g) a, _, Shift.drop.trans .drop, q rs' _ ?_ (fun r hr => hN r (p1.mem_iff.mp hr)) (fun r hr => (hpos r (p1.mem_iff.mp hr)).2) (fun r hr => hB r (p1.mem_iff.mp hr)) (by rw [p1.length_eq]; omega) ?_ fun b hb => ?_⟩
      · exact tree_of (le_lt hs nd') (fun x hx => by obtain ⟨r, hr, rfl⟩ := List.mem_map.mp hx; exact (hpos r (p1.mem_iff.mp hr)).1) hp.symm rfl fun r hr => hP r (p1.mem_iff.mp hr)
      · obtain ⟨zs, z1, z2⟩ := hT2
        rw [List.length_nil] at z2
        exact ⟨zs, (rid_ne hat.symm).trans ((rid_ne hgt.symm).trans z1), by omega⟩
      · by_cases e : b = a
        · subst e; rw [rid_same, ha0]
        · rw [rid_ne e]
          by_cases e2 : b = g
          · subst e2; rw [rid_same, hg]
          · rw [rid_ne e2]; exact hf2 b hb e e2
theorem l__law_tree : ∀ ds S Q, treeBT ds S Q → ds.length = 3 := by rintro _ _ _ ⟨_, _, _, _, rfl, _⟩; rfl
end LW

set_option maxRecDepth 100000
local macro_rules | `(tactic| walk_at "w") => `(tactic| conv => whnf)
namespace LW
open PySem PySem.Spec PyProof.Rows L2 ML
def nodeS : DSp := fun ds S Q => ∃ (rows : List TRow) (r : TRow), ds = [treeD rows, rowD r] ∧ Tree rows ∧ Named rows ∧ rows.length ≤ 16 ∧ r ∈ rows ∧ Q (.bl true) S
theorem l__law_node_holds : ∀ ds S Q, nodeS ds S Q → ds.length = 2 := by rintro _ _ _ ⟨_, _, rfl, _⟩; rfl
theorem exInK {i : Int} {ns : List Int} {S : Mem} {K : PyData → PyData → List PyData → Prop} (h : ∀ d e ds, (ds.any fun z => PyData.eqv z d) = decide (i ∈ ns) → K d e ds) : ∃ d e ds, toPyM S (.int i) = some d ∧ toPy (.kt (ns.map D.int)) = some e ∧ pyItems e = some ds ∧ SeqAt.shaped d = true ∧ SeqAt.shaped e = true ∧ K d e ds := by
  rw [show toPy (.kt (ns.map D.int)) = toPy (.tup (ns.map D.int)) by unfold toPy; rfl]
  exact exInT h
theorem below_stab {rows : List TRow} : ∀ {m : Nat} {n : Int}, Hgt rows m n → belowF rows (m + 1) n = belowF rows m n
  | 0, n, h => by
    show (kidsF rows n).flatMap _ = []
    rw [h.none]; rfl
  | m + 1, n, h => by
    show (kidsF rows n).flatMap (fun k => k :: belowF rows (m + 1) k) = (kidsF rows n).flatMap fun k => k :: belowF rows m k
    have : ∀ l : List Int, (∀ k ∈ l, k ∈ kidsF rows n) → l.flatMap (fun k => k :: belowF rows (m + 1) k) = l.flatMap fun k => k :: belowF rows m k := by
      intro l
      induction l with
      | nil => intro _; rfl
      | cons k l ih =>
        intro hl
        rw [List.flatMap_cons, List.flatMap_cons, ih fun x hx => hl x (List.mem_cons_of_mem _ hx), below_stab (h.kid (hl k List.mem_cons_self))]
    exact this _ fun _ h => h
theorem flat_pre {l m : List Int} {f : Int → List Int} : (l.flatMap f).length ≤ ((l ++ m).flatMap f).length := by rw [List.flatMap_append, List.length_append]; omega
theorem take_at {l : List Int} {n : Int} (h : n ∈ l) : (l.drop (l.idxOf n)).take 1 = [n] := by
  have hi := List.idxOf_lt_length_of_mem h
  rw [List.drop_eq_getElem_cons hi, List.take_succ_cons, List.take_zero, List.getElem_idxOf hi]
abbrev tlN : DS :=
    (mSeq (mSet 5 (mTup mNil))
    (mSeq (mFor (wSeq (mCall kidsKS (mCons (mVar 0) (mCons (mVar 2) mNil)))) (bName 6) (mSet 5 (mBin oAdd (mBin oAdd (mVar 5) (mTup (mCons (mVar 6) mNil))) (mCall (belowS 17) (mCons (mVar 0) (mCons (mVar 6) mNil))))))
    (mSeq (mIfS (mTst (mBin oNe (mCall (belowS 17) (mCons (mVar 0) (mCons (mVar 2) mNil))) (mVar 5))) (mRet (mC (.bl false))) mNx)
    (mSeq (mFor (wSeq (mVar 0)) (bName 7) (mIfS (mTst (mBin oNe (mBin (oIn false) (mBin oIx (mVar 7) (mC (.int 0))) (mCall (belowS 17) (mCons (mVar 0) (mCons (mVar 2) mNil)))) (mBin (oIn false) (mVar 2) (mCall eldersS (mCons (mVar 0) (mCons (mBin oIx (mVar 7) (mC (.int 0))) mNil)))))) (mRet (mC (.bl false))) mNx))
    (mSeq (mSet 8 (mIdx (mCall kidsKS (mCons (mVar 0) (mCons (mVar 3) mNil))) (mCons (mVar 2) mNil)))
    (mRet (mBin oEq (mBin oIx (mCall (partS 16) (mCons (mVar 0) (mCons (mVar 3) (mCons (mVar 8) (mCons (mC (.int 1)) mNil))))) (mC (.int 3))) (mTup (mCons (mTup (mCons (mVar 2) (mCons (mVar 4) (mCons (mCall oLen (mCons (mVar 5) mNil)) mNil)))) mNil)))))))))
theorem e__law_node_holds : ∀ ds S Q, nodeS ds S Q → m__law_node_holds kidsKS pathS eldersS (belowS 17) (partS 16) (endD Q) (startD 9 ds) S := by
  rintro _ S Q ⟨rows, r, rfl, T, hN, hl, hr, q⟩
  have hz := sizeLine_eq
  have hb : rows.length ≤ 10000 := by omega
  have hn : r.n ∈ ids rows := List.mem_map.mpr ⟨r, hr, rfl⟩
  have hn0 : r.n ≠ 0 := by have := T.pos r hr; omega
  have hk : r.n ∈ kidsF rows r.p := mem_kids.mpr ⟨r, hr, rfl, rfl⟩
  have eO : EldO rows r.n (eldL rows r.n) := T.eldO r.n
  have hel := T.eldL_len r.n
  have hbel := T.below_len 16 r.n
  have hg := T.hgt hl r.n
  have main : tlN (endD Q) [some (treeD rows), some (rowD r), some (.int r.n), some (.int r.p), some (.str r.s), none, none, none, none] S := by
    refine ⟨rows, r.n, rfl, hb, ?_⟩
    walk_at "w"
    refine forL_inv (fun rest rr S' => ∃ (pre : List Int) (x6 : Option D), pre ++ rest = kidsF rows r.n ∧ rr = [some (treeD rows), some (rowD r), some (.int r.n), some (.int r.p), some (.str r.s), some (intsT (pre.flatMap fun k => k :: belowF rows 16 k)), x6, none, none] ∧ S' = S) ?_ ?_ (kidsF rows r.n) _ _ ⟨[], none, rfl, rfl, rfl⟩
    · rintro k rest rr S' nx ⟨pre, x6, hp, rfl, rfl⟩ hnx
      have hkk : k ∈ kidsF rows r.n := by rw [← hp]; simp
      have hpl : (pre.flatMap fun k => k :: belowF rows 16 k).length + (1 + (belowF rows 16 k).length) ≤ 16 := by
        have h1 : ((pre ++ [k]).flatMap fun k => k :: belowF rows 16 k).length ≤ ((pre ++ [k] ++ rest).flatMap fun k => k :: belowF rows 16 k).length := flat_pre
        have h2 := T.below_len 17 r.n
        rw [List.append_assoc, List.singleton_append, hp] at h1
        have h3 : ((kidsF rows r.n).flatMap fun k => k :: belowF rows 16 k).length ≤ rows.length := h2
        rw [List.flatMap_append, List.length_append] at h1
        simp only [List.flatMap_cons, List.flatMap_nil, List.append_nil, List.length_cons] at h1
        omega
      walk_at "w"
      refine ⟨by rw [List.length_map]; show _ + 1 ≤ _; omega, ?_⟩
      walk_at "w"
      refine ⟨rows, k, rfl, hb, T.hgt hl k, Nat.le_trans (T.below_len 16 k) hb, ?_⟩
      refine ⟨by simp only [List.length_append, List.length_map, List.length_cons, List.length_nil]; omega, ?_⟩
      have ex : (pre.flatMap fun k => k :: belowF rows 16 k).map D.int ++ [D.int k] ++ (belowF rows 16 k).map D.int = ((pre ++ [k]).flatMap fun k => k :: belowF rows 16 k).map D.int := by
        rw [List.flatMap_append, List.map_append]
        simp only [List.flatMap_cons, List.flatMap_nil, List.append_nil, List.map_cons, List.append_assoc, List.singleton_append]
      rw [ex]
      exact hnx _ _ ⟨pre ++ [k], some (.int k), by rw [List.append_assoc]; exact hp, rfl, rfl⟩
    · rintro rr S' ⟨pre, x6, hp, rfl, rfl⟩
      rw [List.append_nil] at hp
      subst hp
      have hdue : ((kidsF rows r.n).flatMap fun k => k :: belowF rows 16 k) = belowF rows 16 r.n := below_stab hg
      rw [hdue]
      walk_at "w"
      refine ⟨rows, r.n, rfl, hb, hg, Nat.le_trans (T.below_len 16 r.n) hb, ?_⟩
      refine exSame (PuD.intsT _) fun a b hab => ?_
      rw [hab]
      walk_at "w"
      show forL none _ _ _ (rows.map rowD) _ _
      refine forL_inv (fun rest rr S2 => ∃ (x7 : Option D), (∀ z ∈ rest, z ∈ rows) ∧ rr = [some (treeD rows), some (rowD r), some (.int r.n), some (.int r.p), some (.str r.s), some (intsT (belowF rows 16 r.n)), x6, x7, none] ∧ S2 = S') ?_ ?_ rows _ _ ⟨none, fun _ h => h, rfl, rfl⟩
      · rintro o rest rr S2 nx ⟨x7, hz2, rfl, rfl⟩ hnx
        have ho : o ∈ rows := hz2 o List.mem_cons_self
        have nxt := hnx [some (treeD rows), some (rowD r), some (.int r.n), some (.int r.p), some (.str r.s), some (intsT (belowF rows 16 r.n)), x6, some (rowD o), none] S2 ⟨_, fun z hz => hz2 z (List.mem_cons_of_mem _ hz), rfl, rfl⟩
        walk_at "w"
        refine ⟨rows, r.n, rfl, hb, hg, Nat.le_trans (T.below_len 16 r.n) hb, ?_⟩
        refine exInT fun d e ds f => ?_
        rw [f]
        walk_at "w"
        refine ⟨rows, o.n, _, rfl, T, hb, T.eldO o.n, ?_⟩
        refine exInT fun d e ds f => ?_
        rw [f]
        have eb : decide (o.n ∈ belowF rows 16 r.n) = decide (r.n ∈ eldL rows o.n) := by
          rw [decide_eq_decide]
          exact ⟨fun h => (mem_eldL T).mpr ⟨up_of_below h, hn0⟩, fun h => below_of_up hg ((mem_eldL T).mp h).1⟩
        rw [eb]
        walk_at "w"
        simp only [decide_true, Bool.not_true]
        exact nxt
      · rintro rr S2 ⟨x7, _, rfl, rfl⟩
        walk_at "w"
        refine ⟨rows, r.p, rfl, hb, ?_⟩
        refine ⟨trivial, (kidsF rows r.p).map .int, (kidsF rows r.p).map PyData.int, .int r.n, (kidsF rows r.p).idxOf r.n, rfl, toPys_ints _, rfl, shaped_ints _, shaped_int _, idx_int hk, ?_⟩
        walk_at "w"
        refine ⟨rows, r.p, (kidsF rows r.p).idxOf r.n, 1, rfl, T, hl, hb, ?_⟩
        rw [take_at hk]
        walk_at "w"
        have et : tellD rows 16 r.n = .tup [.int r.n, .str r.s, .int (belowF rows 16 r.n).length] := tell_row (row_in T hr)
        rw [List.length_map, show List.map (tellD rows 16) [r.n] = [tellD rows 16 r.n] from rfl, ← et]
        refine exSame (x := .tup [tellD rows 16 r.n]) (PuD.tup fun x hx => ?_) fun a b hab => ?_
        · cases List.mem_singleton.mp hx
          exact pu_tell hN 16 hk
        · rw [hab]
          exact ⟨S2, _, .refl, q⟩
  walk_at "w"
  refine ⟨rows, r.p, rfl, hb, ?_⟩
  walk_at "w"
  refine exInK fun d e ds f => ?_
  rw [f, decide_eq_true hk]
  walk_at "w"
  refine ⟨rows, r.n, _, rfl, T, hb, eO, ?_⟩
  refine ⟨rows, r.n, _, rfl, T, hb, eO, ?_⟩
  refine ⟨by rw [List.length_map]; show _ + 1 ≤ _; omega, ?_⟩
  rw [show (eldL rows r.n).map D.int ++ [D.int r.n] = (eldL rows r.n ++ [r.n]).map D.int by rw [List.map_append]; rfl]
  refine exSame (PuD.intsT _) fun a b hab => ?_
  rw [hab]
  walk_at "w"
  refine ⟨rows, r.n, _, rfl, T, hb, eO, ?_⟩
  have ek := eld_kid T hk
  walk_at "w"
  refine ifB (fun h => ?_) (fun h => ?_)
  · have h0 : r.p = 0 := of_decide_eq_true h
    rw [h0] at ek
    rw [show eldL rows r.n = [] from ek]
    refine exSame (x := .tup []) (PuD.intsT []) fun a b hab => ?_
    rw [hab]
    exact main
  · have h0 : r.p ≠ 0 := of_decide_eq_false h
    refine ⟨rows, r.p, _, rfl, T, hb, T.eldO r.p, ?_⟩
    rw [ek, pth_ne h0]
    refine exSame (PuD.intsT _) fun a b hab => ?_
    rw [hab]
    exact main
theorem tok_lt (a b : Pr) : PySem.W.dataLt (.tuple [.str a.1, .int a.2]) (.tuple [.str b.1, .int b.2]) = kLt (prK a) (prK b) := by
  rw [PySem.W.dataLt_tuple]
  unfold kLt prK
  simp only [PySem.W.keyToksAll, PySem.W.keyToks, List.cons_append, List.nil_append]
  have one : ∀ l m : Ky, lexLt itemOrd (Sum.inl 1 :: l) (Sum.inl 1 :: m) = lexLt itemOrd l m := fun l m => by rw [lex_cons]; rfl
  have nought : lexLt itemOrd ([Sum.inl 0] : Ky) [Sum.inl 0] = false := by rw [lex_cons]; rfl
  have none : lexLt itemOrd ([] : Ky) [] = false := rfl
  rw [one, lex_cons, one, lex_cons, nought, lex_cons (O := itemOrd) (Sum.inr a.1.cps.toList), lex_cons (O := itemOrd) (Sum.inl a.2), none]
theorem kids_sorted {rows : List TRow} (T : ML.Tree rows) (p : Int) : (kidsF rows p).mergeSort (PySem.W.dataLe false (keyN (nameOf rows))) = kidsF rows p := by
  refine List.mergeSort_of_pairwise ?_
  unfold kidsF
  rw [List.pairwise_map]
  refine List.Pairwise.imp_of_mem ?_ (prSort_sorted (prsOf rows p))
  have nm : ∀ x ∈ prSort (prsOf rows p), nameOf rows x.2 = x.1 := fun x hx => by
    have hx := (prSort_perm _).mem_iff.mp hx
    unfold prsOf at hx
    obtain ⟨r, hr, rfl⟩ := List.mem_map.mp hx
    have hr := (List.mem_filter.mp hr).1
    show ((rowOf rows r.n).map (·.s)).get! = r.s
    rw [row_in T hr]; rfl
  intro a b ha hb h
  rw [PySem.W.dataLe_eq]
  show (!PySem.W.dataLt (keyN (nameOf rows) b.2) (keyN (nameOf rows) a.2)) = true
  unfold keyN
  rw [nm a ha, nm b hb, tok_lt]
  exact h
theorem flat_kids {rows : List TRow} (T : ML.Tree rows) : ((0 :: ids rows).flatMap (kidsF rows)).Perm (ids rows) := by
  obtain ⟨h1, h2⟩ := T.parents
  refine nodup_perm ?_ T.nd fun x => ?_
  · generalize 0 :: ids rows = L at h1
    induction L with
    | nil => exact List.nodup_nil
    | cons a L ih =>
      rw [List.nodup_cons] at h1
      rw [List.flatMap_cons, List.nodup_append]
      refine ⟨kids_nodup T.nd a, ih h1.2 , fun x hx y hy e => ?_⟩
      subst e
      obtain ⟨b, hb, hxb⟩ := List.mem_flatMap.mp hy
      obtain ⟨r, hr, e1, e2⟩ := mem_kids.mp hx
      obtain ⟨r', hr', e3, e4⟩ := mem_kids.mp hxb
      have := uniq_of T.nd hr hr' (e1.trans e3.symm)
      subst this
      exact h1.1 (by rw [← e2, e4]; exact hb)
  · rw [List.mem_flatMap]
    constructor
    · rintro ⟨p, _, hx⟩
      exact kid_ids hx
    · intro hx
      obtain ⟨r, hr, rfl⟩ := List.mem_map.mp hx
      exact ⟨r.p, h2 r hr, mem_kids.mpr ⟨r, hr, rfl, rfl⟩⟩
theorem sorted_ids {rows : List TRow} (T : ML.Tree rows) {ns xs : List Int} (hx : xs.Perm (ids rows)) (h1 : ns.Perm xs) (h2 : ns.Pairwise (· ≤ ·)) : ns = ids rows :=
  sorted_uniq (le := fun a b : Int => a ≤ b) (fun a b => Int.le_antisymm) (h1.trans hx) h2 (T.inc.imp fun h => Int.le_of_lt h)
theorem below_sum {rows : List TRow} {p : Int} (h : Hgt rows 16 p) : ((kidsF rows p).map fun k => (((belowF rows 16 k).length : Nat) : Int)).sum + (kidsF rows p).length = (belowF rows 16 p).length := by
  rw [← below_stab h]
  show _ = ((((kidsF rows p).flatMap fun k => k :: belowF rows 16 k).length : Nat) : Int)
  generalize kidsF rows p = L
  induction L with
  | nil => rfl
  | cons a L ih =>
    rw [List.flatMap_cons, List.length_append, List.map_cons, List.sum_cons, List.length_cons, List.length_cons]
    omega
def lawS (Pt : Addr) : DSp := fun ds S Q => S Pt = some .hid ∧ ∃ ns : List Int, ds = [.fls (ns.map .int)] ∧ ∀ S', Q (.bl true) S'
theorem l_law (Pt : Addr) : ∀ ds S Q, lawS Pt ds S Q → ds.length = 1 := by rintro _ _ _ ⟨_, _, rfl, _⟩; rfl
theorem h_law (Pt : Addr) (ns : List Int) (S : Mem) (h : S Pt = some .hid) : lawS Pt [.fls (ns.map .int)] S fun d _ => d = .bl true := ⟨h, ns, rfl, fun _ => rfl⟩
theorem tree_nil : Good ([] : List TRow) := ⟨⟨.nil, fun r hr => (by cases hr), ⟨fun _ => 0, fun r hr => (by cases hr)⟩, fun r hr => (by cases hr)⟩, fun r hr => (by cases hr), fun r hr => (by cases hr), by decide⟩
theorem kids_nil (p : Int) : kidsF ([] : List TRow) p = [] := by
  have := kids_len ([] : List TRow) p
  exact List.length_eq_zero_iff.mp (Nat.le_zero.mp this)
theorem below_nil (p : Int) : belowF ([] : List TRow) 16 p = [] := by
  show (kidsF ([] : List TRow) p).flatMap _ = []
  rw [kids_nil]; rfl
theorem exNilK {S : Mem} {K : PyData → PyData → Prop} (h : ∀ p q, PyData.eqv p q = true → K p q) : ∃ p q, toPyM S (.kt (([] : List Int).map D.int)) = some p ∧ toPyM S (.tup []) = some q ∧ SeqAt.shaped p = true ∧ SeqAt.shaped q = true ∧ K p q := by
  rw [show toPyM S (.kt (([] : List Int).map D.int)) = toPyM S (.tup []) by unfold toPyM toPy; rfl]
  exact exSame (PuD.intsT []) h
theorem e_law (Pt : Addr) : ∀ ds S Q, lawS Pt ds S Q → m_law Pt treeBT isTreeQ nodeS kidsKS (belowS 17) (endD Q) (startD 11 ds) S := by
  rintro _ S Q ⟨hS0, ns, rfl, q⟩
  have hz := sizeLine_eq
  intro t ht
  have ne_t : ∀ {S' : Mem} {k : Nat}, S' Pt = some .hid → Tn S' t k → Pt ≠ t := fun {S' k} h1 ⟨zs, h2, _⟩ e => by
    rw [e, h2] at h1; cases h1
  walk_at "w"
  refine ⟨by decide, ?_⟩
  show forL none _ _ _ ((List.range 5).map fun i => D.int (0 + (i : Nat))) _ _
  have hS1 : up S t (.lst []) Pt = some .hid := (up_ne (fun e => by rw [e] at hS0; exact nomatch (show none = some MO.hid from (show S t = none from ht) ▸ hS0))).trans hS0
  refine forL_inv (fun rest r S' => ∃ x2 x3 x4 x5 x6 x7 x8 x9 x10, r = [some (.fls (ns.map .int)), some (.obj t), x2, x3, x4, x5, x6, x7, x8, x9, x10] ∧ Tn S' t (400 * (5 - rest.length)) ∧ rest.length ≤ 5 ∧ S' Pt = some .hid) ?_ ?_ (List.range 5) _ _ ⟨_, _, _, _, _, _, _, _, _, rfl, ⟨[], up_same, Nat.zero_le _⟩, by decide, hS1⟩
  · clear hS0 hS1 ht
    rintro i rest r S nx ⟨x2, x3, x4, x5, x6, x7, x8, x9, x10, rfl, hT, hr, hSP⟩ hnx
    rw [List.length_cons] at hT hr
    refine ⟨ns, t, _, 16, rfl, hT, by decide, by omega, fun rows S1 T hN hn9 _ hl hT1 hF1 => ?_⟩
    have hb : rows.length ≤ 10000 := by omega
    have G : Good rows := ⟨T, hN, hn9, by omega⟩
    have hSP1 : S1 Pt = some .hid := (hF1 Pt (ne_t hSP hT)).trans hSP
    walk_at "w"
    show lcL none _ _ _ _ _ _ (rows.map rowD) [] _
    refine lcL_map (f := fun r : TRow => pairD (Sum.inl r.n) (.str r.s)) rows [] (fun r hr K hK => hK) ?_
    rw [List.nil_append]
    have hks0 : ((rows.map fun r : TRow => ((Sum.inl r.n : Key), D.str r.s)).map (·.1)).Nodup := by
      rw [List.map_map]
      have := keys_inl T.nd
      rw [List.map_map] at this
      exact this
    refine ⟨rows.map fun r => (Sum.inl r.n, .str r.s), by rw [List.map_map]; rfl, fun g hg => ?_⟩
    rw [mergeD_new _ [] hks0, List.nil_append]
    have look : ∀ r ∈ rows, ∀ S' : Mem, S' g = some (.dk (rows.map fun r => (Sum.inl r.n, .str r.s))) → getD S' g (.int r.n) = some (some (.str r.s)) := by
      intro r hr S' hS'
      unfold getD
      simp only [hS']
      exact congrArg some (look_mem hks0 (List.mem_map.mpr ⟨r, hr, rfl⟩))
    generalize hD : (rows.map fun r : TRow => ((Sum.inl r.n : Key), D.str r.s)) = kvs at look
    intro ee he
    generalize hS2 : up S1 g (.dk kvs) = S2 at he
    have hge : g ≠ ee := fun z => by rw [← z, ← hS2, up_same] at he; cases he
    have hS2g : S2 g = some (.dk kvs) := by rw [← hS2]; exact up_same
    have hSP2 : S2 Pt = some .hid := by
      rw [← hS2]
      exact (up_ne (fun e => by rw [e, hg] at hSP1; cases hSP1)).trans hSP1
    have hPe : Pt ≠ ee := fun e => by rw [e, he] at hSP2; cases hSP2
    have hT2 : Tn S2 t (400 * (5 - (rest.length + 1)) + 300) := by
      obtain ⟨zs, h1, h2⟩ := hT1
      exact ⟨zs, by rw [← hS2]; exact (up_ne (fun e => by rw [e, hg] at h1; cases h1)).trans h1, h2⟩
    have hte : t ≠ ee := fun e => by obtain ⟨zs, h1, _⟩ := hT2; rw [e, he] at h1; cases h1
    have atg : ∀ xs : List D, up S2 ee (.lst xs) g = some (.dk kvs) := fun xs => (up_ne hge).trans hS2g
    have atP : ∀ xs : List D, up S2 ee (.lst xs) Pt = some .hid := fun xs => (up_ne hPe).trans hSP2
    have atT : ∀ xs : List D, Tn (up S2 ee (.lst xs)) t (400 * (5 - (rest.length + 1)) + 300) := fun xs => by
      obtain ⟨zs, h1, h2⟩ := hT2
      exact ⟨zs, (up_ne hte).trans h1, h2⟩
    walk_at "w"
    refine ⟨rows, rfl, Good.half G, fun _ => G, fun _ => ?_, fun z => absurd T.par z⟩
    walk_at "w"
    show lcL none _ _ _ _ _ _ (rows.map rowD) [] _
    refine lcL_map (f := fun _ : TRow => D.bl true) rows [] (fun r hr K hK => ⟨rows, r, rfl, T, hN, hl, hr, hK⟩) ?_
    refine ⟨rows.map fun _ => true, by rw [List.nil_append, List.map_map]; rfl, ?_⟩
    rw [show (rows.map fun _ => true).all id = true by rw [List.all_map]; exact List.all_eq_true.mpr fun _ _ => rfl]
    walk_at "w"
    show lcL none _ _ _ _ _ _ (rows.map rowD) [] _
    refine lcL_map (f := fun r : TRow => D.int r.n) rows [] (fun r hr K hK => hK) ?_
    rw [List.nil_append, show rows.map (fun r : TRow => D.int r.n) = (ids rows).map D.int by rw [List.map_map]; rfl]
    refine .inr ⟨_, _, rfl, rfl, by simp only [List.length_cons, List.length_nil, List.length_map]; omega, ?_⟩
    show forL none _ _ _ ((0 :: ids rows).map D.int) _ _
    refine forL_inv (fun rr r S' => ∃ (pre : List Int) (x6 x7 x8 x9 x10 : Option D), pre ++ rr = 0 :: ids rows ∧ r = [some (.fls (ns.map .int)), some (.obj t), some (.int (0 + (i : Nat))), some (treeD rows), some (.obj g), some (.obj ee), x6, x7, x8, x9, x10] ∧ S' = up S2 ee (.lst ((pre.flatMap (kidsF rows)).map .int))) ?_ ?_ _ _ _ ⟨[], _, _, _, _, _, rfl, rfl, rfl⟩
    · rintro p rr r S' nx2 ⟨pre, y6, y7, y8, y9, y10, hp, rfl, rfl⟩ hnx2
      refine ⟨rows, p, rfl, hb, ?_⟩
      have kl : (kidsF rows p).length ≤ 16 := Nat.le_trans (kids_len rows p) hl
      walk_at "w"
      refine ⟨atP _, kidsF rows p, nameOf rows, g, rfl, rfl, fun n hn => ?_, ?_⟩
      · obtain ⟨r, hr, e1, e2⟩ := mem_kids.mp hn
        have lk := look r hr _ (atg ((pre.flatMap (kidsF rows)).map .int))
        have en : nameOf rows r.n = r.s := by
          show ((rowOf rows r.n).map (·.s)).get! = r.s
          rw [row_in T hr]; rfl
        rw [← e1, en]
        exact lk
      rw [kids_sorted T p]
      refine exSame (x := intsL (kidsF rows p)) (PuD.lst (ints_pu _)) fun a b hab => ?_
      rw [hab]
      have pl : (pre.flatMap (kidsF rows)).length + (kidsF rows p).length ≤ 16 := by
        have h1 : ((pre ++ [p]).flatMap (kidsF rows)).length ≤ ((pre ++ [p] ++ rr).flatMap (kidsF rows)).length := flat_pre
        rw [List.append_assoc, List.singleton_append, hp, (flat_kids T).length_eq, List.length_map] at h1
        rw [List.flatMap_append, List.length_append] at h1
        simp only [List.flatMap_cons, List.flatMap_nil, List.append_nil] at h1
        omega
      walk_at "w"
      refine ⟨by unfold isLst; simp only [up_same], ?_⟩
      refine ⟨_, _, up_same, rfl, by rw [List.length_map, List.length_map]; omega, ?_⟩
      rw [up_up, show (pre.flatMap (kidsF rows)).map D.int ++ (kidsF rows p).map D.int = ((pre ++ [p]).flatMap (kidsF rows)).map D.int by rw [List.flatMap_append, List.map_append]; simp only [List.flatMap_cons, List.flatMap_nil, List.append_nil]]
      walk_at "w"
      show lcL none _ _ _ _ _ _ ((kidsF rows p).map D.int) [] _
      refine lcL_map (f := fun k : Int => intsL (belowF rows 16 k)) _ [] (fun k hk K hK => ⟨rows, k, rfl, hb, T.hgt hl k, Nat.le_trans (T.below_len 16 k) hb, hK⟩) ?_
      rw [List.nil_append]
      walk_at "w"
      show lcL none _ _ _ _ _ _ ((kidsF rows p).map fun k : Int => intsL (belowF rows 16 k)) [] _
      refine lcL_map (f := fun k : Int => D.int (((belowF rows 16 k).length : Nat) : Int)) _ [] (fun k hk K hK => ?_) ?_
      · walk_at "w"
        rw [List.length_map]
        exact hK
      rw [List.nil_append]
      refine ⟨(kidsF rows p).map fun k => (((belowF rows 16 k).length : Nat) : Int), by rw [List.map_map]; rfl, ?_⟩
      walk_at "w"
      refine ⟨rows, p, rfl, hb, T.hgt hl p, Nat.le_trans (T.below_len 16 p) hb, ?_⟩
      walk_at "w"
      rw [List.length_map, List.length_map]
      have es := below_sum (T.hgt hl p)
      simp only [es, decide_true, Bool.not_true]
      exact hnx2 _ _ ⟨pre ++ [p], _, _, _, _, _, by rw [List.append_assoc]; exact hp, rfl, rfl⟩
    · rintro r S' ⟨pre, y6, y7, y8, y9, y10, hp, rfl, rfl⟩
      rw [List.append_nil] at hp
      subst hp
      walk_at "w"
      have aL : asL (up S2 ee (.lst (((0 :: ids rows).flatMap (kidsF rows)).map D.int))) (.obj ee) = some (((0 :: ids rows).flatMap (kidsF rows)).map D.int) := by unfold asL; simp only [up_same]
      refine ⟨_, aL, fun ns1 hp1 hs1 => ?_⟩
      have e1 := sorted_ids T (flat_kids T) hp1 hs1
      subst e1
      walk_at "w"
      show lcL none _ _ _ _ _ _ (rows.map rowD) [] _
      refine lcL_map (f := fun r : TRow => D.int r.n) rows [] (fun r hr K hK => hK) ?_
      rw [List.nil_append, show rows.map (fun r : TRow => D.int r.n) = (ids rows).map D.int by rw [List.map_map]; rfl]
      refine exSame (x := intsL (ids rows)) (PuD.lst (ints_pu _)) fun a b hab => ?_
      rw [hab]
      walk_at "w"
      refine ⟨rows, 0, rfl, hb, T.hgt hl 0, Nat.le_trans (T.below_len 16 0) hb, ?_⟩
      refine ⟨belowF rows 16 0, rfl, fun ns2 hp2 hs2 => ?_⟩
      have e2 := sorted_ids T (T.below_perm hl) hp2 hs2
      subst e2
      refine ⟨_, aL, fun ns3 hp3 hs3 => ?_⟩
      have e3 := sorted_ids T (flat_kids T) hp3 hs3
      subst e3
      refine exSame (x := intsL (ids rows)) (PuD.lst (ints_pu _)) fun a b hab => ?_
      rw [hab]
      walk_at "w"
      refine ⟨[], 0, rfl, by decide, ?_⟩
      rw [kids_nil]
      walk_at "w"
      refine exNilK fun a b hab => ?_
      rw [hab]
      walk_at "w"
      refine ⟨[], 0, rfl, by decide, tree_nil.T.hgt (by decide) 0, by rw [below_nil]; decide, ?_⟩
      rw [below_nil]
      walk_at "w"
      refine exSame (x := .tup []) (PuD.intsT []) fun a b hab => ?_
      rw [hab]
      walk_at "w"
      refine ⟨[], rfl, Good.half tree_nil, fun _ => tree_nil, fun _ => ?_, fun z => absurd tree_nil.T.par z⟩
      walk_at "w"
      exact hnx _ _ ⟨_, _, _, _, _, _, _, _, _, rfl, (atT _).mono (by omega), by omega, atP _⟩
  · rintro r S ⟨x2, x3, x4, x5, x6, x7, x8, x9, x10, rfl, _, _, _⟩
    exact ⟨S, _, .refl, q _⟩
end LW

set_option maxRecDepth 100000
set_option maxHeartbeats 8000000
namespace LW
open PySem PySem.Spec PyProof.Rows L2 ML
def dd_is_name : He.DefD := ⟨("is_name", none), "is_name", "is_name", defArgs s_is_name, defBody s_is_name, defScope s_is_name, [], []⟩
def dd_is_number : He.DefD := ⟨("is_number", none), "is_number", "is_number", defArgs s_is_number, defBody s_is_number, defScope s_is_number, [], []⟩
def dd_is_node : He.DefD := ⟨("is_node", none), "is_node", "is_node", defArgs s_is_node, defBody s_is_node, defScope s_is_node, [], []⟩
def dd_row_of : He.DefD := ⟨("row_of", none), "row_of", "row_of", defArgs s_row_of, defBody s_row_of, defScope s_row_of, [], []⟩
def dd_elders : He.DefD := ⟨("elders", none), "elders", "elders", defArgs s_elders, defBody s_elders, defScope s_elders, [], []⟩
def dd_is_tree : He.DefD := ⟨("is_tree", none), "is_tree", "is_tree", defArgs s_is_tree, defBody s_is_tree, defScope s_is_tree, [], []⟩
def dd_kids : He.DefD := ⟨("kids", none), "kids", "kids", defArgs s_kids, defBody s_kids, defScope s_kids, [], []⟩
def dd_below : He.DefD := ⟨("below", none), "below", "below", defArgs s_below, defBody s_below, defScope s_below, [], []⟩
def dd_path : He.DefD := ⟨("path", none), "path", "path", defArgs s_path, defBody s_path, defScope s_path, [], []⟩
def dd_part : He.DefD := ⟨("part", none), "part", "part", defArgs s_part, defBody s_part, defScope s_part, [], []⟩
def dd__law_draw : He.DefD := ⟨("_law_draw", none), "_law_draw", "_law_draw", defArgs s__law_draw, defBody s__law_draw, defScope s__law_draw, [], []⟩
def dd__law_pick : He.DefD := ⟨("_law_pick", none), "_law_pick", "_law_pick", defArgs s__law_pick, defBody s__law_pick, defScope s__law_pick, [], []⟩
def dd__law_tree : He.DefD := ⟨("_law_tree", none), "_law_tree", "_law_tree", defArgs s__law_tree, defBody s__law_tree, defScope s__law_tree, [], []⟩
def dd__law_node_holds : He.DefD := ⟨("_law_node_holds", none), "_law_node_holds", "_law_node_holds", defArgs s__law_node_holds, defBody s__law_node_holds, defScope s__law_node_holds, [], []⟩
def dd_law : He.DefD := ⟨("law", none), "law", "law", defArgs s_law, defBody s_law, defScope s_law, [], []⟩
def fn : List He.DefD := [dd_is_name, dd_is_number, dd_is_node, dd_row_of, dd_elders, dd_is_tree, dd_kids, dd_below, dd_path, dd_part, dd__law_draw, dd__law_pick, dd__law_tree, dd__law_node_holds, dd_law]
def fa : List He.Fa := [.glo "is_name", .glo "is_number", .glo "is_node", .glo "row_of", .glo "elders", .glo "is_tree", .glo "kids", .glo "below", .glo "path", .glo "part", .glo "_law_draw", .glo "_law_pick", .glo "_law_tree", .glo "_law_node_holds", .glo "law", .free "all", .free "any", .free "bool", .free "dict", .free "int", .free "isinstance", .free "len", .free "list", .free "range", .free "sorted", .free "str", .free "sum", .free "tuple", .free "zip", .str "LETTERS" "abcdefghijklmnopqrstuvwxyz", .int "NAME_MOST" (6), .int "NUMBER_MOST" (999), .int "ROWS_MOST" (20), .int "TOP" (0)]
def exL : PySem.W.Frag → Bool := fun _ => true
theorem facts {P : Program} {w : World} {K : PySem.W.Frag} {h : Heap} {mg : Str → Option Value} {f : Addr} (X : K.In h) (G : h.Ns mainGlobals mg) (hfa : mg ("law" : Str) = some (.ref f)) (cx : exL K = true) (c : He.SaysD fa fn K) :
    ∃ fd : FuncData, (∃ oc od osl, K.lookup f = some ⟨oc, od, .func fd, osl⟩) ∧ (∀ (s : Shared) (v : Value), BindsTo s fd ⟨[v], []⟩ [("script", v)]) ∧ ∀ (base : Heap) (c Pt : Addr), K.In base → base.Ns mainGlobals mg → fd.code = .ref c → LamX.TabB base mg c Pt → FnT P w K mg base Pt 21 f fd ["script"] (lSp (lawS Pt)) := by
  obtain ⟨fd_is_name, F_is_name⟩ := c.def_ 0 (d := dd_is_name) rfl
  have g_is_name := He.glo_ok X G (c.fact 0 (f := .glo "is_name") rfl)
  obtain ⟨fd_is_number, F_is_number⟩ := c.def_ 1 (d := dd_is_number) rfl
  have g_is_number := He.glo_ok X G (c.fact 1 (f := .glo "is_number") rfl)
  obtain ⟨fd_is_node, F_is_node⟩ := c.def_ 2 (d := dd_is_node) rfl
  have g_is_node := He.glo_ok X G (c.fact 2 (f := .glo "is_node") rfl)
  obtain ⟨fd_row_of, F_row_of⟩ := c.def_ 3 (d := dd_row_of) rfl
  have g_row_of := He.glo_ok X G (c.fact 3 (f := .glo "row_of") rfl)
  obtain ⟨fd_elders, F_elders⟩ := c.def_ 4 (d := dd_elders) rfl
  have g_elders := He.glo_ok X G (c.fact 4 (f := .glo "elders") rfl)
  obtain ⟨fd_is_tree, F_is_tree⟩ := c.def_ 5 (d := dd_is_tree) rfl
  have g_is_tree := He.glo_ok X G (c.fact 5 (f := .glo "is_tree") rfl)
  obtain ⟨fd_kids, F_kids⟩ := c.def_ 6 (d := dd_kids) rfl
  have g_kids := He.glo_ok X G (c.fact 6 (f := .glo "kids") rfl)
  obtain ⟨fd_below, F_below⟩ := c.def_ 7 (d := dd_below) rfl
  have g_below := He.glo_ok X G (c.fact 7 (f := .glo "below") rfl)
  obtain ⟨fd_path, F_path⟩ := c.def_ 8 (d := dd_path) rfl
  have g_path := He.glo_ok X G (c.fact 8 (f := .glo "path") rfl)
  obtain ⟨fd_part, F_part⟩ := c.def_ 9 (d := dd_part) rfl
  have g_part := He.glo_ok X G (c.fact 9 (f := .glo "part") rfl)
  obtain ⟨fd__law_draw, F__law_draw⟩ := c.def_ 10 (d := dd__law_draw) rfl
  have g__law_draw := He.glo_ok X G (c.fact 10 (f := .glo "_law_draw") rfl)
  obtain ⟨fd__law_pick, F__law_pick⟩ := c.def_ 11 (d := dd__law_pick) rfl
  have g__law_pick := He.glo_ok X G (c.fact 11 (f := .glo "_law_pick") rfl)
  obtain ⟨fd__law_tree, F__law_tree⟩ := c.def_ 12 (d := dd__law_tree) rfl
  have g__law_tree := He.glo_ok X G (c.fact 12 (f := .glo "_law_tree") rfl)
  obtain ⟨fd__law_node_holds, F__law_node_holds⟩ := c.def_ 13 (d := dd__law_node_holds) rfl
  have g__law_node_holds := He.glo_ok X G (c.fact 13 (f := .glo "_law_node_holds") rfl)
  obtain ⟨fd_law, F_law⟩ := c.def_ 14 (d := dd_law) rfl
  have g_law := He.glo_ok X G (c.fact 14 (f := .glo "law") rfl)
  have b_all := He.free_ok X G (c.fact 15 (f := .free "all") rfl)
  have b_any := He.free_ok X G (c.fact 16 (f := .free "any") rfl)
  have b_bool := He.free_ok X G (c.fact 17 (f := .free "bool") rfl)
  have b_dict := He.free_ok X G (c.fact 18 (f := .free "dict") rfl)
  have b_int := He.free_ok X G (c.fact 19 (f := .free "int") rfl)
  have b_isinstance := He.free_ok X G (c.fact 20 (f := .free "isinstance") rfl)
  have b_len := He.free_ok X G (c.fact 21 (f := .free "len") rfl)
  have b_list := He.free_ok X G (c.fact 22 (f := .free "list") rfl)
  have b_range := He.free_ok X G (c.fact 23 (f := .free "range") rfl)
  have b_sorted := He.free_ok X G (c.fact 24 (f := .free "sorted") rfl)
  have b_str := He.free_ok X G (c.fact 25 (f := .free "str") rfl)
  have b_sum := He.free_ok X G (c.fact 26 (f := .free "sum") rfl)
  have b_tuple := He.free_ok X G (c.fact 27 (f := .free "tuple") rfl)
  have b_zip := He.free_ok X G (c.fact 28 (f := .free "zip") rfl)
  have k_LETTERS := glstr (He.str_ok X G (c.fact 29 (f := .str "LETTERS" "abcdefghijklmnopqrstuvwxyz") rfl))
  have k_NAME_MOST := glint (He.int_ok X G (c.fact 30 (f := .int "NAME_MOST" (6)) rfl))
  have k_NUMBER_MOST := glint (He.int_ok X G (c.fact 31 (f := .int "NUMBER_MOST" (999)) rfl))
  have k_ROWS_MOST := glint (He.int_ok X G (c.fact 32 (f := .int "ROWS_MOST" (20)) rfl))
  have k_TOP := glint (He.int_ok X G (c.fact 33 (f := .int "TOP" (0)) rfl))
  have c_is_name : ∀ base : Heap, Cal P w K mg base "is_name" 1 isNameS := fun base => def_okD (st := s_is_name) F_is_name g_is_name (F_is_name.bindsN fun _ _ _ _ _ _ us hl => match us, hl with | [_], _ => rfl) sc_is_name _ (l_is_name) (fun cdv A outer s H E hr => d_is_name k_LETTERS k_NAME_MOST b_all b_isinstance b_len b_str hr) (e_is_name)
  have c_is_number : ∀ base : Heap, Cal P w K mg base "is_number" 1 isNumS := fun base => def_okD (st := s_is_number) F_is_number g_is_number (F_is_number.bindsN fun _ _ _ _ _ _ us hl => match us, hl with | [_, _], _ => rfl) sc_is_number _ (l_is_number) (fun cdv A outer s H E hr => d_is_number k_NUMBER_MOST b_bool b_int b_isinstance hr) (e_is_number)
  have c_is_node : ∀ base : Heap, Cal P w K mg base "is_node" 2 isNodeS := fun base => def_okD (st := s_is_node) F_is_node g_is_node (F_is_node.bindsN fun _ _ _ _ _ _ us hl => match us, hl with | [_], _ => rfl) sc_is_node _ (l_is_node) (fun cdv A outer s H E hr => d_is_node (c_is_name base) (by omega) (c_is_number base) (by omega) k_TOP b_isinstance b_len b_tuple hr) (e_is_node)
  have c_row_of : ∀ base : Heap, Cal P w K mg base "row_of" 1 rowOfS := fun base => def_okD (st := s_row_of) F_row_of g_row_of (F_row_of.bindsN fun _ _ _ _ _ _ us hl => match us, hl with | [_, _], _ => rfl) sc_row_of _ (l_row_of) (fun cdv A outer s H E hr => d_row_of hr) (e_row_of)
  have c_elders : ∀ base : Heap, Cal P w K mg base "elders" 2 eldersS := fun base => def_okD (st := s_elders) F_elders g_elders (F_elders.bindsN fun _ _ _ _ _ _ us hl => match us, hl with | [_, _], _ => rfl) sc_elders _ (l_elders) (fun cdv A outer s H E hr => d_elders (c_row_of base) (by omega) k_TOP hr) (e_elders)
  have c_is_tree : ∀ base : Heap, Cal P w K mg base "is_tree" 3 isTreeQ := fun base => def_okD (st := s_is_tree) F_is_tree g_is_tree (F_is_tree.bindsN fun _ _ _ _ _ _ us hl => match us, hl with | [_], _ => rfl) sc_is_tree _ (l_is_tree) (fun cdv A outer s H E hr => d_is_tree (c_is_node base) (by omega) (c_elders base) (by omega) k_ROWS_MOST k_TOP b_all b_any b_isinstance b_len b_tuple b_zip hr) (e_is_tree)
  have c_kids : ∀ base : Heap, Cal P w K mg base "kids" 1 kidsKS := fun base => def_okD (st := s_kids) F_kids g_kids (F_kids.bindsN fun _ _ _ _ _ _ us hl => match us, hl with | [_, _], _ => rfl) sc_kids _ (l_kids) (fun cdv A outer s H E hr => d_kids b_sorted b_tuple hr) (e_kids)
  have bi_below : Binds K fd_below ["rows", "number"] [] := F_below.bindsN fun _ _ _ _ _ _ us hl => match us, hl with | [_, _], _ => rfl
  have cr_below : ∀ (m : Nat) (base : Heap), Cal P w K mg base "below" (1 + m) (belowS m) := by
    intro m base
    induction m with
    | zero => exact cal_none g_below F_below.kp bi_below
    | succ m ih => exact def_okD (k := 1 + m) (st := s_below) F_below g_below bi_below sc_below _ (l_below m) (fun cdv A outer s H E hr => d_below (c_kids base) (by omega) (ih) (by omega) hr) (e_below m)
  have c_below : ∀ base : Heap, Cal P w K mg base "below" 18 (belowS 17) := fun base => cr_below 17 base
  have c_path : ∀ base : Heap, Cal P w K mg base "path" 3 pathS := fun base => def_okD (st := s_path) F_path g_path (F_path.bindsN fun _ _ _ _ _ _ us hl => match us, hl with | [_, _], _ => rfl) sc_path _ (l_path) (fun cdv A outer s H E hr => d_path (c_elders base) (by omega) hr) (e_path)
  have c_part : ∀ base : Heap, Cal P w K mg base "part" 19 (partS 16) := fun base => def_okD (st := s_part) F_part g_part (F_part.bindsN fun _ _ _ _ _ _ us hl => match us, hl with | [_, _, _, _], _ => rfl) sc_part _ (l_part 16) (fun cdv A outer s H E hr => d_part (c_kids base) (by omega) (c_row_of base) (by omega) (c_below base) (by omega) b_len b_tuple hr) (e_part 16)
  have c__law_draw : ∀ base : Heap, Cal P w K mg base "_law_draw" 1 drawT := fun base => def_okD (st := s__law_draw) F__law_draw g__law_draw (F__law_draw.bindsN fun _ _ _ _ _ _ us hl => match us, hl with | [_, _, _], _ => rfl) sc__law_draw _ (l__law_draw) (fun cdv A outer s H E hr => d__law_draw b_len hr) (e__law_draw)
  have c__law_pick : ∀ base : Heap, Cal P w K mg base "_law_pick" 2 pickT := fun base => def_okD (st := s__law_pick) F__law_pick g__law_pick (F__law_pick.bindsN fun _ _ _ _ _ _ us hl => match us, hl with | [_, _, _], _ => rfl) sc__law_pick _ (l__law_pick) (fun cdv A outer s H E hr => d__law_pick (c__law_draw base) (by omega) b_len hr) (e__law_pick)
  have c__law_tree : ∀ base : Heap, Cal P w K mg base "_law_tree" 3 treeBT := fun base => def_okD (st := s__law_tree) F__law_tree g__law_tree (F__law_tree.bindsN fun _ _ _ _ _ _ us hl => match us, hl with | [_, _, _], _ => rfl) sc__law_tree _ (l__law_tree) (fun cdv A outer s H E hr => d__law_tree (c__law_draw base) (by omega) (c__law_pick base) (by omega) b_range b_sorted b_tuple hr) (e__law_tree)
  have c__law_node_holds : ∀ base : Heap, Cal P w K mg base "_law_node_holds" 20 nodeS := fun base => def_okD (st := s__law_node_holds) F__law_node_holds g__law_node_holds (F__law_node_holds.bindsN fun _ _ _ _ _ _ us hl => match us, hl with | [_, _], _ => rfl) sc__law_node_holds _ (l__law_node_holds) (fun cdv A outer s H E hr => d__law_node_holds (c_kids base) (by omega) (c_path base) (by omega) (c_elders base) (by omega) (c_below base) (by omega) (c_part base) (by omega) b_len hr) (e__law_node_holds)
  have e := hfa.symm.trans g_law
  cases e
  have b := FunD.bindsA (ps := ["script"]) F_law fun _ _ _ _ _ _ us hl => match us, hl with | [_], _ => rfl
  exact ⟨fd_law, (let ⟨oc, od, dV, kV, doc, pm, an, cdv, ct, osl, e, lk, _⟩ := F_law.ex; ⟨oc, od, osl, lk⟩), fun s v => b s [v] rfl, fun base cT Pt _ _ hc tb => def_okT (st := s_law) F_law hc sc_law _ (l_law Pt) (fun A outer s H E hP hr => d_law tb (c__law_tree base) (by omega) (c_is_tree base) (by omega) (c__law_node_holds base) (by omega) (c_kids base) (by omega) (c_below base) (by omega) b_all b_dict b_len b_list b_range b_sorted b_sum hP hr) (e_law Pt)⟩
abbrev Rw : PySem.W.OpenRow := PySem.W.OpenLaw.row PySem.Challenge.rw_parttree_k17_whole_nodes_and_elders
abbrev hk : PySem.W.Hook := hookT 4 exL fa fn
def ob (s : PySem.W.SharedT) : Bool × He.AlD := obsT 4 exL fa fn (HandSHeadRun.getT s)
theorem ob_is (s : PySem.W.SharedT) : ob s = hk.obs s.abs := obsT_eq (HandSHeadRun.getT_eq s)
theorem runs (w : World) : HandSHeadRun.RunEq Rw (PySem.W.view Rw.prog [22]) hk ob 6000 ("LETTERS" :: "NAME_MOST" :: "NUMBER_MOST" :: "ROWS_MOST" :: "TOP" :: "is_name" :: "is_number" :: "is_node" :: "row_of" :: "elders" :: "is_tree" :: "kids" :: "below" :: "path" :: "part" :: "_law_draw" :: "_law_pick" :: "_law_tree" :: "_law_some" :: "_law_node_holds" :: []) w := fun os => by kernel_rfl
end LW
open PySem PySem.W PySem.Calls PyProof.Rows
theorem PySem.Challenge.cw_parttree_k17_whole_nodes_and_elders_holds : PySem.Challenge.rw_parttree_k17_whole_nodes_and_elders.Holds := by
  w_on; o_law
  refine HandSHeadRun.head_any (r := OpenLaw.row PySem.Challenge.rw_parttree_k17_whole_nodes_and_elders) (q := view (OpenLaw.row PySem.Challenge.rw_parttree_k17_whole_nodes_and_elders).prog [22]) (H := LW.hk) (ob := LW.ob) (M := 6000) (loose := ("LETTERS" :: "NAME_MOST" :: "NUMBER_MOST" :: "ROWS_MOST" :: "TOP" :: "is_name" :: "is_number" :: "is_node" :: "row_of" :: "elders" :: "is_tree" :: "kids" :: "below" :: "path" :: "part" :: "_law_draw" :: "_law_pick" :: "_law_tree" :: "_law_some" :: "_law_node_holds" :: [])) (d := HandSHeadRun.topDef (OpenLaw.row PySem.Challenge.rw_parttree_k17_whole_nodes_and_elders).prog 22) (kwd := []) LW.ob_is
    (by kernel_rfl) (fun s => by kernel_rfl) LW.runs (by kernel_rfl) (by kernel_rfl)
    (by kernel_rfl) (by rfl) (by first | assumption | decide +kernel) (by decide +kernel) ⟨rfl, rfl, rfl, rfl, rfl, by decide +kernel⟩ ?hw ?hc
  case hw => w_witness2
  case hc => exact ML.walkMLt (l := PySem.Challenge.rw_parttree_k17_whole_nodes_and_elders) (n := 63) (k := 21) (f := LW.lawS) rfl (by decide) (by kernel_rfl) (by kernel_rfl) ⟨rfl, by decide, by decide⟩ (by kernel_rfl) (fun w K mg fA h KX G hm cx c => LW.facts KX G hm cx c) LW.h_law
