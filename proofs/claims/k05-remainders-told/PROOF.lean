import PyProof.Rows.All
import Wide.All
import OpenK.AllK
import Wide.FinOn
import HandS.ForMost
import HandS.ForExc
import HandS.Walk
import HandS.Defaults
import HandS.HeadHook1
import HandS.IsInst
import HandS.Wide
import HandS.CallSlots
import HandS.Small
import HandS.SortInts
import HandS.Zip
import HandS.ListItems
import HandS.Style
import HandS.Head0
import HandS.Head1
import HandS.Head2
import HandS.HeadEnd
import HandS.HeadHook2
import HandS.Ends
import HandS.ExcInit
import HandS.TryOnly
import HandS.TryMany
import HandS.SlotsOwn
import HandS.Conv
import HandS.Star
import HandS.Flow
import KE.KDictZip
import KE.KDictSum
import KE.GoesNew
import KE.GoesEnum
import KE.KEqDict
import HandS.Lambda
import HandS.HeadHook4
import HandS.HeadWalk
import HandS.ClsMeth
import HandS.HeadNt
import PySem.Challenge.RW_seenrows_k05_remainders_told
set_option Elab.async false
set_option linter.all false
set_option maxRecDepth 100000
/-! DL1 -/
section
set_option autoImplicit false
/-! DL1: a heap-free reading of the hand layer. Data D, how a value stands for data (Rep) in a part G of the heap that is never written again, steps, environments, the judgements. -/
namespace DL
open PySem PySem.Spec PyProof.Rows L2

/-! ### data -/
inductive D where
  | non | bl (b : Bool) | int (i : Int) | str (x : Str)
  | lst (ds : List D) | tup (ds : List D)
  | dct (kvs : List (Key × D))
  | obj (c : Str) (fs : List (Str × D))
  | hnd (a : Addr)

/-- the class of the text by its name -/
abbrev ca (K : PySem.W.Frag) (c : Str) : Addr := He.ga K c

/-! ### a value stands for data -/
mutual
inductive Rep (K : PySem.W.Frag) (G : Hp) : D → V → Prop where
  | non : Rep K G .non .non
  | bl (b : Bool) : Rep K G (.bl b) (.bl b)
  | int (i : Int) : Rep K G (.int i) (.int i)
  | str (x : Str) : Rep K G (.str x) (.str x)
  | lst {a : Addr} {ds : List D} {vs : List V} : G a = some (.lst vs) → RepL K G ds vs → Rep K G (.lst ds) (.ref a)
  | tup {a : Addr} {ds : List D} {vs : List V} : SqT K G a vs → RepL K G ds vs → Rep K G (.tup ds) (.ref a)
  | dct {a : Addr} {o : Obj} {kvs : List (Key × D)} {ws : List (Key × V)} : G a = some (.frz o (.dK ws)) → RepK K G kvs ws → Rep K G (.dct kvs) (.ref a)
  | obj {a dx : Addr} {c : Str} {fs : List (Str × D)} {ws : List (Str × V)} : G a = some (.ins (ca K c) dx ws) → RepF K G fs ws → Rep K G (.obj c fs) (.ref a)
  | hnd (a : Addr) : Rep K G (.hnd a) (.ref a)
inductive RepL (K : PySem.W.Frag) (G : Hp) : List D → List V → Prop where
  | nil : RepL K G [] []
  | cons {d : D} {v : V} {ds : List D} {vs : List V} : Rep K G d v → RepL K G ds vs → RepL K G (d :: ds) (v :: vs)
inductive RepK (K : PySem.W.Frag) (G : Hp) : List (Key × D) → List (Key × V) → Prop where
  | nil : RepK K G [] []
  | cons {k : Key} {d : D} {v : V} {ds : List (Key × D)} {vs : List (Key × V)} : Rep K G d v → RepK K G ds vs → RepK K G ((k, d) :: ds) ((k, v) :: vs)
inductive RepF (K : PySem.W.Frag) (G : Hp) : List (Str × D) → List (Str × V) → Prop where
  | nil : RepF K G [] []
  | cons {k : Str} {d : D} {v : V} {ds : List (Str × D)} {vs : List (Str × V)} : Rep K G d v → RepF K G ds vs → RepF K G ((k, d) :: ds) ((k, v) :: vs)
end

/-! ### parts of the heap -/
def Le (G G' : Hp) : Prop := ∀ a o, G a = some o → ∃ o', G' a = some o' ∧ o' = o
theorem Le.refl (G : Hp) : Le G G := fun a o h => ⟨o, h, rfl⟩
theorem Le.trans {G G1 G2 : Hp} (h : Le G G1) (h' : Le G1 G2) : Le G G2 := fun a o e => by
  obtain ⟨o1, e1, c1⟩ := h a o e
  obtain ⟨o2, e2, c2⟩ := h' a o1 e1
  exact ⟨o2, e2, c2.trans c1⟩
theorem Le.get {G G' : Hp} (h : Le G G') {a : Addr} {o : HO} (e : G a = some o) : G' a = some o := by
  obtain ⟨o', e', c⟩ := h a o e
  rw [e', c]
theorem Le.of_same {G G' : Hp} (h : ∀ a o, G a = some o → G' a = some o) : Le G G' := fun a o e => ⟨o, h a o e, rfl⟩
theorem Le.lst {G G' : Hp} (h : Le G G') {a : Addr} {vs : List V} (e : G a = some (.lst vs)) : G' a = some (.lst vs) := by
  obtain ⟨o, e', c⟩ := h a _ e
  rw [e', c]
theorem Le.ins {G G' : Hp} (h : Le G G') {a C dx : Addr} {ws : List (Str × V)} (e : G a = some (.ins C dx ws)) : G' a = some (.ins C dx ws) := by
  obtain ⟨o, e', c⟩ := h a _ e
  rw [e', c]
theorem Le.sqT {G G' : Hp} (h : Le G G') {K : PySem.W.Frag} {a : Addr} {vs : List V} (e : SqT K G a vs) : SqT K G' a vs := by
  rcases e with (e | ⟨x, e⟩) | e
  · obtain ⟨o, e', c⟩ := h a _ e
    exact .inl (.inl (by rw [e', c]))
  · obtain ⟨o, e', c⟩ := h a _ e
    exact .inl (.inr ⟨x, by rw [e', c]⟩)
  · exact .inr e
mutual
theorem Rep.mono {K : PySem.W.Frag} {G G' : Hp} (h : Le G G') : ∀ {d : D} {v : V}, Rep K G d v → Rep K G' d v
  | _, _, .non => .non
  | _, _, .bl b => .bl b
  | _, _, .int i => .int i
  | _, _, .str x => .str x
  | _, _, .lst e r => .lst (h.lst e) (RepL.mono h r)
  | _, _, .tup e r => .tup (h.sqT e) (RepL.mono h r)
  | _, _, .dct e r => .dct (h.get e) (RepK.mono h r)
  | _, _, .obj e r => .obj (h.ins e) (RepF.mono h r)
  | _, _, .hnd a => .hnd a
theorem RepL.mono {K : PySem.W.Frag} {G G' : Hp} (h : Le G G') : ∀ {d : List D} {v : List V}, RepL K G d v → RepL K G' d v
  | _, _, .nil => .nil
  | _, _, .cons r t => .cons (Rep.mono h r) (RepL.mono h t)
theorem RepK.mono {K : PySem.W.Frag} {G G' : Hp} (h : Le G G') : ∀ {d : List (Key × D)} {v : List (Key × V)}, RepK K G d v → RepK K G' d v
  | _, _, .nil => .nil
  | _, _, .cons r t => .cons (Rep.mono h r) (RepK.mono h t)
theorem RepF.mono {K : PySem.W.Frag} {G G' : Hp} (h : Le G G') : ∀ {d : List (Str × D)} {v : List (Str × V)}, RepF K G d v → RepF K G' d v
  | _, _, .nil => .nil
  | _, _, .cons r t => .cons (Rep.mono h r) (RepF.mono h t)
end

/-! ### lists of data -/
section
variable {K : PySem.W.Frag} {G : Hp}
theorem RepL.length : ∀ {ds : List D} {vs : List V}, RepL K G ds vs → ds.length = vs.length
  | _, _, .nil => rfl
  | _, _, .cons _ t => by rw [List.length_cons, List.length_cons, RepL.length t]
theorem RepL.get : ∀ {ds : List D} {vs : List V} {i : Nat} {d : D}, RepL K G ds vs → ds[i]? = some d → ∃ v, vs[i]? = some v ∧ Rep K G d v
  | _, _, _, _, .nil, e => by simp at e
  | _, _, 0, _, .cons r _, e => by
    simp at e
    subst e
    exact ⟨_, rfl, r⟩
  | _, _, i + 1, d, .cons _ t, e => by
    obtain ⟨u, h1, h2⟩ := RepL.get (i := i) (d := d) t (by simpa using e)
    exact ⟨u, by simpa using h1, h2⟩
theorem RepL.getV : ∀ {ds : List D} {vs : List V} {i : Nat} {v : V}, RepL K G ds vs → vs[i]? = some v → ∃ d, ds[i]? = some d ∧ Rep K G d v
  | _, _, _, _, .nil, e => by simp at e
  | _, _, 0, _, .cons r _, e => by
    simp at e
    subst e
    exact ⟨_, rfl, r⟩
  | _, _, i + 1, d, .cons _ t, e => by
    obtain ⟨u, h1, h2⟩ := RepL.getV (i := i) (v := d) t (by simpa using e)
    exact ⟨u, by simpa using h1, h2⟩
theorem RepL.append : ∀ {ds es : List D} {vs us : List V}, RepL K G ds vs → RepL K G es us → RepL K G (ds ++ es) (vs ++ us)
  | _, _, _, _, .nil, s => s
  | _, _, _, _, .cons r t, s => .cons r (RepL.append t s)
theorem RepL.set {d : D} {v : V} (r : Rep K G d v) : ∀ {ds : List D} {vs : List V} (i : Nat), RepL K G ds vs → RepL K G (ds.set i d) (vs.set i v)
  | _, _, _, .nil => .nil
  | _, _, 0, .cons _ t => .cons r t
  | _, _, i + 1, .cons q t => .cons q (RepL.set r i t)
theorem RepL.drop : ∀ {ds : List D} {vs : List V} (n : Nat), RepL K G ds vs → RepL K G (ds.drop n) (vs.drop n)
  | _, _, 0, r => r
  | _, _, _ + 1, .nil => .nil
  | _, _, n + 1, .cons _ t => RepL.drop n t
theorem RepL.take : ∀ {ds : List D} {vs : List V} (n : Nat), RepL K G ds vs → RepL K G (ds.take n) (vs.take n)
  | _, _, 0, _ => .nil
  | _, _, _ + 1, .nil => .nil
  | _, _, n + 1, .cons r t => .cons r (RepL.take n t)
theorem RepL.eraseIdx : ∀ {ds : List D} {vs : List V} (i : Nat), RepL K G ds vs → RepL K G (ds.eraseIdx i) (vs.eraseIdx i)
  | _, _, _, .nil => .nil
  | _, _, 0, .cons _ t => t
  | _, _, i + 1, .cons q t => .cons q (RepL.eraseIdx i t)
theorem RepL.snoc {ds : List D} {vs : List V} {d : D} {v : V} (t : RepL K G ds vs) (r : Rep K G d v) : RepL K G (ds ++ [d]) (vs ++ [v]) := t.append (.cons r .nil)
theorem RepL.rep {ds : List D} {vs : List V} (h : RepL K G ds vs) : ∀ k : Nat, RepL K G (List.replicate k ds).flatten (List.replicate k vs).flatten
  | 0 => .nil
  | k + 1 => by
    rw [List.replicate_succ, List.replicate_succ, List.flatten_cons, List.flatten_cons]
    exact h.append (RepL.rep h k)
theorem RepF.lookup {f : Str} {d : D} : ∀ {fs : List (Str × D)} {ws : List (Str × V)}, RepF K G fs ws → fs.lookup f = some d → ∃ v, ws.lookup f = some v ∧ Rep K G d v
  | _, _, .nil, e => by simp at e
  | _, _, .cons (k := k) (ds := ds) (vs := vs) r t, e => by
    rw [List.lookup_cons] at e ⊢
    cases q : (f == k) with
    | true =>
      rw [q] at e
      simp at e
      subst e
      exact ⟨_, rfl, r⟩
    | false =>
      rw [q] at e
      exact RepF.lookup t e
theorem RepF.lookupN {f : Str} : ∀ {fs : List (Str × D)} {ws : List (Str × V)}, RepF K G fs ws → fs.lookup f = none → ws.lookup f = none
  | _, _, .nil, e => rfl
  | _, _, .cons (k := k) (ds := ds) (vs := vs) r t, e => by
    rw [List.lookup_cons] at e ⊢
    cases q : (f == k) with
    | true =>
      rw [q] at e
      simp at e
    | false =>
      rw [q] at e
      exact RepF.lookupN t e
theorem RepF.length : ∀ {fs : List (Str × D)} {ws : List (Str × V)}, RepF K G fs ws → fs.length = ws.length
  | _, _, .nil => rfl
  | _, _, .cons _ t => by rw [List.length_cons, List.length_cons, RepF.length t]
theorem RepK.length : ∀ {fs : List (Key × D)} {ws : List (Key × V)}, RepK K G fs ws → fs.length = ws.length
  | _, _, .nil => rfl
  | _, _, .cons _ t => by rw [List.length_cons, List.length_cons, RepK.length t]
end

/-! ### dicts of data, fields of data -/
def getD (kvs : List (Key × D)) (k : Key) : Option D := (kvs.find? fun kv => decide (kv.1 = k)).map (·.2)
def putD (kvs : List (Key × D)) (k : Key) (d : D) : List (Key × D) :=
  if kvs.any fun kv => decide (kv.1 = k) then kvs.map fun kv => if kv.1 = k then (kv.1, d) else kv else kvs ++ [(k, d)]
def setF (f : Str) (d : D) : List (Str × D) → List (Str × D)
  | [] => [(f, d)]
  | (g, x) :: r => if g = f then (g, d) :: r else (g, x) :: setF f d r
end DL

end

/-! DL2 -/
section
set_option autoImplicit false
/-! DL2: steps, environments, judgements, the first rules of expressions. -/
namespace DL
open PySem PySem.Spec L2
section
variable {K : PySem.W.Frag} {G : Hp}
theorem getD_cons (k j : Key) (d : D) (r : List (Key × D)) : getD ((k, d) :: r) j = if k = j then some d else getD r j := by
  unfold getD
  rw [List.find?_cons]
  by_cases e : k = j
  · simp [e]
  · simp [e]
theorem valV_cons (k j : Key) (v : V) (r : List (Key × V)) : valV ((k, v) :: r) j = if k = j then some v else valV r j := by
  by_cases e : k = j
  · rw [if_pos e]; exact valV_pos (p := (k, v)) e
  · rw [if_neg e]; exact valV_neg (p := (k, v)) e
theorem RepK.val {k : Key} : ∀ {kvs : List (Key × D)} {ws : List (Key × V)}, RepK K G kvs ws → (∃ d v, getD kvs k = some d ∧ valV ws k = some v ∧ Rep K G d v) ∨ (getD kvs k = none ∧ valV ws k = none)
  | _, _, .nil => .inr ⟨rfl, rfl⟩
  | _, _, .cons (k := j) (d := d) (v := v) r t => by
    rw [getD_cons, valV_cons]
    by_cases e : j = k
    · rw [if_pos e, if_pos e]
      exact .inl ⟨d, v, rfl, rfl, r⟩
    · rw [if_neg e, if_neg e]
      exact RepK.val t
theorem RepK.any {k : Key} : ∀ {kvs : List (Key × D)} {ws : List (Key × V)}, RepK K G kvs ws → (kvs.any fun kv => decide (kv.1 = k)) = ws.any fun kv => decide (kv.1 = k)
  | _, _, .nil => rfl
  | _, _, .cons r t => by rw [List.any_cons, List.any_cons, RepK.any t]
theorem RepK.repl {k : Key} {d : D} {v : V} (r : Rep K G d v) : ∀ {kvs : List (Key × D)} {ws : List (Key × V)}, RepK K G kvs ws → RepK K G (kvs.map fun kv => if kv.1 = k then (kv.1, d) else kv) (ws.map fun kv => if kv.1 = k then (kv.1, v) else kv)
  | _, _, .nil => .nil
  | _, _, .cons (k := j) q t => by
    rw [List.map_cons, List.map_cons]
    by_cases e : j = k
    · rw [if_pos e, if_pos e]
      exact .cons r (RepK.repl r t)
    · rw [if_neg e, if_neg e]
      exact .cons q (RepK.repl r t)
theorem RepK.snoc {k : Key} {d : D} {v : V} (r : Rep K G d v) : ∀ {kvs : List (Key × D)} {ws : List (Key × V)}, RepK K G kvs ws → RepK K G (kvs ++ [(k, d)]) (ws ++ [(k, v)])
  | _, _, .nil => .cons r .nil
  | _, _, .cons q t => .cons q (RepK.snoc r t)
theorem RepK.put {k : Key} {d : D} {v : V} (r : Rep K G d v) {kvs : List (Key × D)} {ws : List (Key × V)} (h : RepK K G kvs ws) : RepK K G (putD kvs k d) (putK ws k v) := by
  unfold putD putK
  rw [h.any (k := k)]
  cases (ws.any fun kv => decide (kv.1 = k)) with
  | true => exact h.repl r
  | false => exact h.snoc r
theorem RepF.put {f : Str} {d : D} {v : V} (r : Rep K G d v) : ∀ {fs : List (Str × D)} {ws : List (Str × V)}, RepF K G fs ws → RepF K G (setF f d fs) (putF f v ws)
  | _, _, .nil => .cons r .nil
  | _, _, .cons (k := g) q t => by
    unfold setF putF
    by_cases e : g = f
    · rw [if_pos e, if_pos e]
      exact .cons r t
    · rw [if_neg e, if_neg e]
      exact .cons q (RepF.put r t)
end

/-! ### what may change: a region of the heap with a word about it and a count -/
structure Wd where
  rg : Addr → Prop
  J : Nat → Hp → Prop
  stable : ∀ n H H', (∀ a, rg a → H' a = H a) → (∀ a e, H a = some (.ext e) → H' a = some (.ext e)) → J n H → J n H'
  there : ∀ n H a, J n H → rg a → H a ≠ none
def Wd.none : Wd := ⟨fun _ => False, fun _ _ => True, fun _ _ _ _ _ _ => trivial, fun _ _ _ _ h => h.elim⟩

/-- from one state to another: what stood stands but for the region; G grows by new objects -/
structure Step (W : Wd) (H G H' G' : Hp) : Prop where
  fr : ∀ a o, H a = some o → ¬ W.rg a → H' a = some o
  le : Le G G'
  hh : Le G' H'
  new : ∀ a, G' a ≠ none → G a ≠ none ∨ (H a = none ∧ ¬ W.rg a)
theorem Step.refl (W : Wd) {H G : Hp} (h : Le G H) : Step W H G H G := ⟨fun _ _ e _ => e, Le.refl G, h, fun _ e => .inl e⟩
theorem Step.trans {W : Wd} {H G H1 G1 H2 G2 : Hp} (s : Step W H G H1 G1) (t : Step W H1 G1 H2 G2) : Step W H G H2 G2 := by
  refine ⟨fun a o e r => t.fr a o (s.fr a o e r) r, s.le.trans t.le, t.hh, fun a e => ?_⟩
  rcases t.new a e with e | ⟨e, r⟩
  · exact s.new a e
  · refine .inr ⟨?_, r⟩
    cases q : H a with
    | none => rfl
    | some o => rw [s.fr a o q r] at e; cases e
/-- the region isn't touched -/
structure StepP (H G H' G' : Hp) : Prop where
  fr : ∀ a o, H a = some o → H' a = some o
  le : Le G G'
  hh : Le G' H'
  new : ∀ a, G' a ≠ none → G a ≠ none ∨ H a = none
theorem StepP.refl {H G : Hp} (h : Le G H) : StepP H G H G := ⟨fun _ _ e => e, Le.refl G, h, fun _ e => .inl e⟩
theorem StepP.step {W : Wd} {n : Nat} {H G H' G' : Hp} (s : StepP H G H' G') (j : W.J n H) : Step W H G H' G' :=
  ⟨fun a o e _ => s.fr a o e, s.le, s.hh, fun a e => (s.new a e).imp (fun z => z) fun z => ⟨z, fun r => W.there n H a j r z⟩⟩
theorem StepP.J {W : Wd} {n : Nat} {H G H' G' : Hp} (s : StepP H G H' G') (j : W.J n H) : W.J n H' := by
  refine W.stable n H H' (fun a r => ?_) (fun a e q => s.fr a _ q) j
  cases q : H a with
  | none => exact (W.there n H a j r q).elim
  | some o => exact s.fr a o q
/-- a new object, at once part of G -/
theorem StepP.made {H G : Hp} {p : Addr} {o : HO} (h : Le G H) (np : H p = none) : StepP H G (upd H p o) (upd G p o) := by
  have gp : G p = none := by
    cases q : G p with
    | none => rfl
    | some u =>
      obtain ⟨o', e, _⟩ := h p u q
      rw [np] at e; cases e
  refine ⟨fun a u e => by rw [upd_ne (ne_of_none e np)]; exact e, .of_same fun a u e => by rw [upd_ne (ne_of_none e gp)]; exact e, fun a u e => ?_, fun a e => ?_⟩
  · by_cases z : a = p
    · subst z
      rw [upd_same] at e
      cases e
      exact ⟨_, upd_same, rfl⟩
    · rw [upd_ne z] at e
      obtain ⟨o', e', c⟩ := h a u e
      exact ⟨o', by rw [upd_ne z]; exact e', c⟩
  · by_cases z : a = p
    · subst z
      exact .inr np
    · rw [upd_ne z] at e
      exact .inl e
/-- a new object that is not part of G -/
theorem StepP.laid {H G : Hp} {p : Addr} {o : HO} (h : Le G H) (np : H p = none) : StepP H G (upd H p o) G := by
  refine ⟨fun a u e => by rw [upd_ne (ne_of_none e np)]; exact e, Le.refl G, fun a u e => ?_, fun a e => .inl e⟩
  obtain ⟨o', e', c⟩ := h a u e
  exact ⟨o', by rw [upd_ne (ne_of_none e' np)]; exact e', c⟩
theorem StepP.trans {H G H1 G1 H2 G2 : Hp} (s : StepP H G H1 G1) (t : StepP H1 G1 H2 G2) : StepP H G H2 G2 := by
  refine ⟨fun a o e => t.fr a o (s.fr a o e), s.le.trans t.le, t.hh, fun a e => ?_⟩
  rcases t.new a e with e | e
  · exact s.new a e
  · refine .inr ?_
    cases q : H a with
    | none => rfl
    | some o => rw [s.fr a o q] at e; cases e

/-! ### slots -/
inductive Sl where
  | val (d : D)
  | own (d : D)
abbrev Env := List (Option Sl)
/-- an object that one slot alone names, as it stands now -/
def OwnAt (K : PySem.W.Frag) (G H : Hp) (a : Addr) : D → Prop
  | .lst ds => ∃ vs, H a = some (.lst vs) ∧ RepL K G ds vs
  | .dct kvs => ∃ ws, H a = some (.dK ws) ∧ RepK K G kvs ws
  | .obj c fs => ∃ dx ws, H a = some (.ins (ca K c) dx ws) ∧ RepF K G fs ws
  | _ => False
theorem OwnAt.noExt {K : PySem.W.Frag} {G H : Hp} {a : Addr} {d : D} {e : Heap → Prop} (h : OwnAt K G H a d) (q : H a = some (.ext e)) : False := by
  cases d with
  | lst ds => obtain ⟨vs, z, _⟩ := h; rw [q] at z; cases z
  | dct ds => obtain ⟨vs, z, _⟩ := h; rw [q] at z; cases z
  | obj c fs => obtain ⟨_, vs, z, _⟩ := h; rw [q] at z; cases z
  | _ => exact h.elim
theorem OwnAt.there {K : PySem.W.Frag} {G H : Hp} {a : Addr} {d : D} (h : OwnAt K G H a d) : ∃ o, H a = some o := by
  cases d with
  | lst ds => obtain ⟨vs, e, _⟩ := h; exact ⟨_, e⟩
  | dct ds => obtain ⟨vs, e, _⟩ := h; exact ⟨_, e⟩
  | obj c fs => obtain ⟨dx, ws, e, _⟩ := h; exact ⟨_, e⟩
  | _ => exact h.elim
theorem OwnAt.mono {K : PySem.W.Frag} {G H G' H' : Hp} {a : Addr} {d : D} (h : OwnAt K G H a d) (le : Le G G') (fr : ∀ o, H a = some o → H' a = some o) : OwnAt K G' H' a d := by
  cases d with
  | lst ds => obtain ⟨vs, e, r⟩ := h; exact ⟨vs, fr _ e, r.mono le⟩
  | dct ds => obtain ⟨vs, e, r⟩ := h; exact ⟨vs, fr _ e, r.mono le⟩
  | obj c fs => obtain ⟨dx, ws, e, r⟩ := h; exact ⟨dx, ws, fr _ e, r.mono le⟩
  | _ => exact h.elim
/-- where a body began -/
structure Bs where
  W : Wd
  K : PySem.W.Frag
  H0 : Hp
  G0 : Hp
  self : Option Addr
structure RelB (B : Bs) (σ : St) (H : Hp) (ρ : Env) (n : Nat) (G : Hp) (α : Nat → Addr) : Prop where
  st : Step B.W B.H0 B.G0 H G
  rg : ∀ a, B.W.rg a → G a = none
  J : B.W.J n H
  len : σ.length = ρ.length
  val : ∀ (i : Nat) (d : D), ρ[i]? = some (some (.val d)) → ∃ v, σ[i]? = some (some v) ∧ Rep B.K G d v
  own : ∀ (i : Nat) (d : D), ρ[i]? = some (some (.own d)) → σ[i]? = some (some (.ref (α i))) ∧ G (α i) = none ∧ B.H0 (α i) = none ∧ ¬ B.W.rg (α i) ∧ OwnAt B.K G H (α i) d
  inj : ∀ (i j : Nat) (d e : D), ρ[i]? = some (some (.own d)) → ρ[j]? = some (some (.own e)) → α i = α j → i = j
  p0 : ∀ (a : Addr) (d : D), B.self = some a → ρ[0]? = some (some (.own d)) → α 0 = a
theorem RelB.step {B : Bs} {σ : St} {H : Hp} {ρ : Env} {n : Nat} {G : Hp} {α : Nat → Addr} (R : RelB B σ H ρ n G α) {H' G' : Hp} {n' : Nat} (s : Step B.W H G H' G') (j : B.W.J n' H') : RelB B σ H' ρ n' G' α := by
  refine ⟨R.st.trans s, fun a r => ?_, j, R.len, fun i d e => ?_, fun i d e => ?_, R.inj, R.p0⟩
  · cases q : G' a with
    | none => rfl
    | some o =>
      rcases s.new a (by rw [q]; exact fun z => nomatch z) with z | ⟨_, z⟩
      · exact (z (R.rg a r)).elim
      · exact (z r).elim
  · obtain ⟨v, h1, h2⟩ := R.val i d e
    exact ⟨v, h1, h2.mono s.le⟩
  · obtain ⟨h1, h2, h3, h4, h5⟩ := R.own i d e
    refine ⟨h1, ?_, h3, h4, h5.mono s.le fun o q => s.fr _ o q h4⟩
    cases q : G' (α i) with
    | none => rfl
    | some o =>
      rcases s.new (α i) (by rw [q]; exact fun z => nomatch z) with z | ⟨z, _⟩
      · exact (z h2).elim
      · obtain ⟨o', z'⟩ := h5.there
        rw [z] at z'; cases z'
theorem RelB.le {B : Bs} {σ : St} {H : Hp} {ρ : Env} {n : Nat} {G : Hp} {α : Nat → Addr} (R : RelB B σ H ρ n G α) : Le G H := R.st.hh

/-! ### judgements -/
/-- an exception: its class's name, its fields -/
abbrev Xn := Str × List (Str × D)
/-- what is wanted of an exception; the world that is walked in -/
structure DX where
  ex : Xn → Nat → Prop
  w : Wd
abbrev DQ := D → Nat → Prop
abbrev DE := DX → Env → Nat → DQ → Prop
abbrev DT := DX → Env → Nat → (Bool → Nat → Prop) → Prop
abbrev DA := DX → Env → Nat → (List D → Nat → Prop) → Prop
def XRep (K : PySem.W.Frag) (G H : Hp) (e : Xn) (c : Value) (dd : Option Addr) : Prop :=
  c = .ref (ca K e.1) ∧ match dd with
    | some a => ∃ ws, H a = some (.xd ws) ∧ RepF K G e.2 ws
    | none => e.2 = []
def XL (B : Bs) (W : WX) (σ : St) (H G : Hp) (x : DX) : Prop :=
  x.w = B.W ∧ ∀ (c : Value) (dd : Option Addr) (H' G' : Hp) (e : Xn) (n' : Nat), Step B.W H G H' G' → B.W.J n' H' → XRep B.K G' H' e c dd → x.ex e n' → W c dd σ H'
theorem XL.step {B : Bs} {W : WX} {σ : St} {H G H1 G1 : Hp} {x : DX} (h : XL B W σ H G x) (s : Step B.W H G H1 G1) : XL B W σ H1 G1 x :=
  ⟨h.1, fun c dd H' G' e n' t j r q => h.2 c dd H' G' e n' (s.trans t) j r q⟩
/-- a value that is read: data in G, or an object that a slot owns -/
def RepB (K : PySem.W.Frag) (W : Wd) (G H : Hp) (d : D) (v : V) : Prop :=
  Rep K G d v ∨ ∃ a, v = .ref a ∧ G a = none ∧ ¬ W.rg a ∧ OwnAt K G H a d
theorem RepB.step {K : PySem.W.Frag} {W : Wd} {G H G' H' : Hp} {d : D} {v : V} (r : RepB K W G H d v) (s : Step W H G H' G') : RepB K W G' H' d v := by
  rcases r with r | ⟨a, e, g, h4, h5⟩
  · exact .inl (r.mono s.le)
  · refine .inr ⟨a, e, ?_, h4, h5.mono s.le fun o q => s.fr _ o q h4⟩
    cases q : G' a with
    | none => rfl
    | some o =>
      rcases s.new a (by rw [q]; exact fun z => nomatch z) with z | ⟨z, _⟩
      · exact (z g).elim
      · obtain ⟨o', z'⟩ := h5.there
        rw [z] at z'; cases z'
inductive RepBL (K : PySem.W.Frag) (W : Wd) (G H : Hp) : List D → List V → Prop where
  | nil : RepBL K W G H [] []
  | cons {d : D} {v : V} {ds : List D} {vs : List V} : RepB K W G H d v → RepBL K W G H ds vs → RepBL K W G H (d :: ds) (v :: vs)
theorem RepBL.step {K : PySem.W.Frag} {W : Wd} {G H G' H' : Hp} (s : Step W H G H' G') : ∀ {ds : List D} {vs : List V}, RepBL K W G H ds vs → RepBL K W G' H' ds vs
  | _, _, .nil => .nil
  | _, _, .cons r t => .cons (r.step s) (RepBL.step s t)

def ED (K : PySem.W.Frag) (W : WX) (t : TE) (δ : DE) : Prop :=
  ∀ (B : Bs) (σ : St) (H : Hp) (ρ : Env) (n : Nat) (G : Hp) (α : Nat → Addr) (Q : VK) (x : DX) (q : DQ), B.K = K → RelB B σ H ρ n G α → XL B W σ H G x → δ x ρ n q →
    (∀ v H' G' d n', Step B.W H G H' G' → B.W.J n' H' → Rep K G' d v → q d n' → Q v H') → t σ H Q
def EB (K : PySem.W.Frag) (W : WX) (t : TE) (δ : DE) : Prop :=
  ∀ (B : Bs) (σ : St) (H : Hp) (ρ : Env) (n : Nat) (G : Hp) (α : Nat → Addr) (Q : VK) (x : DX) (q : DQ), B.K = K → RelB B σ H ρ n G α → XL B W σ H G x → δ x ρ n q →
    (∀ v H' G' d n', Step B.W H G H' G' → B.W.J n' H' → RepB K B.W G' H' d v → q d n' → Q v H') → t σ H Q
/-- a new object that nothing names yet -/
def EF (K : PySem.W.Frag) (W : WX) (t : TE) (δ : DE) : Prop :=
  ∀ (B : Bs) (σ : St) (H : Hp) (ρ : Env) (n : Nat) (G : Hp) (α : Nat → Addr) (Q : VK) (x : DX) (q : DQ), B.K = K → RelB B σ H ρ n G α → XL B W σ H G x → δ x ρ n q →
    (∀ a H' G' d n', Step B.W H G H' G' → B.W.J n' H' → H a = none → G' a = none → ¬ B.W.rg a → OwnAt K G' H' a d → q d n' → Q (.ref a) H') → t σ H Q
def ET (K : PySem.W.Frag) (W : WX) (t : TT) (δ : DT) : Prop :=
  ∀ (B : Bs) (σ : St) (H : Hp) (ρ : Env) (n : Nat) (G : Hp) (α : Nat → Addr) (Q : Bool → Hp → Prop) (x : DX) (q : Bool → Nat → Prop), B.K = K → RelB B σ H ρ n G α → XL B W σ H G x → δ x ρ n q →
    (∀ b H' G' n', Step B.W H G H' G' → B.W.J n' H' → q b n' → Q b H') → t σ H Q
def EA (K : PySem.W.Frag) (W : WX) (t : TA) (δ : DA) : Prop :=
  ∀ (B : Bs) (σ : St) (H : Hp) (ρ : Env) (n : Nat) (G : Hp) (α : Nat → Addr) (Q : List V → Hp → Prop) (x : DX) (q : List D → Nat → Prop), B.K = K → RelB B σ H ρ n G α → XL B W σ H G x → δ x ρ n q →
    (∀ vs H' G' ds n', Step B.W H G H' G' → B.W.J n' H' → RepL K G' ds vs → q ds n' → Q vs H') → t σ H Q
def EAB (K : PySem.W.Frag) (W : WX) (t : TA) (δ : DA) : Prop :=
  ∀ (B : Bs) (σ : St) (H : Hp) (ρ : Env) (n : Nat) (G : Hp) (α : Nat → Addr) (Q : List V → Hp → Prop) (x : DX) (q : List D → Nat → Prop), B.K = K → RelB B σ H ρ n G α → XL B W σ H G x → δ x ρ n q →
    (∀ vs H' G' ds n', Step B.W H G H' G' → B.W.J n' H' → RepBL K B.W G' H' ds vs → q ds n' → Q vs H') → t σ H Q
def PD (X : Cx) (W : WX) (e : Expr) (δ : DE) : Prop := ∃ t, PE X e t ∧ ED X.K W t δ
def PB (X : Cx) (W : WX) (e : Expr) (δ : DE) : Prop := ∃ t, PE X e t ∧ EB X.K W t δ
def PF (X : Cx) (W : WX) (e : Expr) (δ : DE) : Prop := ∃ t, PE X e t ∧ EF X.K W t δ
def PTD (X : Cx) (W : WX) (e : Expr) (δ : DT) : Prop := ∃ t, PT X e t ∧ ET X.K W t δ
def PWD (X : Cx) (W : WX) (e : Expr) (δ : DT) : Prop := ∃ t, PW X e t ∧ ET X.K W t δ
def PAD (X : Cx) (W : WX) (es : List Expr) (δ : DA) : Prop := ∃ t, PA X es t ∧ EA X.K W t δ
def PAB (X : Cx) (W : WX) (es : List Expr) (δ : DA) : Prop := ∃ t, PA X es t ∧ EAB X.K W t δ
section
variable {X : Cx} {W : WX} {e : Expr} {δ : DE}
theorem PD.pb (h : PD X W e δ) : PB X W e δ := by
  obtain ⟨t, p, h⟩ := h
  exact ⟨t, p, fun B σ H ρ n G α Q x q hK R hx hd k => h B σ H ρ n G α Q x q hK R hx hd fun v H' G' d n' s j r => k v H' G' d n' s j (.inl r)⟩
theorem PWD.pt {δ : DT} (h : PWD X W e δ) : PTD X W e δ := by
  obtain ⟨t, p, h⟩ := h
  exact ⟨t, p.pt, h⟩
/-- a thing of the heap may be locked for good -/
def LkP (Q : Hp → Prop) (H : Hp) : Prop := Q H ∨ ∃ d u, H d = some u ∧ Mut (some u) ∧ ∀ od, Q (upd H d (.frz od u))
def tLk (t : TE) : TE := fun σ H Q => t σ H fun v H' => LkP (Q v) H'
theorem LkP.inv {X : Cx} {pins : List (Addr × Obj)} {σ : St} {H : Hp} {s : Shared} {Q : Hp → Prop} (I : Inv X pins σ H s) (h : LkP Q H) : ∃ H', Inv X pins σ H' s ∧ Q H' := by
  rcases h with h | ⟨d, u, e, mu, h⟩
  · exact ⟨H, I, h⟩
  · obtain ⟨od, I1⟩ := I.lock e mu
    exact ⟨_, I1, h od⟩
theorem pe_lk {X : Cx} {e : Expr} {t : TE} (h : PE X e t) : PE X e (tLk t) := by
  refine ⟨fun pins s σ H Q I hw => thn (h.run pins s σ H _ I hw) fun v s1 ⟨x, H1, I1, r, q⟩ => ?_⟩
  obtain ⟨H2, I2, q⟩ := LkP.inv I1 q
  exact ⟨x, H2, I2, r, q⟩
theorem callR_lk {X : Cx} {f : Value} {r : List V → Hp → VK → Prop} (h : CallR X f r) : CallR X f (fun xs H Q => r xs H fun v H' => LkP (Q v) H') := by
  refine fun pins s σ H xs us Q I hv hw => thn (h pins s σ H xs us _ I hv hw) fun v s1 ⟨x, H1, I1, r, q⟩ => ?_
  obtain ⟨H2, I2, q⟩ := LkP.inv I1 q
  exact ⟨x, H2, I2, r, q⟩
theorem pss_lk {X : Cx} {st : List Stmt} {t : TS} (h : PSs X st t) : PSs X st (fun D σ H => LkP (t D σ) H) := by
  refine ⟨fun pins s σ H D I hw => ?_⟩
  obtain ⟨H2, I2, q⟩ := LkP.inv I hw
  exact h.run pins s σ H2 D I2 q
/-- what was new is data from now on; a dict is locked -/
theorem freeze {K : PySem.W.Frag} {G H : Hp} {a : Addr} {d : D} {Q : Hp → Prop} (le : Le G H) (hg : G a = none) (h : OwnAt K G H a d) (k : ∀ H1 o, H1 a = some o → (∀ b, b ≠ a → H1 b = H b) → Le (upd G a o) H1 → Le G (upd G a o) → Rep K (upd G a o) d (.ref a) → Q H1) : LkP Q H := by
  have l2 : ∀ o, Le G (upd G a o) := fun o => .of_same fun b u q => by rw [upd_ne (ne_of_none q hg)]; exact q
  have l1 : ∀ o, H a = some o → Le (upd G a o) H := fun o e b u q => by
    by_cases z : b = a
    · subst z
      rw [upd_same] at q
      cases q
      exact ⟨_, e, rfl⟩
    · rw [upd_ne z] at q
      exact le b u q
  cases d with
  | lst ds =>
    obtain ⟨vs, e, r⟩ := h
    exact .inl (k H _ e (fun _ _ => rfl) (l1 _ e) (l2 _) (.lst upd_same (r.mono (l2 _))))
  | dct ds =>
    obtain ⟨vs, e, r⟩ := h
    refine .inr ⟨a, _, e, trivial, fun od => k _ _ upd_same (fun b hb => upd_ne hb) (fun b u q => ?_) (l2 _) (.dct upd_same (r.mono (l2 _)))⟩
    by_cases z : b = a
    · subst z
      rw [upd_same] at q ⊢
      cases q
      exact ⟨_, rfl, rfl⟩
    · rw [upd_ne z] at q ⊢
      exact le b u q
  | obj c fs =>
    obtain ⟨dx, ws, e, r⟩ := h
    exact .inl (k H _ e (fun _ _ => rfl) (l1 _ e) (l2 _) (.obj upd_same (r.mono (l2 _))))
  | _ => exact h.elim
/-- the same, for what is no dict -/
theorem freezeL {K : PySem.W.Frag} {G H : Hp} {a : Addr} {d : D} (le : Le G H) (hg : G a = none) (h : OwnAt K G H a d) (nd : ∀ kvs, d ≠ .dct kvs) : ∃ o, H a = some o ∧ Le (upd G a o) H ∧ Le G (upd G a o) ∧ Rep K (upd G a o) d (.ref a) := by
  have go : ∀ o, H a = some o → Le (upd G a o) H ∧ Le G (upd G a o) := fun o e => by
    refine ⟨fun b u q => ?_, .of_same fun b u q => by rw [upd_ne (ne_of_none q hg)]; exact q⟩
    by_cases z : b = a
    · subst z
      rw [upd_same] at q
      cases q
      exact ⟨_, e, rfl⟩
    · rw [upd_ne z] at q
      exact le b u q
  cases d with
  | lst ds =>
    obtain ⟨vs, e, r⟩ := h
    obtain ⟨l1, l2⟩ := go _ e
    exact ⟨_, e, l1, l2, .lst upd_same (r.mono l2)⟩
  | dct ds => exact (nd _ rfl).elim
  | obj c fs =>
    obtain ⟨dx, ws, e, r⟩ := h
    obtain ⟨l1, l2⟩ := go _ e
    exact ⟨_, e, l1, l2, .obj upd_same (r.mono l2)⟩
  | _ => exact h.elim
theorem Step.frozen {W : Wd} {H G H' G' H1 : Hp} {a : Addr} {o : HO} (s : Step W H G H' G') (np : H a = none) (nr : ¬ W.rg a) (off : ∀ b, b ≠ a → H1 b = H' b) (l1 : Le (upd G' a o) H1) (l2 : Le G' (upd G' a o)) : Step W H G H1 (upd G' a o) := by
  refine ⟨fun b u e r => by rw [off b (ne_of_none e np)]; exact s.fr b u e r, s.le.trans l2, l1, fun b z => ?_⟩
  by_cases q : b = a
  · subst q
    exact .inr ⟨np, nr⟩
  · rw [upd_ne q] at z
    exact s.new b z
theorem PF.pd (h : PF X W e δ) : PD X W e δ := by
  obtain ⟨t, p, h⟩ := h
  refine ⟨_, pe_lk p, fun B σ H ρ n G α Q x q hK R hx hd k => h B σ H ρ n G α _ x q hK R hx hd fun a H' G' d n' s j np ng nr o hq => ?_⟩
  refine freeze s.hh ng o fun H1 ob e off l1 l2 r => ?_
  exact k _ H1 (upd G' a ob) d n' (s.frozen np nr off l1 l2) (B.W.stable _ _ _ (fun b hb => off b fun z => nr (z ▸ hb)) (fun b e q => (off b fun z => o.noExt (z ▸ q)).trans q) j) r hq
theorem PF.pb (h : PF X W e δ) : PB X W e δ := h.pd.pb
end

/-! ### names, constants -/
def dVar (i : Nat) : DE := fun _ ρ n q => match ρ[i]? with
  | some (some (.val d)) => q d n
  | _ => False
/-- read only: an owned object too -/
def bVar (i : Nat) : DE := fun _ ρ n q => match ρ[i]? with
  | some (some (.val d)) => q d n
  | some (some (.own d)) => q d n
  | _ => False
def dC (d : D) : DE := fun _ _ n q => q d n
section
variable {X : Cx} {W : WX} {pos : Pos}
theorem pd_var (i : Nat) {x : Str} (hN : X.N[i]? = some x := by rfl) (hv : Vis X.env.scope x := by first | exact Or.inl rfl | exact Or.inr (Or.inl rfl) | exact Or.inr (Or.inr rfl)) (hd : (x == ("__debug__" : Str)) = false := by decide)
    (hcd : (x == ("__classdict__" : Str)) = false := by decide) : PD X W (.Name x pos) (dVar i) := by
  refine ⟨tVar i, pe_var hN hv hd hcd, fun B σ H ρ n G α Q x q hK R hx h k => ?_⟩
  unfold dVar at h
  split at h
  · rename_i d e
    obtain ⟨v, e1, r⟩ := R.val i d e
    exact ⟨v, e1, k v H G d n (.refl _ R.le) R.J (hK ▸ r) h⟩
  · exact h.elim
theorem pb_var (i : Nat) {x : Str} (hN : X.N[i]? = some x := by rfl) (hv : Vis X.env.scope x := by first | exact Or.inl rfl | exact Or.inr (Or.inl rfl) | exact Or.inr (Or.inr rfl)) (hd : (x == ("__debug__" : Str)) = false := by decide)
    (hcd : (x == ("__classdict__" : Str)) = false := by decide) : PB X W (.Name x pos) (bVar i) := by
  refine ⟨tVar i, pe_var hN hv hd hcd, fun B σ H ρ n G α Q x q hK R hx h k => ?_⟩
  unfold bVar at h
  split at h
  · rename_i d e
    obtain ⟨v, e1, r⟩ := R.val i d e
    exact ⟨v, e1, k v H G d n (.refl _ R.le) R.J (.inl (hK ▸ r)) h⟩
  · rename_i d e
    obtain ⟨e1, g, _, nr, o⟩ := R.own i d e
    exact ⟨_, e1, k _ H G d n (.refl _ R.le) R.J (.inr ⟨_, rfl, g, nr, hK ▸ o⟩) h⟩
  · exact h.elim
theorem pd_c {e : Expr} {v : V} {d : D} (h : PE X e (tC v)) (r : ∀ G, Rep X.K G d v) : PD X W e (dC d) :=
  ⟨tC v, h, fun B σ H ρ n G α Q x q hK R hx h k => k v H G d n (.refl _ R.le) R.J (r G) h⟩
theorem pd_int {i j} : PD X W (.Constant (.int i) j pos) (dC (.int i)) := pd_c pe_int fun _ => .int i
theorem pd_bl {b j} : PD X W (.Constant (.bool b) j pos) (dC (.bl b)) := pd_c pe_bl fun _ => .bl b
theorem pd_non {j} : PD X W (.Constant .none j pos) (dC .non) := pd_c pe_non fun _ => .non
theorem pd_str {x j} : PD X W (.Constant (.str x) j pos) (dC (.str x)) := pd_c pe_str fun _ => .str x
end

/-! ### operators by values -/
/-- what an operator makes of data: k must hold of each result -/
abbrev F2 := D → D → (D → Prop) → Prop
def DOp (K : PySem.W.Frag) (r : R2) (f : F2) : Prop := ∀ (W : Wd) (H G : Hp) (x y : V) (dx dy : D) (Q : VK) (k : D → Prop), Le G H → RepB K W G H dx x → RepB K W G H dy y → f dx dy k →
  (∀ v H' G' d, StepP H G H' G' → Rep K G' d v → k d → Q v H') → r x y H Q
def dOp (f : F2) (a b : DE) : DE := fun x ρ n q => a x ρ n fun u n1 => b x ρ n1 fun v n2 => f u v fun z => q z n2
section
variable {X : Cx} {W : WX} {a b : Expr} {δa δb : DE} {pos : Pos}
theorem ed_op {K : PySem.W.Frag} {r : R2} {f : F2} {ta tb : TE} (hr : DOp K r f) (ha : EB K W ta δa) (hb : EB K W tb δb) : ED K W (tOp r ta tb) (dOp f δa δb) := by
  intro B σ H ρ n G α Q x q hK R hx h k
  refine ha B σ H ρ n G α _ x _ hK R hx h fun v1 H1 G1 d1 n1 s1 j1 r1 h1 => ?_
  refine hb B σ H1 ρ n1 G1 α _ x _ hK (R.step s1 j1) (hx.step s1) h1 fun v2 H2 G2 d2 n2 s2 j2 r2 h2 => ?_
  exact hr B.W H2 G2 v1 v2 d1 d2 Q _ s2.hh (r1.step s2) r2 h2 fun v H' G' d s r hq => k v H' G' d n2 (s1.trans (s2.trans (s.step j2))) (s.J j2) r hq
theorem pd_op {op : Operator} {r : R2} {f : F2} (ho : OpR X (binaryOp op) r) (hr : DOp X.K r f) (ha : PB X W a δa) (hb : PB X W b δb) : PD X W (.BinOp a op b pos) (dOp f δa δb) := by
  obtain ⟨ta, pa, ea⟩ := ha
  obtain ⟨tb, pb, eb⟩ := hb
  exact ⟨_, pe_op ho pa pb, ed_op hr ea eb⟩
theorem pd_cmp {op : CmpOp} {r : R2} {f : F2} (ho : OpR X (compareOp op) r) (hr : DOp X.K r f) (ha : PB X W a δa) (hb : PB X W b δb) (hm : behindInMarks op b = false) : PD X W (.Compare a [op] [b] pos) (dOp f δa δb) := by
  obtain ⟨ta, pa, ea⟩ := ha
  obtain ⟨tb, pb, eb⟩ := hb
  exact ⟨_, pe_cmpR ho pa pb hm, ed_op hr ea eb⟩
/-- what a test's value says -/
def bq (q : Bool → Nat → Prop) : DQ := fun d n => match d with
  | .bl b => q b n
  | _ => False
def dTest (δ : DE) : DT := fun x ρ n q => δ x ρ n (bq q)
theorem et_of {K : PySem.W.Frag} {t : TE} {δ : DE} (h : EB K W t δ) : ET K W (fun σ H Q => t σ H fun x H' => ∃ k, x = .bl k ∧ Q k H') (dTest δ) := by
  intro B σ H ρ n G α Q x q hK R hx hd k
  refine h B σ H ρ n G α _ x _ hK R hx hd fun v H' G' d n' s j r hq => ?_
  cases d with
  | bl b =>
    rcases r with r | ⟨a, e, _, _, o⟩
    · cases r
      exact ⟨b, rfl, k b H' G' n' s j hq⟩
    · exact o.elim
  | _ => exact hq.elim
theorem ED.eb {K : PySem.W.Frag} {t : TE} {δ : DE} (h : ED K W t δ) : EB K W t δ := fun B σ H ρ n G α Q x q hK R hx hd k => h B σ H ρ n G α Q x q hK R hx hd fun v H' G' d n' s j r => k v H' G' d n' s j (.inl r)
theorem pt_cmpD {op : CmpOp} {r : R2} {f : F2} (ho : OpR X (compareOp op) r) (hr : DOp X.K r f) (ha : PB X W a δa) (hb : PB X W b δb) (hm : behindInMarks op b = false) : PTD X W (.Compare a [op] [b] pos) (dTest (dOp f δa δb)) := by
  obtain ⟨ta, pa, ea⟩ := ha
  obtain ⟨tb, pb, eb⟩ := hb
  exact ⟨_, pt_cmpR ho pa pb hm, et_of (ed_op hr ea eb).eb⟩
/-- an expression that gives True or False, as a test -/
theorem pt_valD {e : Expr} {δ : DE} (h : PB X W e δ) (he : ∀ whole, isTrue e X.env whole = (do let v ← whole; standAt e.pos; holding [v] (truthy v)) := by intro _; rfl) : PTD X W e (dTest δ) := by
  obtain ⟨t, p, h⟩ := h
  exact ⟨_, pt_val p he, et_of h⟩
end

/-! ### values of kinds -/
section
variable {K : PySem.W.Frag} {W : Wd} {G H : Hp} {v : V}
theorem RepB.int {i : Int} (r : RepB K W G H (.int i) v) : v = .int i := by
  rcases r with r | ⟨a, e, _, _, o⟩
  · cases r; rfl
  · exact o.elim
theorem RepB.bl {b : Bool} (r : RepB K W G H (.bl b) v) : v = .bl b := by
  rcases r with r | ⟨a, e, _, _, o⟩
  · cases r; rfl
  · exact o.elim
theorem RepB.str {x : Str} (r : RepB K W G H (.str x) v) : v = .str x := by
  rcases r with r | ⟨a, e, _, _, o⟩
  · cases r; rfl
  · exact o.elim
theorem RepB.non (r : RepB K W G H .non v) : v = .non := by
  rcases r with r | ⟨a, e, _, _, o⟩
  · cases r; rfl
  · exact o.elim
theorem RepB.lst {ds : List D} (le : Le G H) (r : RepB K W G H (.lst ds) v) : ∃ a vs, v = .ref a ∧ H a = some (.lst vs) ∧ RepL K G ds vs := by
  rcases r with r | ⟨a, e, _, _, o⟩
  · cases r with
    | lst e r => exact ⟨_, _, rfl, le.lst e, r⟩
  · obtain ⟨vs, e1, r⟩ := o
    exact ⟨a, vs, e, e1, r⟩
theorem RepB.tup {ds : List D} (le : Le G H) (r : RepB K W G H (.tup ds) v) : ∃ a vs, v = .ref a ∧ SqT K H a vs ∧ RepL K G ds vs := by
  rcases r with r | ⟨a, e, _, _, o⟩
  · cases r with
    | tup e r => exact ⟨_, _, rfl, le.sqT e, r⟩
  · exact o.elim
theorem RepB.dct {kvs : List (Key × D)} (le : Le G H) (r : RepB K W G H (.dct kvs) v) : ∃ a ws, v = .ref a ∧ Rd H a (.dK ws) ∧ RepK K G kvs ws := by
  rcases r with r | ⟨a, e, _, _, o⟩
  · cases r with
    | dct e r => exact ⟨_, _, rfl, .inr ⟨_, le.get e⟩, r⟩
  · obtain ⟨vs, e1, r⟩ := o
    exact ⟨a, vs, e, .inl e1, r⟩
theorem RepB.obj {c : Str} {fs : List (Str × D)} (le : Le G H) (r : RepB K W G H (.obj c fs) v) : ∃ a dx ws, v = .ref a ∧ H a = some (.ins (ca K c) dx ws) ∧ RepF K G fs ws := by
  rcases r with r | ⟨a, e, _, _, o⟩
  · cases r with
    | obj e r => exact ⟨_, _, _, rfl, le.ins e, r⟩
  · obtain ⟨dx, ws, e1, r⟩ := o
    exact ⟨a, dx, ws, e, e1, r⟩
end
end DL

end

/-! DL3 -/
section
set_option autoImplicit false
/-! DL3: operators on data, tests, and/or/not, arguments, displays, subscripts, built-ins, fields. -/
namespace DL
open PySem PySem.Spec L2

/-! ### ints -/
def fI (C : Int → Int → Prop) (g : Int → Int → D) : F2 := fun x y k => match x, y with
  | .int i, .int j => C i j ∧ k (g i j)
  | _, _ => False
def fI0 (g : Int → Int → D) : F2 := fun x y k => match x, y with
  | .int i, .int j => k (g i j)
  | _, _ => False
section
variable {K : PySem.W.Frag}
theorem dop_I {C : Int → Int → Prop} {gv : Int → Int → V} {g : Int → Int → D} (h : ∀ i j G, Rep K G (g i j) (gv i j)) : DOp K (rI C gv) (fI C g) := by
  intro W H G x y dx dy Q k le rx ry hf hk
  cases dx with
  | int i =>
    cases dy with
    | int j => exact ⟨i, j, rx.int, ry.int, hf.1, hk _ H G _ (.refl le) (h i j G) hf.2⟩
    | _ => exact hf.elim
  | _ => exact hf.elim
theorem dop_I0 {gv : Int → Int → V} {g : Int → Int → D} (h : ∀ i j G, Rep K G (g i j) (gv i j)) : DOp K (rI0 gv) (fI0 g) := by
  intro W H G x y dx dy Q k le rx ry hf hk
  cases dx with
  | int i =>
    cases dy with
    | int j => exact ⟨i, j, rx.int, ry.int, hk _ H G _ (.refl le) (h i j G) hf⟩
    | _ => exact hf.elim
  | _ => exact hf.elim
def fOr (f g : F2) : F2 := fun x y k => f x y k ∨ g x y k
theorem dop_or {r r' : R2} {f f' : F2} (h : DOp K r f) (h' : DOp K r' f') : DOp K (fun x y H Q => r x y H Q ∨ r' x y H Q) (fOr f f') := by
  intro W H G x y dx dy Q k le rx ry hf hk
  rcases hf with hf | hf
  · exact .inl (h W H G x y dx dy Q k le rx ry hf hk)
  · exact .inr (h' W H G x y dx dy Q k le rx ry hf hk)
/-- weaken what is asked on data -/
theorem DOp.imp {r : R2} {f f' : F2} (h : DOp K r f) (hf : ∀ x y k, f' x y k → f x y k) : DOp K r f' :=
  fun W H G x y dx dy Q k le rx ry q hk => h W H G x y dx dy Q k le rx ry (hf _ _ _ q) hk
end
/-- a + b: ints, lists, texts -/
def fAdd : F2 := fun x y k => match x, y with
  | .int i, .int j => k (.int (i + j))
  | .lst a, .lst b => a.length + b.length ≤ 16777216 ∧ k (.lst (a ++ b))
  | .str a, .str b => a.length + b.length ≤ 16777216 ∧ k (.str (a ++ b))
  | _, _ => False
def fSub : F2 := fI0 fun i j => .int (i - j)
def MulOk (i j : Int) : Prop := CMul i j ∨ CMulW i j
def fMul : F2 := fun x y k => match x, y with
  | .int i, .int j => MulOk i j ∧ k (.int (i * j))
  | .lst a, .int j => (-(2 ^ 63) ≤ j ∧ j < 2 ^ 63 ∧ a.length * j.toNat ≤ 16777216) ∧ k (.lst (List.replicate j.toNat a).flatten)
  | _, _ => False
def fDiv : F2 := fI (fun _ j => 0 < j ∧ j < 1073741824) fun i j => .int (i / j)
def fMod : F2 := fI (fun _ j => 0 < j) fun i j => .int (i % j)
def fPow : F2 := fI (fun i j => 0 ≤ j ∧ j ≤ 1000000 ∧ i.natAbs < 2 ^ 64) fun i j => .int (i ^ j.toNat)
def fLt : F2 := fI0 fun i j => .bl (decide (i < j))
def fLe : F2 := fI0 fun i j => .bl (decide (i ≤ j))
def fGt : F2 := fI0 fun i j => .bl (decide (j < i))
def fGe : F2 := fI0 fun i j => .bl (decide (j ≤ i))
section
variable {K : PySem.W.Frag} {X : Cx}
theorem dop_cat : DOp K rCat (fun x y k => match x, y with | .lst a, .lst b => a.length + b.length ≤ 16777216 ∧ k (.lst (a ++ b)) | _, _ => False) := by
  intro W H G x y dx dy Q k le rx ry hf hk
  cases dx with
  | lst a =>
    cases dy with
    | lst b =>
      obtain ⟨p, vs, e1, h1, r1⟩ := rx.lst le
      obtain ⟨p', us, e2, h2, r2⟩ := ry.lst le
      obtain ⟨hz, hf⟩ := hf
      have l1 := r1.length
      have l2 := r2.length
      refine ⟨p, p', vs, us, e1, e2, h1, h2, by rw [sizeLine_eq]; omega, fun z np => ?_⟩
      have s := StepP.made (o := .lst (vs ++ us)) le np
      exact hk _ _ _ _ s (.lst upd_same ((r1.append r2).mono s.le)) hf
    | _ => exact hf.elim
  | _ => exact hf.elim
theorem dop_addS : DOp K (fun x y H Q => ∃ i j, x = .str i ∧ y = .str j ∧ i.length + j.length ≤ sizeLine ∧ Q (.str (i ++ j)) H) (fun x y k => match x, y with | .str a, .str b => a.length + b.length ≤ 16777216 ∧ k (.str (a ++ b)) | _, _ => False) := by
  intro W H G x y dx dy Q k le rx ry hf hk
  cases dx with
  | str a =>
    cases dy with
    | str b => exact ⟨a, b, rx.str, ry.str, by rw [sizeLine_eq]; exact hf.1, hk _ H G _ (.refl le) (.str _) hf.2⟩
    | _ => exact hf.elim
  | _ => exact hf.elim
theorem op_addD : OpR X (binaryOp .Add) (fun x y H Q => rI0 (fun i j => .int (i + j)) x y H Q ∨ (rCat x y H Q ∨ (∃ i j, x = .str i ∧ y = .str j ∧ i.length + j.length ≤ sizeLine ∧ Q (.str (i ++ j)) H))) := op_add.or (op_cat.or op_add_str)
theorem dop_add : DOp K (fun x y H Q => rI0 (fun i j => .int (i + j)) x y H Q ∨ (rCat x y H Q ∨ (∃ i j, x = .str i ∧ y = .str j ∧ i.length + j.length ≤ sizeLine ∧ Q (.str (i ++ j)) H))) fAdd :=
  (dop_or (dop_I0 (g := fun i j => .int (i + j)) fun i j G => .int _) (dop_or dop_cat dop_addS)).imp fun x y k h => by
    unfold fAdd at h
    split at h
    · exact .inl h
    · exact .inr (.inl h)
    · exact .inr (.inr h)
    · exact h.elim
theorem dop_sub : DOp K (rI0 fun i j => .int (i - j)) fSub := dop_I0 fun i j G => .int _
theorem dop_rep : DOp K rRep (fun x y k => match x, y with | .lst a, .int j => (-(2 ^ 63) ≤ j ∧ j < 2 ^ 63 ∧ a.length * j.toNat ≤ 16777216) ∧ k (.lst (List.replicate j.toNat a).flatten) | _, _ => False) := by
  intro W H G x y dx dy Q k le rx ry hf hk
  cases dx with
  | lst a =>
    cases dy with
    | int j =>
      obtain ⟨p, vs, e1, h1, r1⟩ := rx.lst le
      obtain ⟨⟨h2, h3, h4⟩, hf⟩ := hf
      have l1 := r1.length
      refine ⟨p, j, vs, e1, ry.int, h1, h2, h3, by rw [sizeLine_eq, ← l1]; exact h4, fun z np => ?_⟩
      have s := StepP.made (o := .lst (List.replicate j.toNat vs).flatten) le np
      exact hk _ _ _ _ s (.lst upd_same ((r1.rep j.toNat).mono s.le)) hf
    | _ => exact hf.elim
  | _ => exact hf.elim
theorem op_mulD : OpR X (binaryOp .Mult) (fun x y H Q => rI CMul (fun i j => .int (i * j)) x y H Q ∨ (rI CMulW (fun i j => .int (i * j)) x y H Q ∨ rRep x y H Q)) := op_mul.or (op_mulW.or op_rep)
theorem dop_mul : DOp K (fun x y H Q => rI CMul (fun i j => .int (i * j)) x y H Q ∨ (rI CMulW (fun i j => .int (i * j)) x y H Q ∨ rRep x y H Q)) fMul :=
  (dop_or (dop_I (g := fun i j => .int (i * j)) fun i j G => .int _) (dop_or (dop_I (g := fun i j => .int (i * j)) fun i j G => .int _) dop_rep)).imp fun x y k h => by
    unfold fMul at h
    split at h
    · rcases h with ⟨h | h, q⟩
      · exact .inl ⟨h, q⟩
      · exact .inr (.inl ⟨h, q⟩)
    · exact .inr (.inr h)
    · exact h.elim
theorem dop_div : DOp K (rI CDiv fun i j => .int (i / j)) fDiv := dop_I fun i j G => .int _
theorem dop_mod : DOp K (rI (fun _ j => 0 < j) fun i j => .int (i % j)) fMod := dop_I fun i j G => .int _
theorem dop_pow : DOp K (rI CPow fun i j => .int (i ^ j.toNat)) fPow := dop_I fun i j G => .int _
theorem dop_lt : DOp K (rI0 fun i j => .bl (decide (i < j))) fLt := dop_I0 fun i j G => .bl _
theorem dop_le : DOp K (rI0 fun i j => .bl (decide (i ≤ j))) fLe := dop_I0 fun i j G => .bl _
theorem dop_gt : DOp K (rI0 fun i j => .bl (decide (j < i))) fGt := dop_I0 fun i j G => .bl _
theorem dop_ge : DOp K (rI0 fun i j => .bl (decide (j ≤ i))) fGe := dop_I0 fun i j G => .bl _
end
section
variable {X : Cx} {W : WX} {a b : Expr} {δa δb : DE} {pos : Pos}
theorem pd_add (ha : PB X W a δa) (hb : PB X W b δb) : PD X W (.BinOp a .Add b pos) (dOp fAdd δa δb) := pd_op op_addD dop_add ha hb
theorem pd_sub (ha : PB X W a δa) (hb : PB X W b δb) : PD X W (.BinOp a .Sub b pos) (dOp fSub δa δb) := pd_op op_sub dop_sub ha hb
theorem pd_mul (ha : PB X W a δa) (hb : PB X W b δb) : PD X W (.BinOp a .Mult b pos) (dOp fMul δa δb) := pd_op op_mulD dop_mul ha hb
theorem pd_div (ha : PB X W a δa) (hb : PB X W b δb) : PD X W (.BinOp a .FloorDiv b pos) (dOp fDiv δa δb) := pd_op op_fdiv dop_div ha hb
theorem pd_mod (ha : PB X W a δa) (hb : PB X W b δb) : PD X W (.BinOp a .Mod b pos) (dOp fMod δa δb) := pd_op op_mod dop_mod ha hb
theorem pd_pow (ha : PB X W a δa) (hb : PB X W b δb) : PD X W (.BinOp a .Pow b pos) (dOp fPow δa δb) := pd_op op_pow dop_pow ha hb
end

/-! ### == of plain data -/
mutual
def pyD : D → PyData
  | .non => .none
  | .bl b => .bool b
  | .int i => .int i
  | .str x => .str x
  | .lst ds => .list (pyL ds)
  | .tup ds => .tuple (pyL ds)
  | .dct _ => .dict []
  | .obj _ _ => .dict []
  | .hnd _ => .dict []
def pyL : List D → List PyData
  | [] => []
  | d :: ds => pyD d :: pyL ds
end
mutual
theorem Rep.dp {K : PySem.W.Frag} {G : Hp} : ∀ {d : D} {v : V}, Rep K G d v → (pyD d).canLay0 = true → Dp K G v (pyD d)
  | _, _, .non, _ => .non
  | _, _, .bl b, _ => .bl b
  | _, _, .int i, _ => .int i
  | _, _, .str x, _ => .str x
  | _, _, .lst e r, h => .lst (SqL.of e) (RepL.dp r (by simpa [pyD, PyData.canLay0] using h))
  | _, _, .tup e r, h => .tup e (RepL.dp r (by simpa [pyD, PyData.canLay0] using h))
  | _, _, .dct _ _, h => by simp [pyD, PyData.canLay0] at h
  | _, _, .obj _ _, h => by simp [pyD, PyData.canLay0] at h
  | _, _, .hnd _, h => by simp [pyD, PyData.canLay0] at h
theorem RepL.dp {K : PySem.W.Frag} {G : Hp} : ∀ {d : List D} {v : List V}, RepL K G d v → PyData.canLayAll0 (pyL d) = true → DpAll K G v (pyL d)
  | _, _, .nil, _ => .nil
  | _, _, .cons (d := d) (ds := ds) r t, h => by
    have h' := Bool.and_eq_true_iff.mp (show (PyData.canLay0 (pyD d) && PyData.canLayAll0 (pyL ds)) = true from h)
    exact .cons (Rep.dp r h'.1) (RepL.dp t h'.2)
end
theorem Le.sqL {G H : Hp} (h : Le G H) {K : PySem.W.Frag} {a : Addr} {vs : List V} (e : SqL K G a vs) : SqL K H a vs := by
  rcases e with (e | ⟨x, e⟩) | e
  · exact .inl (.inl (h.lst e))
  · obtain ⟨o, e', c⟩ := h a _ e
    exact .inl (.inr ⟨x, by rw [e', c]⟩)
  · exact .inr e
mutual
theorem dp_mono {K : PySem.W.Frag} {G H : Hp} (le : Le G H) : ∀ {v : V} {d : PyData}, Dp K G v d → Dp K H v d
  | _, _, .non => .non
  | _, _, .bl b => .bl b
  | _, _, .int i => .int i
  | _, _, .str x => .str x
  | _, _, .lst e r => .lst (le.sqL e) (dpAll_mono le r)
  | _, _, .tup e r => .tup (le.sqT e) (dpAll_mono le r)
theorem dpAll_mono {K : PySem.W.Frag} {G H : Hp} (le : Le G H) : ∀ {v : List V} {d : List PyData}, DpAll K G v d → DpAll K H v d
  | _, _, .nil => .nil
  | _, _, .cons r t => .cons (dp_mono le r) (dpAll_mono le t)
end
theorem RepB.dp {K : PySem.W.Frag} {W : Wd} {G H : Hp} {d : D} {v : V} (le : Le G H) (r : RepB K W G H d v) (h : SeqAt.shaped (pyD d) = true) : Dp K H v (pyD d) := by
  have h0 := SeqAt.canLay_of_shaped h
  rcases r with r | ⟨a, e, _, _, o⟩
  · exact dp_mono le (r.dp h0)
  · cases d with
    | lst ds =>
      obtain ⟨vs, e1, r⟩ := o
      subst e
      refine .lst (SqL.of e1) (dpAll_mono le (r.dp (by simpa [pyD, PyData.canLay0] using h0)))
    | dct _ => simp [pyD, PyData.canLay0] at h0
    | obj _ _ => simp [pyD, PyData.canLay0] at h0
    | _ => exact o.elim
def fEq : F2 := fun x y k => SeqAt.shaped (pyD x) = true ∧ SeqAt.shaped (pyD y) = true ∧ k (.bl (PyData.eqv (pyD x) (pyD y)))
def fNe : F2 := fun x y k => SeqAt.shaped (pyD x) = true ∧ SeqAt.shaped (pyD y) = true ∧ k (.bl (!PyData.eqv (pyD x) (pyD y)))
section
variable {K : PySem.W.Frag}
theorem dop_eq : DOp K (rEqD K) fEq := by
  intro W H G x y dx dy Q k le rx ry hf hk
  obtain ⟨h1, h2, hf⟩ := hf
  exact ⟨_, _, rx.dp le h1, ry.dp le h2, h1, h2, hk _ H G _ (.refl le) (.bl _) hf⟩
theorem dop_ne : DOp K (rNeD K) fNe := by
  intro W H G x y dx dy Q k le rx ry hf hk
  obtain ⟨h1, h2, hf⟩ := hf
  exact ⟨_, _, rx.dp le h1, ry.dp le h2, h1, h2, hk _ H G _ (.refl le) (.bl _) hf⟩
/-- is None -/
def isNonD : D → Bool
  | .non => true
  | _ => false
def fIs : F2 := fun x y k => match y with
  | .non => k (.bl (isNonD x))
  | _ => False
def fIsNot : F2 := fun x y k => match y with
  | .non => k (.bl (!isNonD x))
  | _ => False
theorem RepB.isNon {W : Wd} {G H : Hp} {d : D} {v : V} (r : RepB K W G H d v) : decide (v = .non) = isNonD d := by
  rcases r with r | ⟨a, e, _, _, o⟩
  · cases r <;> rfl
  · subst e
    cases d <;> first | rfl | exact o.elim
theorem dop_is : DOp K (fun x y H Q => y = .non ∧ Q (.bl (decide (x = .non))) H) fIs := by
  intro W H G x y dx dy Q k le rx ry hf hk
  cases dy with
  | non => exact ⟨ry.non, hk _ H G _ (.refl le) (by rw [rx.isNon]; exact .bl _) hf⟩
  | _ => exact hf.elim
theorem dop_isNot : DOp K (fun x y H Q => y = .non ∧ Q (.bl (!decide (x = .non))) H) fIsNot := by
  intro W H G x y dx dy Q k le rx ry hf hk
  cases dy with
  | non =>
    refine ⟨ry.non, hk _ H G _ (.refl le) ?_ hf⟩
    rw [rx.isNon]
    exact .bl _
  | _ => exact hf.elim
/-- a flat thing in a list or tuple of flat things -/
def flatD : D → Bool
  | .non => true
  | .bl _ => true
  | .int _ => true
  | .str _ => true
  | _ => false
def eqD : D → D → Bool
  | .non, .non => true
  | .bl a, .bl b => a == b
  | .bl a, .int b => (if a then 1 else 0) == b
  | .int a, .bl b => a == (if b then 1 else 0)
  | .int a, .int b => a == b
  | .str a, .str b => a == b
  | _, _ => false
theorem Rep.flat {G : Hp} {d : D} {v : V} (r : Rep K G d v) (h : flatD d = true) : flatV v = true := by
  cases r <;> first | rfl | (simp [flatD] at h)
theorem Rep.eqV {G : Hp} {d e : D} {v u : V} (r : Rep K G d v) (r' : Rep K G e u) (h : flatD d = true) (h' : flatD e = true) : eqV v u = eqD d e := by
  cases r <;> first | (simp [flatD] at h; done) | (cases r' <;> first | rfl | (simp [flatD] at h'))
theorem RepL.flat {G : Hp} : ∀ {ds : List D} {vs : List V}, RepL K G ds vs → ds.all flatD = true → vs.all flatV = true
  | _, _, .nil, _ => rfl
  | _, _, .cons r t, h => by
    rw [List.all_cons, Bool.and_eq_true_iff] at h
    rw [List.all_cons, r.flat h.1, RepL.flat t h.2]
    rfl
theorem RepL.inV {G : Hp} {d : D} {v : V} (r : Rep K G d v) (h : flatD d = true) : ∀ {ds : List D} {vs : List V}, RepL K G ds vs → ds.all flatD = true → inV v vs = ds.any fun y => eqD y d
  | _, _, .nil, _ => rfl
  | _, _, .cons q t, z => by
    rw [List.all_cons, Bool.and_eq_true_iff] at z
    rw [List.any_cons, ← RepL.inV r h t z.2]
    show (eqV _ v || _) = _
    rw [q.eqV r z.1 h]
    rfl
def seqD : D → Option (List D)
  | .lst ds => some ds
  | .tup ds => some ds
  | _ => none
def fIn (neg : Bool) : F2 := fun x y k => flatD x = true ∧ match seqD y with
  | some ds => ds.all flatD = true ∧ k (.bl (if neg then !ds.any (fun y => eqD y x) else ds.any fun y => eqD y x))
  | none => False
theorem RepB.seq {W : Wd} {G H : Hp} {d : D} {v : V} {ds : List D} (le : Le G H) (r : RepB K W G H d v) (h : seqD d = some ds) : ∃ a vs, v = .ref a ∧ (SqL K H a vs ∨ SqT K H a vs) ∧ RepL K G ds vs := by
  cases d with
  | lst es =>
    obtain ⟨a, vs, e, h1, r1⟩ := r.lst le
    cases h
    exact ⟨a, vs, e, .inl (SqL.of h1), r1⟩
  | tup es =>
    obtain ⟨a, vs, e, h1, r1⟩ := r.tup le
    cases h
    exact ⟨a, vs, e, .inr h1, r1⟩
  | _ => exact nomatch h
theorem RepB.flat_rep {W : Wd} {G H : Hp} {d : D} {v : V} (r : RepB K W G H d v) (h : flatD d = true) : Rep K G d v := by
  rcases r with r | ⟨a, e, _, _, o⟩
  · exact r
  · cases d <;> first | exact o.elim | exact nomatch h
theorem dop_in (neg : Bool) : DOp K (rIn K neg) (fIn neg) := by
  intro W H G x y dx dy Q k le rx ry hf hk
  obtain ⟨h1, hf⟩ := hf
  split at hf
  · rename_i ds e
    obtain ⟨a, vs, ey, hs, r⟩ := ry.seq le e
    obtain ⟨h2, hf⟩ := hf
    have rx' := rx.flat_rep h1
    refine ⟨a, vs, ey, hs, rx'.flat h1, r.flat h2, hk _ H G _ (.refl le) ?_ hf⟩
    rw [RepL.inV rx' h1 r h2]
    exact .bl _
  · exact hf.elim
end
section
variable {X : Cx} {W : WX} {a b : Expr} {δa δb : DE} {pos : Pos}
theorem pd_lt (ha : PB X W a δa) (hb : PB X W b δb) : PD X W (.Compare a [.Lt] [b] pos) (dOp fLt δa δb) := pd_cmp op_lt dop_lt ha hb (nomark _)
theorem pd_le (ha : PB X W a δa) (hb : PB X W b δb) : PD X W (.Compare a [.LtE] [b] pos) (dOp fLe δa δb) := pd_cmp op_le dop_le ha hb (nomark _)
theorem pd_gt (ha : PB X W a δa) (hb : PB X W b δb) : PD X W (.Compare a [.Gt] [b] pos) (dOp fGt δa δb) := pd_cmp op_gt dop_gt ha hb (nomark _)
theorem pd_ge (ha : PB X W a δa) (hb : PB X W b δb) : PD X W (.Compare a [.GtE] [b] pos) (dOp fGe δa δb) := pd_cmp op_ge dop_ge ha hb (nomark _)
theorem pd_eq (hu : X.A.units + 64 < cLine) (ha : PB X W a δa) (hb : PB X W b δb) : PD X W (.Compare a [.Eq] [b] pos) (dOp fEq δa δb) := pd_cmp (op_eqD hu) dop_eq ha hb (nomark _)
theorem pd_ne (hu : X.A.units + 64 < cLine) (ha : PB X W a δa) (hb : PB X W b δb) : PD X W (.Compare a [.NotEq] [b] pos) (dOp fNe δa δb) := pd_cmp (op_neD hu) dop_ne ha hb (nomark _)
theorem pd_is (ha : PB X W a δa) (hb : PB X W b δb) : PD X W (.Compare a [.Is] [b] pos) (dOp fIs δa δb) := pd_cmp op_isN dop_is ha hb (nomark _)
theorem pd_isNot (ha : PB X W a δa) (hb : PB X W b δb) : PD X W (.Compare a [.IsNot] [b] pos) (dOp fIsNot δa δb) := pd_cmp op_notN dop_isNot ha hb (nomark _)
theorem pd_in (ha : PB X W a δa) (hb : PB X W b δb) (hm : behindInMarks .In b = false := by rfl) : PD X W (.Compare a [.In] [b] pos) (dOp (fIn false) δa δb) := pd_cmp op_in_seq (dop_in false) ha hb hm
theorem pd_notin (ha : PB X W a δa) (hb : PB X W b δb) (hm : behindInMarks .NotIn b = false := by rfl) : PD X W (.Compare a [.NotIn] [b] pos) (dOp (fIn true) δa δb) := pd_cmp op_notIn_seq (dop_in true) ha hb hm
theorem pt_lt (ha : PB X W a δa) (hb : PB X W b δb) : PTD X W (.Compare a [.Lt] [b] pos) (dTest (dOp fLt δa δb)) := pt_cmpD op_lt dop_lt ha hb (nomark _)
theorem pt_le (ha : PB X W a δa) (hb : PB X W b δb) : PTD X W (.Compare a [.LtE] [b] pos) (dTest (dOp fLe δa δb)) := pt_cmpD op_le dop_le ha hb (nomark _)
theorem pt_gt (ha : PB X W a δa) (hb : PB X W b δb) : PTD X W (.Compare a [.Gt] [b] pos) (dTest (dOp fGt δa δb)) := pt_cmpD op_gt dop_gt ha hb (nomark _)
theorem pt_ge (ha : PB X W a δa) (hb : PB X W b δb) : PTD X W (.Compare a [.GtE] [b] pos) (dTest (dOp fGe δa δb)) := pt_cmpD op_ge dop_ge ha hb (nomark _)
theorem pt_eq (hu : X.A.units + 64 < cLine) (ha : PB X W a δa) (hb : PB X W b δb) : PTD X W (.Compare a [.Eq] [b] pos) (dTest (dOp fEq δa δb)) := pt_cmpD (op_eqD hu) dop_eq ha hb (nomark _)
theorem pt_ne (hu : X.A.units + 64 < cLine) (ha : PB X W a δa) (hb : PB X W b δb) : PTD X W (.Compare a [.NotEq] [b] pos) (dTest (dOp fNe δa δb)) := pt_cmpD (op_neD hu) dop_ne ha hb (nomark _)
theorem pt_is (ha : PB X W a δa) (hb : PB X W b δb) : PTD X W (.Compare a [.Is] [b] pos) (dTest (dOp fIs δa δb)) := pt_cmpD op_isN dop_is ha hb (nomark _)
theorem pt_isNot (ha : PB X W a δa) (hb : PB X W b δb) : PTD X W (.Compare a [.IsNot] [b] pos) (dTest (dOp fIsNot δa δb)) := pt_cmpD op_notN dop_isNot ha hb (nomark _)
theorem pt_in (ha : PB X W a δa) (hb : PB X W b δb) (hm : behindInMarks .In b = false := by rfl) : PTD X W (.Compare a [.In] [b] pos) (dTest (dOp (fIn false) δa δb)) := pt_cmpD op_in_seq (dop_in false) ha hb hm
theorem pt_notin (ha : PB X W a δa) (hb : PB X W b δb) (hm : behindInMarks .NotIn b = false := by rfl) : PTD X W (.Compare a [.NotIn] [b] pos) (dTest (dOp (fIn true) δa δb)) := pt_cmpD op_notIn_seq (dop_in true) ha hb hm
end

/-! ### and, or, not; if else -/
def dAndT (a b : DT) : DT := fun x ρ n q => a x ρ n fun c n1 => if c = true then b x ρ n1 q else q false n1
def dOrT (a b : DT) : DT := fun x ρ n q => a x ρ n fun c n1 => if c = true then q true n1 else b x ρ n1 q
def dNotT (a : DT) : DT := fun x ρ n q => a x ρ n fun c n1 => q (!c) n1
def bd (k : Bool → Nat → Prop) : DQ := fun d n => match d with
  | .bl c => k c n
  | _ => False
def dAnd (a b : DE) : DE := fun x ρ n q => a x ρ n (bd fun c n1 => if c = true then b x ρ n1 q else q (.bl false) n1)
def dOr (a b : DE) : DE := fun x ρ n q => a x ρ n (bd fun c n1 => if c = true then q (.bl true) n1 else b x ρ n1 q)
def dNot (a : DE) : DE := fun x ρ n q => a x ρ n (bd fun c n1 => q (.bl (!c)) n1)
def dIf (t : DT) (a b : DE) : DE := fun x ρ n q => t x ρ n fun c n1 => if c = true then a x ρ n1 q else b x ρ n1 q
section
variable {X : Cx} {W : WX} {a b c : Expr} {rest : List Expr} {δa δb : DE} {τa τb : DT} {pos : Pos}
theorem pwd_and1 (h : PTD X W a τa) : PWD X W (.BoolOp .And [a] pos) τa := by
  obtain ⟨t, p, e⟩ := h
  exact ⟨t, pw_and1 p, e⟩
theorem pwd_or1 (h : PTD X W a τa) : PWD X W (.BoolOp .Or [a] pos) τa := by
  obtain ⟨t, p, e⟩ := h
  exact ⟨t, pw_or1 p, e⟩
theorem pwd_and (h : PTD X W a τa) (h2 : PWD X W (.BoolOp .And (b :: rest) pos) τb) : PWD X W (.BoolOp .And (a :: b :: rest) pos) (dAndT τa τb) := by
  obtain ⟨t, p, e⟩ := h
  obtain ⟨t', p', e'⟩ := h2
  refine ⟨_, pw_and p p', fun B σ H ρ n G α Q x q hK R hx hd k => ?_⟩
  refine e B σ H ρ n G α _ x _ hK R hx hd fun c H1 G1 n1 s1 j1 h1 => ?_
  cases c with
  | true =>
    rw [if_pos rfl] at h1 ⊢
    exact e' B σ H1 ρ n1 G1 α Q x q hK (R.step s1 j1) (hx.step s1) h1 fun b H2 G2 n2 s2 j2 h2 => k b H2 G2 n2 (s1.trans s2) j2 h2
  | false =>
    rw [if_neg Bool.false_ne_true] at h1 ⊢
    exact k false H1 G1 n1 s1 j1 h1
theorem pwd_or (h : PTD X W a τa) (h2 : PWD X W (.BoolOp .Or (b :: rest) pos) τb) : PWD X W (.BoolOp .Or (a :: b :: rest) pos) (dOrT τa τb) := by
  obtain ⟨t, p, e⟩ := h
  obtain ⟨t', p', e'⟩ := h2
  refine ⟨_, pw_or p p', fun B σ H ρ n G α Q x q hK R hx hd k => ?_⟩
  refine e B σ H ρ n G α _ x _ hK R hx hd fun c H1 G1 n1 s1 j1 h1 => ?_
  cases c with
  | true =>
    rw [if_pos rfl] at h1 ⊢
    exact k true H1 G1 n1 s1 j1 h1
  | false =>
    rw [if_neg Bool.false_ne_true] at h1 ⊢
    exact e' B σ H1 ρ n1 G1 α Q x q hK (R.step s1 j1) (hx.step s1) h1 fun b H2 G2 n2 s2 j2 h2 => k b H2 G2 n2 (s1.trans s2) j2 h2
theorem ptd_not (h : PTD X W a τa) : PTD X W (.UnaryOp .Not a pos) (dNotT τa) := by
  obtain ⟨t, p, e⟩ := h
  refine ⟨_, pt_not p, fun B σ H ρ n G α Q x q hK R hx hd k => ?_⟩
  exact e B σ H ρ n G α _ x _ hK R hx hd fun c H1 G1 n1 s1 j1 h1 => k (!c) H1 G1 n1 s1 j1 h1
theorem pd_one {op} (h : PD X W a δa) : PD X W (.BoolOp op [a] pos) δa := by
  obtain ⟨t, p, e⟩ := h
  exact ⟨t, pe_one p, e⟩
theorem pd_and (h : PD X W a δa) (h2 : PD X W (.BoolOp .And (b :: rest) pos) δb) : PD X W (.BoolOp .And (a :: b :: rest) pos) (dAnd δa δb) := by
  obtain ⟨t, p, e⟩ := h
  obtain ⟨t', p', e'⟩ := h2
  refine ⟨_, pe_and p p', fun B σ H ρ n G α Q x q hK R hx hd k => ?_⟩
  refine e B σ H ρ n G α _ x _ hK R hx hd fun v H1 G1 d n1 s1 j1 r1 h1 => ?_
  cases d with
  | bl c =>
    cases r1
    refine ⟨c, rfl, ?_⟩
    cases c with
    | true =>
      have h1' : δb x ρ n1 q := h1
      rw [if_pos rfl]
      exact e' B σ H1 ρ n1 G1 α Q x q hK (R.step s1 j1) (hx.step s1) h1' fun v H2 G2 d n2 s2 j2 h2 => k v H2 G2 d n2 (s1.trans s2) j2 h2
    | false =>
      rw [if_neg Bool.false_ne_true]
      exact k _ H1 G1 _ n1 s1 j1 (.bl false) h1
  | _ => exact h1.elim
theorem pd_or (h : PD X W a δa) (h2 : PD X W (.BoolOp .Or (b :: rest) pos) δb) : PD X W (.BoolOp .Or (a :: b :: rest) pos) (dOr δa δb) := by
  obtain ⟨t, p, e⟩ := h
  obtain ⟨t', p', e'⟩ := h2
  refine ⟨_, pe_or p p', fun B σ H ρ n G α Q x q hK R hx hd k => ?_⟩
  refine e B σ H ρ n G α _ x _ hK R hx hd fun v H1 G1 d n1 s1 j1 r1 h1 => ?_
  cases d with
  | bl c =>
    cases r1
    refine ⟨c, rfl, ?_⟩
    cases c with
    | false =>
      have h1' : δb x ρ n1 q := h1
      rw [if_neg Bool.false_ne_true]
      exact e' B σ H1 ρ n1 G1 α Q x q hK (R.step s1 j1) (hx.step s1) h1' fun v H2 G2 d n2 s2 j2 h2 => k v H2 G2 d n2 (s1.trans s2) j2 h2
    | true =>
      rw [if_pos rfl]
      exact k _ H1 G1 _ n1 s1 j1 (.bl true) h1
  | _ => exact h1.elim
theorem pd_not (h : PD X W a δa) : PD X W (.UnaryOp .Not a pos) (dNot δa) := by
  obtain ⟨t, p, e⟩ := h
  refine ⟨_, pe_not p, fun B σ H ρ n G α Q x q hK R hx hd k => ?_⟩
  refine e B σ H ρ n G α _ x _ hK R hx hd fun v H1 G1 d n1 s1 j1 r1 h1 => ?_
  cases d with
  | bl c =>
    cases r1
    exact ⟨c, rfl, k _ H1 G1 _ n1 s1 j1 (.bl (!c)) h1⟩
  | _ => exact h1.elim
theorem pd_if (hc : PTD X W c τa) (ha : PD X W a δa) (hb : PD X W b δb) : PD X W (.IfExp c a b pos) (dIf τa δa δb) := by
  obtain ⟨t, p, e⟩ := hc
  obtain ⟨ta, pa, ea⟩ := ha
  obtain ⟨tb, pb, eb⟩ := hb
  refine ⟨_, pe_ifExp p pa pb, fun B σ H ρ n G α Q x q hK R hx hd k => ?_⟩
  refine e B σ H ρ n G α _ x _ hK R hx hd fun c H1 G1 n1 s1 j1 h1 => ?_
  cases c with
  | true =>
    rw [if_pos rfl] at h1 ⊢
    exact ea B σ H1 ρ n1 G1 α Q x q hK (R.step s1 j1) (hx.step s1) h1 fun v H2 G2 d n2 s2 j2 h2 => k v H2 G2 d n2 (s1.trans s2) j2 h2
  | false =>
    rw [if_neg Bool.false_ne_true] at h1 ⊢
    exact eb B σ H1 ρ n1 G1 α Q x q hK (R.step s1 j1) (hx.step s1) h1 fun v H2 G2 d n2 s2 j2 h2 => k v H2 G2 d n2 (s1.trans s2) j2 h2
end

/-! ### arguments, displays -/
def dNil : DA := fun _ _ n q => q [] n
def dCons (a : DE) (r : DA) : DA := fun x ρ n q => a x ρ n fun d n1 => r x ρ n1 fun ds n2 => q (d :: ds) n2
def dTup (a : DA) : DE := fun x ρ n q => a x ρ n fun ds n1 => ds.length ≤ 16777216 ∧ q (.tup ds) n1
def dLst (a : DA) : DE := fun x ρ n q => a x ρ n fun ds n1 => ds.length ≤ 16777216 ∧ q (.lst ds) n1
def dEmp : DE := fun _ _ n q => q (.dct []) n
section
variable {X : Cx} {W : WX} {e : Expr} {es : List Expr} {δ : DE} {α' : DA} {pos : Pos}
theorem pad_nil : PAD X W [] dNil := ⟨_, pa_nil, fun B σ H ρ n G α Q x q hK R hx hd k => k [] H G [] n (.refl _ R.le) R.J .nil hd⟩
theorem pad_cons (h : PD X W e δ) (h2 : PAD X W es α') (hs : starEach (e :: es) X.env = (false, eval e X.env) :: starEach es X.env := by rfl) : PAD X W (e :: es) (dCons δ α') := by
  obtain ⟨t, p, h⟩ := h
  obtain ⟨t', p', h'⟩ := h2
  refine ⟨_, pa_cons p p' hs, fun B σ H ρ n G α Q x q hK R hx hd k => ?_⟩
  refine h B σ H ρ n G α _ x _ hK R hx hd fun v H1 G1 d n1 s1 j1 r1 h1 => ?_
  refine h' B σ H1 ρ n1 G1 α _ x _ hK (R.step s1 j1) (hx.step s1) h1 fun vs H2 G2 ds n2 s2 j2 r2 h2 => ?_
  exact k _ H2 G2 _ n2 (s1.trans s2) j2 (.cons (r1.mono s2.le) r2) h2
theorem pab_nil : PAB X W [] dNil := ⟨_, pa_nil, fun B σ H ρ n G α Q x q hK R hx hd k => k [] H G [] n (.refl _ R.le) R.J .nil hd⟩
theorem pab_cons (h : PB X W e δ) (h2 : PAB X W es α') (hs : starEach (e :: es) X.env = (false, eval e X.env) :: starEach es X.env := by rfl) : PAB X W (e :: es) (dCons δ α') := by
  obtain ⟨t, p, h⟩ := h
  obtain ⟨t', p', h'⟩ := h2
  refine ⟨_, pa_cons p p' hs, fun B σ H ρ n G α Q x q hK R hx hd k => ?_⟩
  refine h B σ H ρ n G α _ x _ hK R hx hd fun v H1 G1 d n1 s1 j1 r1 h1 => ?_
  refine h' B σ H1 ρ n1 G1 α _ x _ hK (R.step s1 j1) (hx.step s1) h1 fun vs H2 G2 ds n2 s2 j2 r2 h2 => ?_
  exact k _ H2 G2 _ n2 (s1.trans s2) j2 (.cons (r1.step s2) r2) h2
theorem pd_tup {x1} (h : PAD X W es α') : PD X W (.Tuple es x1 pos) (dTup α') := by
  obtain ⟨t, p, h⟩ := h
  refine ⟨_, pe_tup p, fun B σ H ρ n G α Q x q hK R hx hd k => ?_⟩
  refine h B σ H ρ n G α _ x _ hK R hx hd fun vs H1 G1 ds n1 s1 j1 r1 h1 => ?_
  refine ⟨by rw [sizeLine_eq, ← r1.length]; exact h1.1, fun a np => ?_⟩
  have s := StepP.made (o := .tup vs) s1.hh np
  exact k _ _ _ _ n1 (s1.trans (s.step j1)) (s.J j1) (.tup (SqT.of upd_same) (r1.mono s.le)) h1.2
theorem pf_lst (h : PAD X W es α') : PF X W (.List es pos) (dLst α') := by
  obtain ⟨t, p, h⟩ := h
  refine ⟨_, pe_lst p, fun B σ H ρ n G α Q x q hK R hx hd k => ?_⟩
  refine h B σ H ρ n G α _ x _ hK R hx hd fun vs H1 G1 ds n1 s1 j1 r1 h1 => ?_
  refine ⟨by rw [sizeLine_eq, ← r1.length]; exact h1.1, fun a np => ?_⟩
  have s := StepP.laid (o := .lst vs) s1.hh np
  have nr : ¬ B.W.rg a := fun r => B.W.there n1 H1 a j1 r np
  have h0 : H a = none := by
    cases e : H a with
    | none => rfl
    | some o => rw [s1.fr a o e nr] at np; cases np
  have g0 : G1 a = none := by
    cases e : G1 a with
    | none => rfl
    | some o =>
      obtain ⟨o', e', _⟩ := s1.hh a o e
      rw [np] at e'; cases e'
  exact k a _ _ (.lst ds) n1 (s1.trans (s.step j1)) (s.J j1) h0 g0 nr ⟨vs, upd_same, r1⟩ h1.2
theorem pf_dct0 : PF X W (.Dict [] [] pos) dEmp := by
  refine ⟨_, pe_dnewK, fun B σ H ρ n G α Q x q hK R hx hd k => fun a np => ?_⟩
  have s := StepP.laid (o := .dK []) R.le np
  have nr : ¬ B.W.rg a := fun r => B.W.there n H a R.J r np
  have g0 : G a = none := by
    cases e : G a with
    | none => rfl
    | some o =>
      obtain ⟨o', e', _⟩ := R.le a o e
      rw [np] at e'; cases e'
  exact k a _ _ (.dct []) n (s.step R.J) (s.J R.J) np g0 nr ⟨[], upd_same, .nil⟩ hd
end

/-! ### subscripts -/
def fIx : F2 := fun x y k => match y with
  | .int i => (match seqD x with
    | some ds => (match atI ds i with
      | some d => k d
      | none => False)
    | none => False)
  | _ => False
section
variable {K : PySem.W.Frag}
theorem RepL.atI {G : Hp} {ds : List D} {vs : List V} {i : Int} {d : D} (r : RepL K G ds vs) (h : atI ds i = some d) : ∃ v, atI vs i = some v ∧ Rep K G d v := by
  unfold L2.atI at h ⊢
  rw [← r.length]
  cases e : ixN ds.length i with
  | none => rw [e] at h; cases h
  | some j =>
    rw [e] at h
    obtain ⟨v, h1, h2⟩ := r.get (i := j) h
    exact ⟨v, h1, h2⟩
theorem dop_ix : DOp K (rIx K) fIx := by
  intro W H G x y dx dy Q k le rx ry hf hk
  cases dy with
  | int i =>
    unfold fIx at hf
    simp only at hf
    split at hf
    · rename_i ds e
      split at hf
      · rename_i d e2
        obtain ⟨a, vs, ex, hs, r⟩ := rx.seq le e
        obtain ⟨v, h1, h2⟩ := r.atI e2
        rcases hs with hs | hs
        · exact .inl ⟨a, vs, i, v, ex, ry.int, hs, h1, hk _ H G _ (.refl le) h2 hf⟩
        · exact .inr (.inl ⟨a, vs, i, v, ex, ry.int, hs, h1, hk _ H G _ (.refl le) h2 hf⟩)
      · exact hf.elim
    · exact hf.elim
  | _ => exact hf.elim
end
/-- d[k], d a dict -/
def keyD : D → Option Key
  | .int i => some (.inl i)
  | .str x => some (.inr x)
  | _ => none
def fDg : F2 := fun x y k => match x, keyD y with
  | .dct kvs, some j => (match getD kvs j with
    | some d => k d
    | none => False)
  | _, _ => False
theorem keyD_rep {K : PySem.W.Frag} {W : Wd} {G H : Hp} {d : D} {v : V} {k : Key} (h : keyD d = some k) (r : RepB K W G H d v) : v = kV k := by
  cases d with
  | int i => cases h; exact r.int
  | str x => cases h; exact r.str
  | _ => exact nomatch h
section
variable {X : Cx} {W : WX} {a b : Expr} {δa δb : DE} {pos : Pos}
theorem pd_ix (ha : PB X W a δa) (hb : PB X W b δb) (hs : PlainIx b := by exact fun _ _ => rfl) : PD X W (.Subscript a b pos) (dOp fIx δa δb) := by
  obtain ⟨ta, pa, ea⟩ := ha
  obtain ⟨tb, pb, eb⟩ := hb
  exact ⟨_, pe_ix ix_seq pa pb hs, ed_op dop_ix ea eb⟩
theorem pd_dg (hu : X.A.units + 1 < cLine) (ha : PB X W a δa) (hb : PB X W b δb) (hs : NoSl b := by exact fun _ _ => rfl) : PD X W (.Subscript a b pos) (dOp fDg δa δb) := by
  obtain ⟨ta, pa, ea⟩ := ha
  obtain ⟨tb, pb, eb⟩ := hb
  refine ⟨_, pe_dget hu pa pb hs, fun B σ H ρ n G α Q x q hK R hx h k => ?_⟩
  refine ea B σ H ρ n G α _ x _ hK R hx h fun v1 H1 G1 d1 n1 s1 j1 r1 h1 => ?_
  refine eb B σ H1 ρ n1 G1 α _ x _ hK (R.step s1 j1) (hx.step s1) h1 fun v2 H2 G2 d2 n2 s2 j2 r2 h2 => ?_
  unfold fDg at h2
  split at h2
  · rename_i kvs j ej
    split at h2
    · rename_i d e
      obtain ⟨p, ws, e1, hd, rk⟩ := (r1.step s2).dct s2.hh
      rcases rk.val (k := j) with ⟨d', v', g1, g2, g3⟩ | ⟨g1, _⟩
      · rw [e] at g1
        cases g1
        exact ⟨p, v', e1, .inl ⟨ws, j, hd, keyD_rep ej r2, g2.symm⟩, k v' H2 G2 d n2 (s1.trans s2) j2 g3 h2⟩
      · rw [e] at g1; cases g1
    · exact h2.elim
  · exact h2.elim
end
end DL

end

/-! DL4 -/
section
set_option autoImplicit false
/-! DL4: built-in calls, isinstance, truth, fields, slices, methods of dicts. -/
namespace DL
open PySem PySem.Spec L2

/-! ### built-ins by values -/
abbrev FL := List D → (D → Prop) → Prop
def DCall (K : PySem.W.Frag) (r : List V → Hp → VK → Prop) (f : FL) : Prop := ∀ (W : Wd) (H G : Hp) (vs : List V) (ds : List D) (Q : VK) (k : D → Prop), Le G H → RepBL K W G H ds vs → f ds k →
  (∀ v H' G' d, StepP H G H' G' → Rep K G' d v → k d → Q v H') → r vs H Q
def dCB (f : FL) (a : DA) : DE := fun x ρ n q => a x ρ n fun ds n1 => f ds fun d => q d n1
section
variable {X : Cx} {W : WX} {e : Expr} {es : List Expr} {α' : DA} {p pos : Pos} {x : Str} {id T : String} {r : List V → Hp → VK → Prop} {f : FL}
theorem ed_cb {K : PySem.W.Frag} {t : TA} (hr : DCall K r f) (ha : EAB K W t α') : ED K W (tCB r t) (dCB f α') := by
  intro B σ H ρ n G α Q x q hK R hx h k
  refine ha B σ H ρ n G α _ x _ hK R hx h fun vs H1 G1 ds n1 s1 j1 r1 h1 => ?_
  exact hr B.W H1 G1 vs ds Q _ s1.hh r1 h1 fun v H' G' d s r hq => k v H' G' d n1 (s1.trans (s.step j1)) (s.J j1) r hq
theorem pd_callB (hc : CallR X (.builtin id) r) (hr : DCall X.K r f) (hg : Gl X x) (hm : X.mg x = none) (hv : bootBuiltins x = some (.builtin id)) (ha : PAB X W (e :: es) α') (hn : x ≠ "__name__" := by decide) (hdb : (x == ("__debug__" : Str)) = false := by decide)
    (hst : starEach (e :: es) X.env = (false, eval e X.env) :: starEach es X.env := by rfl) (hpl : (backTo pos (starEach es X.env)).any (·.1) = false := by rfl) : PD X W (.Call (.Name x p) (e :: es) [] pos) (dCB f α') := by
  obtain ⟨t, pa, ea⟩ := ha
  exact ⟨_, pe_callB hc hg hm hv pa hn hdb hst hpl, ed_cb hr ea⟩
theorem pd_callTy (hc : CallR X (.type T) r) (hr : DCall X.K r f) (hg : Gl X x) (hm : X.mg x = none) (hv : bootBuiltins x = some (.type T)) (ha : PAB X W (e :: es) α') (hn : x ≠ "__name__" := by decide) (hdb : (x == ("__debug__" : Str)) = false := by decide)
    (hst : starEach (e :: es) X.env = (false, eval e X.env) :: starEach es X.env := by rfl) (hpl : (backTo pos (starEach es X.env)).any (·.1) = false := by rfl) : PD X W (.Call (.Name x p) (e :: es) [] pos) (dCB f α') := by
  obtain ⟨t, pa, ea⟩ := ha
  exact ⟨_, pe_callTy hc hg hm hv pa hn hdb hst hpl, ed_cb hr ea⟩
end
section
variable {K : PySem.W.Frag} {W : Wd} {G H : Hp}
theorem RepBL.one {d : D} {vs : List V} (r : RepBL K W G H [d] vs) : ∃ v, vs = [v] ∧ RepB K W G H d v := by
  cases r with
  | cons r t => cases t; exact ⟨_, rfl, r⟩
theorem RepBL.two {d e : D} {vs : List V} (r : RepBL K W G H [d, e] vs) : ∃ v u, vs = [v, u] ∧ RepB K W G H d v ∧ RepB K W G H e u := by
  cases r with
  | cons r t =>
    cases t with
    | cons r' t => cases t; exact ⟨_, _, rfl, r, r'⟩
theorem RepBL.three {d e f : D} {vs : List V} (r : RepBL K W G H [d, e, f] vs) : ∃ v u w, vs = [v, u, w] ∧ RepB K W G H d v ∧ RepB K W G H e u ∧ RepB K W G H f w := by
  cases r with
  | cons r t =>
    obtain ⟨u, w, rfl, h1, h2⟩ := t.two
    exact ⟨_, u, w, rfl, r, h1, h2⟩
end
/-- len of a list, tuple, dict, text -/
def lenD : D → Option Nat
  | .lst ds => some ds.length
  | .tup ds => some ds.length
  | .dct kvs => some kvs.length
  | _ => none
def fLen : FL := fun ds k => match ds with
  | [d] => (match lenD d with
    | some n => k (.int n)
    | none => False)
  | _ => False
def f1 (f : D → (D → Prop) → Prop) : FL := fun ds k => match ds with
  | [d] => f d k
  | _ => False
theorem call_lenD2 {X : Cx} : CallR X (.builtin "len") (fun xs H Q => (∃ x n, xs = [x] ∧ LenV X.K x H n ∧ Q (.int n) H) ∨ ∃ a kvs, xs = [.ref a] ∧ Rd H a (.dK kvs) ∧ Q (.int kvs.length) H) := by
  refine call_len.or ?_
  intro pins s σ H xs us Q I r h
  obtain ⟨a, kvs, rfl, hd, q⟩ := h
  obtain ⟨u, rfl, r1⟩ := vals1 r
  obtain rfl : u = Value.ref a := r1
  exact d_len I hd fun t s' I' => ⟨.int kvs.length, H, I', ⟨t, rfl⟩, q⟩
section
variable {K : PySem.W.Frag}
theorem dcall_len : DCall K (fun xs H Q => (∃ x n, xs = [x] ∧ LenV K x H n ∧ Q (.int n) H) ∨ ∃ a kvs, xs = [.ref a] ∧ Rd H a (.dK kvs) ∧ Q (.int kvs.length) H) fLen := by
  intro W H G vs ds Q k le r hf hk
  unfold fLen at hf
  split at hf
  · rename_i d
    obtain ⟨v, rfl, r0⟩ := r.one
    split at hf
    · rename_i n e
      cases d with
      | lst ds =>
        cases e
        obtain ⟨a, us, e1, h1, r1⟩ := r0.lst le
        subst e1
        refine .inl ⟨_, us.length, rfl, .inl ⟨us, SqL.of h1, rfl⟩, hk _ H G _ (.refl le) (by rw [r1.length]; exact .int _) hf⟩
      | tup ds =>
        cases e
        obtain ⟨a, us, e1, h1, r1⟩ := r0.tup le
        subst e1
        refine .inl ⟨_, us.length, rfl, .inr ⟨us, h1, rfl⟩, hk _ H G _ (.refl le) (by rw [r1.length]; exact .int _) hf⟩
      | dct kvs =>
        cases e
        obtain ⟨a, ws, e1, h1, r1⟩ := r0.dct le
        subst e1
        refine .inr ⟨_, ws, rfl, h1, hk _ H G _ (.refl le) (by rw [r1.length]; exact .int _) hf⟩
      | _ => exact nomatch e
    · exact hf.elim
  · exact hf.elim
/-- abs -/
def fAbs : FL := f1 fun d k => match d with
  | .int i => k (.int (if i < 0 then -i else i))
  | _ => False
theorem dcall_abs : DCall K (fun xs H Q => ∃ i, xs = [.int i] ∧ Q (.int (if i < 0 then -i else i)) H) fAbs := by
  intro W H G vs ds Q k le r hf hk
  unfold fAbs f1 at hf
  split at hf
  · rename_i d
    obtain ⟨v, rfl, r0⟩ := r.one
    cases d with
    | int i => exact ⟨i, by rw [r0.int], hk _ H G _ (.refl le) (.int _) hf⟩
    | _ => exact hf.elim
  · exact hf.elim
/-- int(x) of an int, a bool -/
def fInt : FL := f1 fun d k => match d with
  | .int i => k (.int i)
  | .bl b => k (.int (if b then 1 else 0))
  | _ => False
theorem dcall_int : DCall K (fun xs H Q => (∃ i, xs = [.int i] ∧ Q (.int i) H) ∨ ∃ k, xs = [.bl k] ∧ Q (.int (if k then 1 else 0)) H) fInt := by
  intro W H G vs ds Q k le r hf hk
  unfold fInt f1 at hf
  split at hf
  · rename_i d
    obtain ⟨v, rfl, r0⟩ := r.one
    cases d with
    | int i => exact .inl ⟨i, by rw [r0.int], hk _ H G _ (.refl le) (.int _) hf⟩
    | bl b => exact .inr ⟨b, by rw [r0.bl], hk _ H G _ (.refl le) (.int _) hf⟩
    | _ => exact hf.elim
  · exact hf.elim
/-- list(x) of a list, a tuple -/
def fList : FL := f1 fun d k => match seqD d with
  | some ds => k (.lst ds)
  | none => False
theorem dcall_list : DCall K (fun xs H Q => ∃ p ys, xs = [.ref p] ∧ (SqL K H p ys ∨ SqT K H p ys) ∧ ∀ l, H l = none → Q (.ref l) (upd H l (.lst ys))) fList := by
  intro W H G vs ds Q k le r hf hk
  unfold fList f1 at hf
  split at hf
  · rename_i d
    obtain ⟨v, rfl, r0⟩ := r.one
    split at hf
    · rename_i es e
      obtain ⟨a, us, e1, hs, r1⟩ := r0.seq le e
      subst e1
      refine ⟨a, us, rfl, hs, fun l np => ?_⟩
      have s := StepP.made (o := .lst us) le np
      exact hk _ _ _ _ s (.lst upd_same (r1.mono s.le)) hf
    · exact hf.elim
  · exact hf.elim
/-- tuple(x) of a list, a tuple -/
def fTuple : FL := f1 fun d k => match seqD d with
  | some ds => k (.tup ds)
  | none => False
theorem dcall_tuple : DCall K (fun xs H Q => ∃ p ys, xs = [.ref p] ∧ ((SqL K H p ys ∧ ∀ l, H l = none → Q (.ref l) (upd H l (.tup ys))) ∨ (SqT K H p ys ∧ Q (.ref p) H))) fTuple := by
  intro W H G vs ds Q k le r hf hk
  unfold fTuple f1 at hf
  split at hf
  · rename_i d
    obtain ⟨v, rfl, r0⟩ := r.one
    cases d with
    | lst es =>
      obtain ⟨a, us, e1, h1, r1⟩ := r0.lst le
      subst e1
      refine ⟨a, us, rfl, .inl ⟨SqL.of h1, fun l np => ?_⟩⟩
      have s := StepP.made (o := .tup us) le np
      exact hk _ _ _ _ s (.tup (SqT.of upd_same) (r1.mono s.le)) hf
    | tup es =>
      obtain ⟨a, us, e1, h1, r1⟩ := r0.tup le
      rcases r0 with r0 | ⟨b, _, _, _, o⟩
      · subst e1
        exact ⟨a, us, rfl, .inr ⟨h1, hk _ _ _ _ (.refl le) r0 hf⟩⟩
      · exact o.elim
    | _ => exact hf.elim
  · exact hf.elim
/-- lists of ints, of bools -/
def intsD : List D → Option (List Int)
  | [] => some []
  | .int i :: ds => (intsD ds).map (i :: ·)
  | _ :: _ => none
def boolsD : List D → Option (List Bool)
  | [] => some []
  | .bl i :: ds => (boolsD ds).map (i :: ·)
  | _ :: _ => none
theorem RepL.ints {G : Hp} : ∀ {ds : List D} {vs : List V} {ns : List Int}, RepL K G ds vs → intsD ds = some ns → vs = ns.map V.int
  | _, _, _, .nil, h => by cases h; rfl
  | _, _, ns, .cons (d := d) (ds := ds) r t, h => by
    cases d with
    | int i =>
      cases r
      cases e : intsD ds with
      | none => simp [intsD, e] at h
      | some ms =>
        simp [intsD, e] at h
        subst h
        rw [List.map_cons, RepL.ints t e]
    | _ => exact nomatch h
theorem RepL.bools {G : Hp} : ∀ {ds : List D} {vs : List V} {ns : List Bool}, RepL K G ds vs → boolsD ds = some ns → vs = ns.map V.bl
  | _, _, _, .nil, h => by cases h; rfl
  | _, _, ns, .cons (d := d) (ds := ds) r t, h => by
    cases d with
    | bl i =>
      cases r
      cases e : boolsD ds with
      | none => simp [boolsD, e] at h
      | some ms =>
        simp [boolsD, e] at h
        subst h
        rw [List.map_cons, RepL.bools t e]
    | _ => exact nomatch h
theorem RepL.of_ints {G : Hp} : ∀ (ns : List Int), RepL K G (ns.map D.int) (ns.map V.int)
  | [] => .nil
  | i :: ns => .cons (.int i) (RepL.of_ints ns)
def fSeqInts (f : List Int → (D → Prop) → Prop) : FL := f1 fun d k => match d with
  | .lst ds => (match intsD ds with
    | some ns => f ns k
    | none => False)
  | _ => False
def fSum : FL := fSeqInts fun ns k => k (.int ns.sum)
def fMax : FL := fSeqInts fun ns k => 0 < ns.length ∧ ∀ m, m ∈ ns → (∀ y, y ∈ ns → y ≤ m) → k (.int m)
def fMin : FL := fSeqInts fun ns k => 0 < ns.length ∧ ∀ m, m ∈ ns → (∀ y, y ∈ ns → m ≤ y) → k (.int m)
theorem dcall_sum : DCall K (rSum K) fSum := by
  intro W H G vs ds Q k le r hf hk
  unfold fSum fSeqInts f1 at hf
  split at hf
  · rename_i d
    obtain ⟨v, rfl, r0⟩ := r.one
    split at hf
    · split at hf
      · rename_i e
        obtain ⟨a, us, e1, h1, r1⟩ := r0.lst le
        subst e1
        exact ⟨a, _, rfl, SqL.of (by rw [← r1.ints e]; exact h1), hk _ H G _ (.refl le) (.int _) hf⟩
      · exact hf.elim
    · exact hf.elim
  · exact hf.elim
theorem dcall_max : DCall K (rMax K) fMax := by
  intro W H G vs ds Q k le r hf hk
  unfold fMax fSeqInts f1 at hf
  split at hf
  · rename_i d
    obtain ⟨v, rfl, r0⟩ := r.one
    split at hf
    · split at hf
      · rename_i e
        obtain ⟨a, us, e1, h1, r1⟩ := r0.lst le
        subst e1
        exact ⟨a, _, rfl, SqL.of (by rw [← r1.ints e]; exact h1), hf.1, fun m hm hy => hk _ H G _ (.refl le) (.int _) (hf.2 m hm hy)⟩
      · exact hf.elim
    · exact hf.elim
  · exact hf.elim
theorem dcall_min : DCall K (rMin K) fMin := by
  intro W H G vs ds Q k le r hf hk
  unfold fMin fSeqInts f1 at hf
  split at hf
  · rename_i d
    obtain ⟨v, rfl, r0⟩ := r.one
    split at hf
    · split at hf
      · rename_i e
        obtain ⟨a, us, e1, h1, r1⟩ := r0.lst le
        subst e1
        exact ⟨a, _, rfl, SqL.of (by rw [← r1.ints e]; exact h1), hf.1, fun m hm hy => hk _ H G _ (.refl le) (.int _) (hf.2 m hm hy)⟩
      · exact hf.elim
    · exact hf.elim
  · exact hf.elim
def fSorted : FL := fSeqInts fun ns k => ∀ ms : List Int, ms.Perm ns → ms.Pairwise (· ≤ ·) → k (.lst (ms.map D.int))
theorem dcall_sorted : DCall K (rSortedI K) fSorted := by
  intro W H G vs ds Q k le r hf hk
  unfold fSorted fSeqInts f1 at hf
  split at hf
  · rename_i d
    obtain ⟨v, rfl, r0⟩ := r.one
    split at hf
    · split at hf
      · rename_i e
        obtain ⟨a, us, e1, h1, r1⟩ := r0.lst le
        subst e1
        refine ⟨a, _, rfl, SqL.of (by rw [← r1.ints e]; exact h1), fun ms p hp hs np => ?_⟩
        have s := StepP.made (o := .lst (ms.map V.int)) le np
        exact hk _ _ _ _ s (.lst upd_same (RepL.of_ints ms)) (hf ms hp hs)
      · exact hf.elim
    · exact hf.elim
  · exact hf.elim
def fBools (f : List Bool → Bool) : FL := f1 fun d k => match d with
  | .lst ds => (match boolsD ds with
    | some bs => k (.bl (f bs))
    | none => False)
  | _ => False
theorem dcall_any : DCall K (rAny K) (fBools fun bs => bs.any id) := by
  intro W H G vs ds Q k le r hf hk
  unfold fBools f1 at hf
  split at hf
  · rename_i d
    obtain ⟨v, rfl, r0⟩ := r.one
    split at hf
    · split at hf
      · rename_i e
        obtain ⟨a, us, e1, h1, r1⟩ := r0.lst le
        subst e1
        exact ⟨a, _, rfl, SqL.of (by rw [← r1.bools e]; exact h1), hk _ H G _ (.refl le) (.bl _) hf⟩
      · exact hf.elim
    · exact hf.elim
  · exact hf.elim
theorem dcall_all : DCall K (rAll K) (fBools fun bs => bs.all id) := by
  intro W H G vs ds Q k le r hf hk
  unfold fBools f1 at hf
  split at hf
  · rename_i d
    obtain ⟨v, rfl, r0⟩ := r.one
    split at hf
    · split at hf
      · rename_i e
        obtain ⟨a, us, e1, h1, r1⟩ := r0.lst le
        subst e1
        exact ⟨a, _, rfl, SqL.of (by rw [← r1.bools e]; exact h1), hk _ H G _ (.refl le) (.bl _) hf⟩
      · exact hf.elim
    · exact hf.elim
  · exact hf.elim
end
end DL

end

/-! DL5 -/
section
set_option autoImplicit false
/-! DL5: statements, targets, loops, comprehensions. -/
namespace DL
open PySem PySem.Spec L2

structure DEnds where
  nx : Env → Nat → Prop
  rt : DQ
  bk : Env → Nat → Prop
  ct : Env → Nat → Prop
  ex : Xn → Env → Nat → Prop
  w : Wd
  ro : DQ
def DEnds.xx (E : DEnds) (ρ : Env) : DX := ⟨fun e n => E.ex e ρ n, E.w⟩
abbrev DS := DEnds → Env → Nat → Prop
structure Lk (B : Bs) (W : WX) (D : Ends) (E : DEnds) : Prop where
  nx : ∀ σ H ρ n G α, RelB B σ H ρ n G α → E.nx ρ n → D.nx σ H
  rt : ∀ v H d n G, Step B.W B.H0 B.G0 H G → B.W.J n H → Rep B.K G d v → E.rt d n → D.rt v H
  bk : ∀ σ H ρ n G α, RelB B σ H ρ n G α → E.bk ρ n → D.bk σ H
  ct : ∀ σ H ρ n G α, RelB B σ H ρ n G α → E.ct ρ n → D.ct σ H
  ex : ∀ c dd σ H ρ n G α e, RelB B σ H ρ n G α → XRep B.K G H e c dd → E.ex e ρ n → W c dd σ H
  w : E.w = B.W
  ro : ∀ a H d n G, Step B.W B.H0 B.G0 H G → B.W.J n H → B.H0 a = none → G a = none → ¬ B.W.rg a → OwnAt B.K G H a d → E.ro d n → D.rt (.ref a) H
theorem Lk.xl {B : Bs} {W : WX} {D : Ends} {E : DEnds} (L : Lk B W D E) {σ : St} {H : Hp} {ρ : Env} {n : Nat} {G : Hp} {α : Nat → Addr} (R : RelB B σ H ρ n G α) : XL B W σ H G (E.xx ρ) :=
  ⟨L.w, fun c dd H' G' e n' s j r q => L.ex c dd σ H' ρ n' G' α e (R.step s j) r q⟩
def SD (K : PySem.W.Frag) (W : WX) (t : TS) (δ : DS) : Prop :=
  ∀ (B : Bs) (σ : St) (H : Hp) (ρ : Env) (n : Nat) (G : Hp) (α : Nat → Addr) (D : Ends) (E : DEnds), B.K = K → RelB B σ H ρ n G α → Lk B W D E → δ E ρ n → t D σ H
def PSD (X : Cx) (W : WX) (st : Stmt) (δ : DS) : Prop := ∃ t, PS X st t ∧ SD X.K W t δ
def PSsD (X : Cx) (W : WX) (st : List Stmt) (δ : DS) : Prop := ∃ t, PSs X st t ∧ SD X.K W t δ

def dNext : DS := fun E ρ n => E.nx ρ n
def dSeq (a b : DS) : DS := fun E ρ n => a { E with nx := b E } ρ n
def dRet (δ : DE) : DS := fun E ρ n => δ (E.xx ρ) ρ n E.rt
def dRetN : DS := fun E _ n => E.rt .non n
def dExp (δ : DE) : DS := fun E ρ n => δ (E.xx ρ) ρ n fun _ n1 => E.nx ρ n1
def dIfS (t : DT) (a b : DS) : DS := fun E ρ n => t (E.xx ρ) ρ n fun c n1 => if c = true then a E ρ n1 else b E ρ n1
def dBreak : DS := fun E ρ n => E.bk ρ n
def dCont : DS := fun E ρ n => E.ct ρ n
def dNever : DS := fun _ _ _ => False
section
variable {X : Cx} {W : WX} {st : Stmt} {rest : List Stmt} {a b : DS} {e : Expr} {δ : DE} {pos : Pos}
theorem pss_nilD : PSsD X W [] dNext := ⟨_, pss_nil, fun B σ H ρ n G α D E hK R L h => L.nx σ H ρ n G α R h⟩
theorem pss_consD (h : PSD X W st a) (h2 : PSsD X W rest b) : PSsD X W (st :: rest) (dSeq a b) := by
  obtain ⟨t, p, e⟩ := h
  obtain ⟨t', p', e'⟩ := h2
  refine ⟨_, pss_cons p p', fun B σ H ρ n G α D E hK R L h => ?_⟩
  exact e B σ H ρ n G α _ { E with nx := b E } hK R ⟨fun σ1 H1 ρ1 n1 G1 α1 R1 h1 => e' B σ1 H1 ρ1 n1 G1 α1 D E hK R1 L h1, L.rt, L.bk, L.ct, L.ex, L.w, L.ro⟩ h
theorem pss_oneD (h : PSD X W st a) : PSsD X W [st] a := by
  obtain ⟨t, p, e⟩ := h
  exact ⟨t, pss_one p, e⟩
theorem ps_passD : PSD X W (.Pass pos) dNext := ⟨_, ps_pass, fun B σ H ρ n G α D E hK R L h => L.nx σ H ρ n G α R h⟩
theorem ps_breakD : PSD X W (.Break pos) dBreak := ⟨_, ps_break, fun B σ H ρ n G α D E hK R L h => L.bk σ H ρ n G α R h⟩
theorem ps_contD : PSD X W (.Continue pos) dCont := ⟨_, ps_continue, fun B σ H ρ n G α D E hK R L h => L.ct σ H ρ n G α R h⟩
theorem ps_neverD : PSD X W st dNever := ⟨_, ps_never, fun B σ H ρ n G α D E hK R L h => h.elim⟩
theorem ps_retD (he : PD X W e δ) : PSD X W (.Return (some e) pos) (dRet δ) := by
  obtain ⟨t, p, h⟩ := he
  refine ⟨_, ps_ret p, fun B σ H ρ n G α D E hK R L hd => ?_⟩
  exact h B σ H ρ n G α _ _ _ hK R (L.xl R) hd fun v H' G' d n' s j r hq => L.rt v H' d n' G' (R.st.trans s) j (hK ▸ r) hq
/-- return of an object that nothing names, or that one slot alone names -/
def dRetF (δ : DE) : DS := fun E ρ n => δ (E.xx ρ) ρ n E.ro
theorem ps_retFD (he : PF X W e δ) : PSD X W (.Return (some e) pos) (dRetF δ) := by
  obtain ⟨t, p, h⟩ := he
  refine ⟨_, ps_ret p, fun B σ H ρ n G α D E hK R L hd => ?_⟩
  refine h B σ H ρ n G α _ _ _ hK R (L.xl R) hd fun a H' G' d n' s j np ng nr o hq => ?_
  have h0 : B.H0 a = none := by
    cases q : B.H0 a with
    | none => rfl
    | some u => rw [R.st.fr a u q nr] at np; cases np
  exact L.ro a H' d n' G' (R.st.trans s) j h0 ng nr (hK ▸ o) hq
def dRetO (i : Nat) : DS := fun E ρ n => match ρ[i]? with
  | some (some (.own d)) => E.ro d n
  | _ => False
theorem ps_retOD (i : Nat) {x : Str} {npos : Pos} (hN : X.N[i]? = some x := by rfl) (hv : Vis X.env.scope x := by first | exact Or.inl rfl | exact Or.inr (Or.inl rfl) | exact Or.inr (Or.inr rfl)) (hd : (x == ("__debug__" : Str)) = false := by decide)
    (hcd : (x == ("__classdict__" : Str)) = false := by decide) : PSD X W (.Return (some (.Name x npos)) pos) (dRetO i) := by
  refine ⟨_, ps_ret (pe_var hN hv hd hcd), fun B σ H ρ n G α D E hK R L h => ?_⟩
  unfold dRetO at h
  split at h
  · rename_i d e
    obtain ⟨e1, g, h0, nr, o⟩ := R.own i d e
    exact ⟨_, e1, L.ro _ H d n G R.st R.J h0 g nr o h⟩
  · exact h.elim
theorem ps_retND : PSD X W (.Return none pos) dRetN := ⟨_, ps_retN, fun B σ H ρ n G α D E hK R L h => L.rt _ _ _ _ _ R.st R.J .non h⟩
theorem ps_exprD (he : PB X W e δ) (hs : swapsWith e none pos.line X.env = pure false := by rfl) : PSD X W (.Expr e pos) (dExp δ) := by
  obtain ⟨t, p, h⟩ := he
  refine ⟨_, ps_expr p hs, fun B σ H ρ n G α D E hK R L hd => ?_⟩
  exact h B σ H ρ n G α _ _ _ hK R (L.xl R) hd fun v H' G' d n' s j r hq => L.nx σ H' ρ n' G' α (R.step s j) hq
theorem ps_ifD {c : Expr} {x y : List Stmt} {τ : DT} (hc : PTD X W c τ) (ha : PSsD X W x a) (hb : PSsD X W y b) : PSD X W (.If c x y pos) (dIfS τ a b) := by
  obtain ⟨t, p, h⟩ := hc
  obtain ⟨ta, pa, ea⟩ := ha
  obtain ⟨tb, pb, eb⟩ := hb
  refine ⟨_, ps_if p pa pb, fun B σ H ρ n G α D E hK R L hd => ?_⟩
  refine h B σ H ρ n G α _ _ _ hK R (L.xl R) hd fun c H1 G1 n1 s1 j1 h1 => ?_
  cases c with
  | true =>
    rw [if_pos rfl] at h1 ⊢
    exact ea B σ H1 ρ n1 G1 α D E hK (R.step s1 j1) L h1
  | false =>
    rw [if_neg Bool.false_ne_true] at h1 ⊢
    exact eb B σ H1 ρ n1 G1 α D E hK (R.step s1 j1) L h1
end

/-! ### slots set -/
theorem set_val_own {ρ : Env} {i j : Nat} {d e : D} (h : (ρ.set i (some (.val d)))[j]? = some (some (.own e))) : ρ[j]? = some (some (.own e)) := by
  rw [List.getElem?_set] at h
  split at h
  · split at h
    · injection h with h; injection h with h; cases h
    · cases h
  · exact h
theorem RelB.set {B : Bs} {σ : St} {H : Hp} {ρ : Env} {n : Nat} {G : Hp} {α : Nat → Addr} (R : RelB B σ H ρ n G α) (i : Nat) {d : D} {v : V} (r : Rep B.K G d v) : RelB B (σ.set i (some v)) H (ρ.set i (some (.val d))) n G α := by
  refine ⟨R.st, R.rg, R.J, by rw [List.length_set, List.length_set, R.len], fun j e h => ?_, fun j e h => ?_, fun j k e f hj hk => ?_, fun a e h h' => R.p0 a e h (set_val_own h')⟩
  · rw [List.getElem?_set] at h ⊢
    by_cases z : i = j
    · subst z
      rw [if_pos rfl] at h ⊢
      rw [R.len]
      split at h
      · rename_i hl
        rw [if_pos hl]
        injection h with h; injection h with h; injection h with h
        subst h
        exact ⟨v, rfl, r⟩
      · cases h
    · rw [if_neg z] at h ⊢
      exact R.val j e h
  · rw [List.getElem?_set] at h ⊢
    by_cases z : i = j
    · subst z
      rw [if_pos rfl] at h
      split at h
      · injection h with h; injection h with h; cases h
      · cases h
    · rw [if_neg z] at h ⊢
      exact R.own j e h
  · have go : ∀ {j : Nat} {e : D}, (ρ.set i (some (.val d)))[j]? = some (some (.own e)) → ρ[j]? = some (some (.own e)) := fun {j e} h => by
      rw [List.getElem?_set] at h
      split at h
      · split at h
        · injection h with h; injection h with h; cases h
        · cases h
      · exact h
    exact R.inj j k e f (go hj) (go hk)
theorem RelB.setOwn {B : Bs} {σ : St} {H : Hp} {ρ : Env} {n : Nat} {G : Hp} {α : Nat → Addr} (R : RelB B σ H ρ n G α) (i : Nat) (i0 : i ≠ 0) {a : Addr} {d : D} (ha : ∀ j e, j ≠ i → ρ[j]? = some (some (.own e)) → α j ≠ a) (hg : G a = none) (h0 : B.H0 a = none) (hr : ¬ B.W.rg a) (o : OwnAt B.K G H a d) :
    RelB B (σ.set i (some (.ref a))) H (ρ.set i (some (.own d))) n G (fun j => if j = i then a else α j) := by
  refine ⟨R.st, R.rg, R.J, by rw [List.length_set, List.length_set, R.len], fun j e h => ?_, fun j e h => ?_, fun j k e f hj hk z => ?_, fun b e h h' => ?_⟩
  · rw [List.getElem?_set] at h ⊢
    by_cases z : i = j
    · subst z
      rw [if_pos rfl] at h
      split at h
      · injection h with h; injection h with h; cases h
      · cases h
    · rw [if_neg z] at h ⊢
      exact R.val j e h
  · rw [List.getElem?_set] at h ⊢
    by_cases z : i = j
    · subst z
      rw [if_pos rfl] at h ⊢
      rw [R.len]
      split at h
      · rename_i hl
        rw [if_pos hl]
        injection h with h; injection h with h; injection h with h
        subst h
        rw [if_pos rfl]
        exact ⟨rfl, hg, h0, hr, o⟩
      · cases h
    · rw [if_neg z] at h ⊢
      simp only [if_neg (fun q => z (Eq.symm q) : ¬ j = i)]
      exact R.own j e h
  · have go : ∀ {j : Nat} {e : D}, j ≠ i → (ρ.set i (some (.own d)))[j]? = some (some (.own e)) → ρ[j]? = some (some (.own e)) := fun {j e} q h => by
      rw [List.getElem?_set, if_neg (fun z => q z.symm)] at h
      exact h
    by_cases q : j = i
    · by_cases q' : k = i
      · rw [q, q']
      · simp only [if_pos q, if_neg q'] at z
        exact (ha k f q' (go q' hk) z.symm).elim
    · by_cases q' : k = i
      · simp only [if_neg q, if_pos q'] at z
        exact (ha j e q (go q hj) z).elim
      · simp only [if_neg q, if_neg q'] at z
        exact R.inj j k e f (go q hj) (go q' hk) z
  · rw [List.getElem?_set, if_neg i0] at h'
    simp only [if_neg (fun z => i0 z.symm : ¬ 0 = i)]
    exact R.p0 b e h h'
def dSet (i : Nat) (δ : DE) : DS := fun E ρ n => δ (E.xx ρ) ρ n fun d n1 => E.nx (ρ.set i (some (.val d))) n1
def dOwn (i : Nat) (δ : DE) : DS := fun E ρ n => δ (E.xx ρ) ρ n fun d n1 => E.nx (ρ.set i (some (.own d))) n1
/-- an owned object is data from here on -/
def dFrz (i : Nat) (a : DS) : DS := fun E ρ n => match ρ[i]? with
  | some (some (.own d)) => a E (ρ.set i (some (.val d))) n
  | _ => a E ρ n
section
variable {X : Cx} {W : WX} {e : Expr} {δ : DE} {pos pos' : Pos} {x : Str}
theorem sd_set {K : PySem.W.Frag} {t : TE} (h : ED K W t δ) (i : Nat) : SD K W (tAsg t (gName i)) (dSet i δ) := by
  intro B σ H ρ n G α D E hK R L hd
  exact h B σ H ρ n G α _ _ _ hK R (L.xl R) hd fun v H' G' d n' s j r hq => L.nx _ H' _ n' G' α ((R.step s j).set i (hK ▸ r)) hq
theorem sd_own {K : PySem.W.Frag} {t : TE} (h : EF K W t δ) (i : Nat) (i0 : i ≠ 0) : SD K W (tAsg t (gName i)) (dOwn i δ) := by
  intro B σ H ρ n G α D E hK R L hd
  refine h B σ H ρ n G α _ _ _ hK R (L.xl R) hd fun a H' G' d n' s j np ng nr o hq => ?_
  have R' := R.step s j
  refine L.nx _ H' _ n' G' _ (R'.setOwn i i0 (fun k e _ hk z => ?_) ng ?_ nr (hK ▸ o)) hq
  · obtain ⟨_, _, _, _, o'⟩ := R.own k e hk
    obtain ⟨u, q⟩ := o'.there
    rw [z, np] at q
    cases q
  · cases q : B.H0 a with
    | none => rfl
    | some u =>
      have := R.st.fr a u q nr
      rw [np] at this
      cases this
theorem ps_setD (i : Nat) (he : PD X W e δ) (hN : X.N.Nodup) (hi : X.N[i]? = some x := by rfl) (hx : Loc X.env.scope x := by first | exact Or.inl rfl | exact Or.inr rfl) (hs : swapsWith e (some (.Name x pos')) pos.line X.env = pure false := by rfl) (hf : X.fn x = true ∨ X.env.scope.names.lookup x = some .local := by first | exact .inl rfl | exact .inr rfl | assumption) :
    PSD X W (.Assign [.Name x pos'] e pos) (dSet i δ) := by
  obtain ⟨t, p, h⟩ := he
  exact ⟨_, ps_set hN hi hx p hs hf, sd_set h i⟩
theorem ps_ownD (i : Nat) (he : PF X W e δ) (hN : X.N.Nodup) (i0 : i ≠ 0 := by decide) (hi : X.N[i]? = some x := by rfl) (hx : Loc X.env.scope x := by first | exact Or.inl rfl | exact Or.inr rfl) (hs : swapsWith e (some (.Name x pos')) pos.line X.env = pure false := by rfl) (hf : X.fn x = true ∨ X.env.scope.names.lookup x = some .local := by first | exact .inl rfl | exact .inr rfl | assumption) :
    PSD X W (.Assign [.Name x pos'] e pos) (dOwn i δ) := by
  obtain ⟨t, p, h⟩ := he
  exact ⟨_, ps_set hN hi hx p hs hf, sd_own h i i0⟩
theorem RelB.freeze {B : Bs} {σ : St} {H : Hp} {ρ : Env} {n : Nat} {G : Hp} {α : Nat → Addr} {Q : Hp → Prop} (R : RelB B σ H ρ n G α) {i : Nat} {d : D} (h : ρ[i]? = some (some (.own d))) (k : ∀ H1 G', RelB B σ H1 (ρ.set i (some (.val d))) n G' α → Le G G' → Q H1) : LkP Q H := by
  obtain ⟨e1, hg, h0, nr, o⟩ := R.own i d h
  refine DL.freeze R.le hg o fun H1 ob e2 off l1 l2 r => ?_
  have il : i < ρ.length := (List.getElem?_eq_some_iff.mp h).1
  refine k H1 (upd G (α i) ob) ⟨R.st.frozen h0 nr off l1 l2, fun a q => ?_, B.W.stable _ _ _ (fun b hb => off b fun z => nr (z ▸ hb)) (fun b e q => (off b fun z => o.noExt (z ▸ q)).trans q) R.J, by rw [List.length_set, R.len], fun j e hj => ?_, fun j e hj => ?_, fun j k e f hj hk => ?_, fun a e h h' => R.p0 a e h (set_val_own h')⟩ l2
  · rw [upd_ne (fun z : a = α i => nr (z ▸ q))]
    exact R.rg a q
  · rw [List.getElem?_set] at hj
    by_cases z : i = j
    · subst z
      rw [if_pos rfl, if_pos il] at hj
      injection hj with hj; injection hj with hj; injection hj with hj
      subst hj
      exact ⟨_, e1, r⟩
    · rw [if_neg z] at hj
      obtain ⟨v, h1, h2⟩ := R.val j e hj
      exact ⟨v, h1, h2.mono l2⟩
  · rw [List.getElem?_set] at hj
    by_cases z : i = j
    · subst z
      rw [if_pos rfl, if_pos il] at hj
      injection hj with hj; injection hj with hj; cases hj
    · rw [if_neg z] at hj
      obtain ⟨h1, h2, h3, h4, h5⟩ := R.own j e hj
      have ne : α j ≠ α i := fun q => z (R.inj i j d e h hj q.symm)
      exact ⟨h1, by rw [upd_ne ne]; exact h2, h3, h4, h5.mono l2 fun _ q => by rw [off _ ne]; exact q⟩
  · exact R.inj j k e f (set_val_own hj) (set_val_own hk)
theorem pss_frz (i : Nat) {sts : List Stmt} {a : DS} (h : PSsD X W sts a) : PSsD X W sts (dFrz i a) := by
  obtain ⟨t, p, h⟩ := h
  refine ⟨_, pss_lk p, fun B σ H ρ n G α D E hK R L hd => ?_⟩
  unfold dFrz at hd
  split at hd
  · rename_i d e
    exact R.freeze e fun H1 G' R' _ => h B σ H1 _ n G' α D E hK R' L hd
  · exact .inl (h B σ H ρ n G α D E hK R L hd)
end

/-! ### owned objects changed -/
/-- an owned object's content changes: all else stands -/
theorem RelB.write {B : Bs} {σ : St} {H : Hp} {ρ : Env} {n : Nat} {G : Hp} {α : Nat → Addr} (R : RelB B σ H ρ n G α) {i : Nat} {d d' : D} {o : HO} (h : ρ[i]? = some (some (.own d))) (ho : OwnAt B.K G (upd H (α i) o) (α i) d') :
    RelB B σ (upd H (α i) o) (ρ.set i (some (.own d'))) n G α := by
  obtain ⟨e1, hg, h0, nr, od⟩ := R.own i d h
  have il : i < ρ.length := (List.getElem?_eq_some_iff.mp h).1
  refine ⟨⟨fun a u e r => ?_, R.st.le, fun a u e => ?_, R.st.new⟩, R.rg, B.W.stable n H _ (fun a r => upd_ne (fun z => nr (z ▸ r))) (fun b e q => (upd_ne fun z => od.noExt (z ▸ q)).trans q) R.J, by rw [List.length_set, R.len], fun j e hj => ?_, fun j e hj => ?_, fun j k e f hj hk => ?_, fun b e hb h' => ?_⟩
  · rw [upd_ne (fun z => by rw [z, h0] at e; cases e)]
    exact R.st.fr a u e r
  · obtain ⟨o', e', c⟩ := R.le a u e
    exact ⟨o', by rw [upd_ne (fun z => by rw [z, hg] at e; cases e)]; exact e', c⟩
  · rw [List.getElem?_set] at hj
    by_cases z : i = j
    · subst z
      rw [if_pos rfl, if_pos il] at hj
      injection hj with hj; injection hj with hj; cases hj
    · rw [if_neg z] at hj
      exact R.val j e hj
  · rw [List.getElem?_set] at hj
    by_cases z : i = j
    · subst z
      rw [if_pos rfl, if_pos il] at hj
      injection hj with hj; injection hj with hj; injection hj with hj
      subst hj
      exact ⟨e1, hg, h0, nr, ho⟩
    · rw [if_neg z] at hj
      obtain ⟨h1, h2, h3, h4, h5⟩ := R.own j e hj
      exact ⟨h1, h2, h3, h4, h5.mono (Le.refl G) fun u q => by rw [upd_ne (fun z' => z (R.inj i j d e h hj z'.symm))]; exact q⟩
  · have go : ∀ {j : Nat} {e : D}, (ρ.set i (some (.own d')))[j]? = some (some (.own e)) → ∃ f, ρ[j]? = some (some (.own f)) := fun {j e} hj => by
      rw [List.getElem?_set] at hj
      by_cases z : i = j
      · subst z
        exact ⟨d, h⟩
      · rw [if_neg z] at hj
        exact ⟨e, hj⟩
    obtain ⟨e', hj'⟩ := go hj
    obtain ⟨f', hk'⟩ := go hk
    exact R.inj j k e' f' hj' hk'
  · rw [List.getElem?_set] at h'
    by_cases z : i = 0
    · subst z
      exact R.p0 b d hb h
    · rw [if_neg z] at h'
      exact R.p0 b e hb h'
def opt {α : Type} (o : Option α) (k : α → Prop) : Prop := match o with
  | some d => k d
  | none => False
/-- xs.append(e) -/
def dApp (i : Nat) (δ : DE) : DS := fun E ρ n => match ρ[i]? with
  | some (some (.own (.lst ds))) => δ (E.xx ρ) ρ n fun d n1 => ds.length < 16777216 ∧ E.nx (ρ.set i (some (.own (.lst (ds ++ [d]))))) n1
  | _ => False
/-- d[k] = v of an owned dict -/
def dPut (i : Nat) (δk δv : DE) : DS := fun E ρ n => match ρ[i]? with
  | some (some (.own (.dct kvs))) => δv (E.xx ρ) ρ n fun d n1 => δk (E.xx ρ) ρ n1 fun k n2 => opt (keyD k) fun j => kvs.length < 16777216 ∧ E.nx (ρ.set i (some (.own (.dct (putD kvs j d))))) n2
  | _ => False
/-- xs[j] = v of an owned list -/
def dSetIx (i : Nat) (δk δv : DE) : DS := fun E ρ n => match ρ[i]? with
  | some (some (.own (.lst ds))) => δv (E.xx ρ) ρ n fun d n1 => δk (E.xx ρ) ρ n1 fun k n2 => (match k with
    | .int z => opt (ixN ds.length z) fun j => E.nx (ρ.set i (some (.own (.lst (ds.set j d))))) n2
    | _ => False)
  | _ => False
/-- o.f = e of an owned object -/
def dFldSet (i : Nat) (c f : Str) (δ : DE) : DS := fun E ρ n => match ρ[i]? with
  | some (some (.own (.obj c' fs))) => c' = c ∧ fs.length < 1000 ∧ δ (E.xx ρ) ρ n fun d n1 => E.nx (ρ.set i (some (.own (.obj c (setF f d fs))))) n1
  | _ => False
theorem opt_some {α : Type} {o : Option α} {k : α → Prop} (h : opt o k) : ∃ a, o = some a ∧ k a := by
  cases o with
  | none => exact h.elim
  | some a => exact ⟨a, rfl, h⟩
section
variable {X : Cx} {W : WX} {e k : Expr} {δ δk δv : DE} {pos pos' apos cpos : Pos} {x : Str}
theorem ps_appD (i : Nat) (he : PD X W e δ) (hN : X.N[i]? = some x := by rfl) (hv : Vis X.env.scope x := by first | exact Or.inl rfl | exact Or.inr (Or.inl rfl) | exact Or.inr (Or.inr rfl)) (hd : (x == ("__debug__" : Str)) = false := by decide)
    (hcd : (x == ("__classdict__" : Str)) = false := by decide) (hst : starEach [e] X.env = [(false, eval e X.env)] := by rfl)
    (hbase : attributeBase (.Name x pos') "append" X.env (eval (.Name x pos') X.env) = eval (.Name x pos') X.env := by rfl)
    (hfew : ((backTo cpos (starEach [e] X.env)).all (fun x => !x.1) && (backToKw cpos (keywordEach [] X.env)).all (fun x => x.1.isSome)
      && decide ([e].length + ([] : List Keyword).length + (if ([] : List Keyword).isEmpty then 0 else 1) < 30)) = true := by rfl)
    (hline : (apos.endLine == cpos.line) = true := by rfl) (hplain : (backTo cpos (starEach [] X.env)).any (·.1) = false := by rfl)
    (hsw : swapsWith (.Call (.Attribute (.Name x pos') "append" apos) [e] [] cpos) none pos.line X.env = pure false := by rfl) : PSD X W (.Expr (.Call (.Attribute (.Name x pos') "append" apos) [e] [] cpos) pos) (dApp i δ) := by
  obtain ⟨t, p, h⟩ := he
  refine ⟨_, ps_expr (pe_bm PySem.F.plainAttrs_list PySem.F.slot_list_append PySem.F.type_list_append mt_append (pe_var hN hv hd hcd) (pa_cons p pa_nil hst) hbase hfew hline hst hplain) hsw, fun B σ H ρ n G α D E hK R L hd => ?_⟩
  unfold dApp at hd
  split at hd
  · rename_i ds eo
    obtain ⟨e1, hg, h0, nr, vs, hH, rl⟩ := R.own i _ eo
    refine ⟨_, e1, .inl ⟨rfl, _, SqL.of hH⟩, ?_⟩
    refine h B σ H ρ n G α _ _ _ hK R (L.xl R) hd fun v H' G' d n' s j r hq => ?_
    have R' := R.step s j
    obtain ⟨_, hg', _, _, vs', hH', rl'⟩ := R'.own i _ eo
    refine ⟨α i, vs', v, rfl, rfl, hH', by rw [sizeLine_eq, ← rl'.length]; exact hq.1, ?_⟩
    exact L.nx σ _ _ n' G' α (R'.write (d' := .lst (ds ++ [d])) (o := .lst (vs' ++ [v])) eo ⟨_, upd_same, rl'.snoc (hK ▸ r)⟩) hq.2
  · exact hd.elim
theorem ps_putD (i : Nat) (hu : X.A.units + 1 < cLine) (hk : PB X W k δk) (he : PD X W e δv) (hN : X.N[i]? = some x := by rfl) (hv : Vis X.env.scope x := by first | exact Or.inl rfl | exact Or.inr (Or.inl rfl) | exact Or.inr (Or.inr rfl)) (hd : (x == ("__debug__" : Str)) = false := by decide)
    (hcd : (x == ("__classdict__" : Str)) = false := by decide) (hs : swapsWith e (some (.Subscript (.Name x pos') k apos)) pos.line X.env = pure false := by rfl) : PSD X W (.Assign [.Subscript (.Name x pos') k apos] e pos) (dPut i δk δv) := by
  obtain ⟨tk, pk, ek⟩ := hk
  obtain ⟨tv, pv, ev⟩ := he
  refine ⟨_, ps_dput hu (pe_var hN hv hd hcd) pk pv hs, fun B σ H ρ n G α D E hK R L hd => ?_⟩
  unfold dPut at hd
  split at hd
  · rename_i kvs eo
    refine ev B σ H ρ n G α _ _ _ hK R (L.xl R) hd fun v H1 G1 d n1 s1 j1 r1 h1 => ?_
    have R1 := R.step s1 j1
    refine ⟨_, (R1.own i _ eo).1, ?_⟩
    refine ek B σ H1 ρ n1 G1 α _ _ _ hK R1 (L.xl R1) h1 fun y H2 G2 dk n2 s2 j2 r2 h2 => ?_
    have R2 := R1.step s2 j2
    obtain ⟨z, ez, hz, h3⟩ := opt_some h2
    obtain ⟨_, hg, _, _, ws, hH, rk⟩ := R2.own i _ eo
    refine ⟨α i, _, rfl, .inl ⟨ws, z, hH, keyD_rep ez r2, by rw [sizeLine_eq, ← rk.length]; exact hz, rfl⟩, ?_⟩
    exact L.nx σ _ _ n2 G2 α (R2.write (d' := .dct (putD kvs z d)) (o := .dK (putK ws z v)) eo ⟨_, upd_same, rk.put (hK ▸ r1.mono s2.le)⟩) h3
  · exact hd.elim
theorem ps_setIxD (i : Nat) (hk : PB X W k δk) (he : PD X W e δv) (hN : X.N[i]? = some x := by rfl) (hv : Vis X.env.scope x := by first | exact Or.inl rfl | exact Or.inr (Or.inl rfl) | exact Or.inr (Or.inr rfl)) (hd : (x == ("__debug__" : Str)) = false := by decide)
    (hcd : (x == ("__classdict__" : Str)) = false := by decide) (ha : ∀ v, assign (.Subscript (.Name x pos') k apos) X.env v = (do
      let ov ← holding [v] (eval (.Name x pos') X.env)
      let iv ← holding [v, ov] (eval k X.env)
      standAt apos
      holding [v, ov, iv] (setItem ov iv v)
      release [v, ov, iv] []) := by intro _; rfl)
    (hs : swapsWithSole [.Subscript (.Name x pos') k apos] e pos.line X.env = pure false := by rfl) (hw : swappedStores [.Subscript (.Name x pos') k apos] e X.env = pure none := by rfl)
    (h1 : (assignEach [.Subscript (.Name x pos') k apos] X.env).map (·.2) = [assign (.Subscript (.Name x pos') k apos) X.env] := by rfl) : PSD X W (.Assign [.Subscript (.Name x pos') k apos] e pos) (dSetIx i δk δv) := by
  obtain ⟨tk, pk, ek⟩ := hk
  obtain ⟨tv, pv, ev⟩ := he
  refine ⟨_, ps_asg pv (pg_sub (pe_var hN hv hd hcd) pk set_list ha) hs hw h1, fun B σ H ρ n G α D E hK R L hd => ?_⟩
  unfold dSetIx at hd
  split at hd
  · rename_i ds eo
    refine ev B σ H ρ n G α _ _ _ hK R (L.xl R) hd fun v H1 G1 d n1 s1 j1 r1 h1 => ?_
    have R1 := R.step s1 j1
    refine ⟨_, (R1.own i _ eo).1, ?_⟩
    refine ek B σ H1 ρ n1 G1 α _ _ _ hK R1 (L.xl R1) h1 fun y H2 G2 dk n2 s2 j2 r2 h2 => ?_
    have R2 := R1.step s2 j2
    cases dk with
    | int z =>
      obtain ⟨j, ez, h3⟩ := opt_some h2
      obtain ⟨_, hg, _, _, vs, hH, rk⟩ := R2.own i _ eo
      refine ⟨α i, vs, z, j, rfl, r2.int, hH, by rw [← rk.length]; exact ez, ?_⟩
      exact L.nx σ _ _ n2 G2 α (R2.write (d' := .lst (ds.set j d)) (o := .lst (vs.set j v)) eo ⟨_, upd_same, RepL.set (hK ▸ r1.mono s2.le) j rk⟩) h3
    | _ => exact h2.elim
  · exact hd.elim
theorem ps_fldD (i : Nat) {c f : Str} (hc : Cls X.K (ca X.K c)) (hn : NoAttr X.K (ca X.K c) f) (he : PD X W e δv) (hN : X.N[i]? = some x := by rfl) (hv : Vis X.env.scope x := by first | exact Or.inl rfl | exact Or.inr (Or.inl rfl) | exact Or.inr (Or.inr rfl)) (hd : (x == ("__debug__" : Str)) = false := by decide)
    (hcd : (x == ("__classdict__" : Str)) = false := by decide) (hs : swapsWith e (some (.Attribute (.Name x pos') f apos)) pos.line X.env = pure false := by rfl) : PSD X W (.Assign [.Attribute (.Name x pos') f apos] e pos) (dFldSet i c f δv) := by
  obtain ⟨tv, pv, ev⟩ := he
  refine ⟨_, ps_fld (pe_var hN hv hd hcd) pv hs, fun B σ H ρ n G α D E hK R L hd => ?_⟩
  unfold dFldSet at hd
  split at hd
  · rename_i c' fs eo
    obtain ⟨hc', hl, hd⟩ := hd
    subst hc'
    refine ev B σ H ρ n G α _ _ _ hK R (L.xl R) hd fun v H1 G1 d n1 s1 j1 r1 h1 => ?_
    have R1 := R.step s1 j1
    obtain ⟨e1, hg, _, _, dx, ws, hH, rk⟩ := R1.own i _ eo
    refine ⟨_, e1, α i, _, dx, ws, rfl, hH, hK ▸ hc, hK ▸ hn, by rw [← rk.length]; exact hl, ?_⟩
    exact L.nx σ _ _ n1 G1 α (R1.write (d' := .obj c' (setF f d fs)) (o := .ins (ca B.K c') dx (putF f v ws)) eo ⟨dx, _, upd_same, rk.put (hK ▸ r1)⟩) h1
  · exact hd.elim
end

/-! ### targets -/
abbrev DG := D → Env → (Env → Prop) → Prop
def GD (K : PySem.W.Frag) (sl : List Nat) (g : TG) (γ : DG) : Prop :=
  ∀ (B : Bs) (σ : St) (H : Hp) (ρ : Env) (n : Nat) (G : Hp) (α : Nat → Addr) (v : V) (d : D) (Q : St → Hp → Prop) (q : Env → Prop), B.K = K → RelB B σ H ρ n G α → Rep K G d v → γ d ρ q →
    (∀ σ' ρ', RelB B σ' H ρ' n G α → (∀ j, j ∉ sl → σ'[j]? = σ[j]?) → σ'.length = σ.length → q ρ' → Q σ' H) → g v σ H Q
def PGD (X : Cx) (sl : List Nat) (tg : Expr) (γ : DG) : Prop := ∃ g, PG X tg g ∧ GD X.K sl g γ
abbrev DGs := List D → Env → (Env → Prop) → Prop
def GDs (K : PySem.W.Frag) (sl : List Nat) (g : TGs) (γ : DGs) : Prop :=
  ∀ (B : Bs) (σ : St) (H : Hp) (ρ : Env) (n : Nat) (G : Hp) (α : Nat → Addr) (vs : List V) (ds : List D) (Q : St → Hp → Prop) (q : Env → Prop), B.K = K → RelB B σ H ρ n G α → RepL K G ds vs → γ ds ρ q →
    (∀ σ' ρ', RelB B σ' H ρ' n G α → (∀ j, j ∉ sl → σ'[j]? = σ[j]?) → σ'.length = σ.length → q ρ' → Q σ' H) → g vs σ H Q
def PGsD (X : Cx) (sl : List Nat) (tg : List Expr) (γ : DGs) : Prop := ∃ g, PGs X tg g ∧ GDs X.K sl g γ
def gN (i : Nat) : DG := fun d ρ q => q (ρ.set i (some (.val d)))
def gs0 : DGs := fun ds ρ q => ds = [] ∧ q ρ
def gsC (a : DG) (b : DGs) : DGs := fun ds ρ q => match ds with
  | d :: r => a d ρ fun ρ1 => b r ρ1 q
  | [] => False
def gT (a : DGs) : DG := fun d ρ q => match d with
  | .tup ds => a ds ρ q
  | _ => False
section
variable {X : Cx} {pos : Pos} {x : Str}
theorem pgd_name (i : Nat) (hN : X.N.Nodup) (hi : X.N[i]? = some x := by rfl) (hx : Loc X.env.scope x := by first | exact Or.inl rfl | exact Or.inr rfl) (hf : X.fn x = true ∨ X.env.scope.names.lookup x = some .local := by first | exact .inl rfl | exact .inr rfl | assumption) : PGD X [i] (.Name x pos) (gN i) := by
  refine ⟨_, pg_name hN hi hx hf, fun B σ H ρ n G α v d Q q hK R r h k => ?_⟩
  exact k _ _ (R.set i (hK ▸ r)) (fun j hj => by rw [List.getElem?_set, if_neg (fun z => hj (by rw [z]; exact List.mem_singleton_self _))]) (by rw [List.length_set]) h
theorem pgsd_nil : PGsD X [] [] gs0 := by
  refine ⟨_, pgs_nil, fun B σ H ρ n G α vs ds Q q hK R r h k => ?_⟩
  obtain ⟨e, h⟩ := h
  subst e
  cases r
  exact ⟨rfl, k σ ρ R (fun _ _ => rfl) rfl h⟩
theorem pgsd_cons {e : Expr} {es : List Expr} {a : DG} {b : DGs} {sl sl' : List Nat} (h : PGD X sl e a) (h2 : PGsD X sl' es b)
    (hs : (assignEach (e :: es) X.env).map (·.2) = assign e X.env :: (assignEach es X.env).map (·.2) := by rfl) : PGsD X (sl ++ sl') (e :: es) (gsC a b) := by
  obtain ⟨g, p, h⟩ := h
  obtain ⟨g', p', h'⟩ := h2
  refine ⟨_, pgs_cons p p' hs, fun B σ H ρ n G α vs ds Q q hK R r hd k => ?_⟩
  cases r with
  | nil => exact hd.elim
  | cons r t =>
    refine ⟨_, _, rfl, h B σ H ρ n G α _ _ _ _ hK R r hd fun σ1 ρ1 R1 f1 l1 h1 => ?_⟩
    refine h' B σ1 H ρ1 n G α _ _ _ _ hK R1 t h1 fun σ2 ρ2 R2 f2 l2 h2 => ?_
    exact k σ2 ρ2 R2 (fun j hj => by rw [f2 j (fun z => hj (List.mem_append_right _ z)), f1 j (fun z => hj (List.mem_append_left _ z))]) (l2.trans l1) h2
theorem gsC_len {a : DG} {b : DGs} {ds : List D} {ρ : Env} {q : Env → Prop} (h : gsC a b ds ρ q) : ds ≠ [] := by
  cases ds with
  | nil => exact h.elim
  | cons d r => exact List.cons_ne_nil _ _
def gTn (m : Nat) (a : DGs) : DG := fun d ρ q => match d with
  | .tup ds => ds.length = m ∧ a ds ρ q
  | _ => False
theorem pgd_tup {es : List Expr} {k m : Nat} {a : DGs} {sl : List Nat} (hc : X.calm = true) (h : PGsD X sl es a) (hn : (assignEach es X.env).length = m := by rfl) (hst : (assignEach es X.env).findIdx? (·.1) = none := by rfl) : PGD X sl (.Tuple es k pos) (gTn m a) := by
  obtain ⟨g, p, h⟩ := h
  refine ⟨_, pg_tup hc p hn hst, fun B σ H ρ n G α v d Q q hK R r hd k => ?_⟩
  cases d with
  | tup ds =>
    cases r with
    | tup e r =>
      exact ⟨_, _, rfl, R.le.sqT e, by rw [← r.length]; exact hd.1, h B σ H ρ n G α _ _ _ _ hK R r hd.2 k⟩
  | _ => exact hd.elim
end
end DL

end

/-! DL6 -/
section
set_option autoImplicit false
/-! DL6: what is walked; for, while, list comprehensions. -/
namespace DL
open PySem PySem.Spec L2

/-- while G (or more) stands, the iterator gives the data ds, one by one -/
structure WalkD (K : PySem.W.Frag) (J : It) (G : Hp) (ds : List D) : Prop where
  goes : ∀ i H G', i < ds.length → Le G G' → Le G' H → J.go i H
  stops : ∀ H G', Le G G' → Le G' H → J.stop ds.length H
  yields : ∀ i H G' x H', i < ds.length → Le G G' → Le G' H → J.yld i H x H' → ∃ d G'', ds[i]? = some d ∧ StepP H G' H' G'' ∧ Rep K G'' d x
abbrev DI := DX → Env → Nat → (List D → Nat → Prop) → Prop
def EI (K : PySem.W.Frag) (W : WX) (wi : TI) (ι : DI) : Prop :=
  ∀ (B : Bs) (σ : St) (H : Hp) (ρ : Env) (n : Nat) (G : Hp) (α : Nat → Addr) (R : It → Hp → Prop) (x : DX) (q : List D → Nat → Prop), B.K = K → RelB B σ H ρ n G α → XL B W σ H G x → ι x ρ n q →
    (∀ J H' G' ds n', Step B.W H G H' G' → B.W.J n' H' → WalkD K J G' ds → q ds n' → R J H') → wi σ H R
def PID (X : Cx) (W : WX) (tg iter : Expr) (ι : DI) : Prop := ∃ wi, PI X tg iter wi ∧ EI X.K W wi ι

/-! ### the base moved up -/
theorem RelB.down {B : Bs} {σ : St} {H : Hp} {ρ : Env} {n : Nat} {G : Hp} {α : Nat → Addr} {G1 : Hp} (R : RelB { B with G0 := G1 } σ H ρ n G α) (le : Le B.G0 G1) (hn : ∀ a, G1 a ≠ none → B.G0 a ≠ none ∨ (B.H0 a = none ∧ ¬ B.W.rg a)) : RelB B σ H ρ n G α := by
  refine ⟨⟨R.st.fr, le.trans R.st.le, R.st.hh, fun a e => ?_⟩, R.rg, R.J, R.len, R.val, R.own, R.inj, R.p0⟩
  rcases R.st.new a e with z | z
  · exact hn a z
  · exact .inr z
theorem RelB.up {B : Bs} {σ : St} {H : Hp} {ρ : Env} {n : Nat} {G : Hp} {α : Nat → Addr} {G1 : Hp} (R : RelB B σ H ρ n G α) (le : Le G1 G) (l0 : Le B.G0 G1) : RelB { B with G0 := G1 } σ H ρ n G α := by
  refine ⟨⟨R.st.fr, le, R.st.hh, fun a e => ?_⟩, R.rg, R.J, R.len, R.val, R.own, R.inj, R.p0⟩
  rcases R.st.new a e with z | z
  · refine .inl ?_
    cases q : B.G0 a with
    | none => exact (z q).elim
    | some o =>
      obtain ⟨o', e', _⟩ := l0 a o q
      show G1 a ≠ none
      rw [e']
      exact fun z => nomatch z
  · exact .inr z
theorem Lk.up {B : Bs} {W : WX} {D : Ends} {E : DEnds} {G1 : Hp} (L : Lk B W D E) (le : Le B.G0 G1) (hn : ∀ a, G1 a ≠ none → B.G0 a ≠ none ∨ (B.H0 a = none ∧ ¬ B.W.rg a)) : Lk { B with G0 := G1 } W D E := by
  refine ⟨fun σ H ρ n G α R => L.nx σ H ρ n G α (R.down le hn), fun v H d n G s => L.rt v H d n G ⟨s.fr, le.trans s.le, s.hh, fun a e => ?_⟩, fun σ H ρ n G α R => L.bk σ H ρ n G α (R.down le hn), fun σ H ρ n G α R => L.ct σ H ρ n G α (R.down le hn), fun c dd σ H ρ n G α e R => L.ex c dd σ H ρ n G α e (R.down le hn), L.w, fun a H d n G s => L.ro a H d n G ⟨s.fr, le.trans s.le, s.hh, fun a e => ?_⟩⟩
  · rcases s.new a e with z | z
    · exact hn a z
    · exact .inr z
  · rcases s.new a e with z | z
    · exact hn a z
    · exact .inr z

/-! ### for -/
def forD (γ : DG) (b : DS) : List D → DS
  | [] => fun E ρ n => E.nx ρ n
  | d :: ds => fun E ρ n => γ d ρ fun ρ1 => b { E with nx := forD γ b ds E, ct := forD γ b ds E, bk := E.nx } ρ1 n
def dFor (ι : DI) (γ : DG) (b : DS) : DS := fun E ρ n => ι (E.xx ρ) ρ n fun ds n1 => forD γ b ds E ρ n1
theorem sd_for {K : PySem.W.Frag} {W : WX} {wi : TI} {g : TG} {tb : TS} {ι : DI} {γ : DG} {b : DS} {sl : List Nat} (hi : EI K W wi ι) (hg : GD K sl g γ) (hb : SD K W tb b) : SD K W (tFor wi g tb) (dFor ι γ b) := by
  intro B σ H ρ n G α D E hK R L hd
  refine hi B σ H ρ n G α _ _ _ hK R (L.xl R) hd fun J H1 G1 ds n1 s1 j1 wk h1 => ?_
  have R1 := R.step s1 j1
  have l0 : Le B.G0 G1 := R1.st.le
  have hn := R1.st.new
  have L1 := L.up l0 hn
  refine ⟨fun i m σ H => m = ds.length - i ∧ i ≤ ds.length ∧ ∃ ρ n G α, RelB { B with G0 := G1 } σ H ρ n G α ∧ forD γ b (ds.drop i) E ρ n, ⟨ds.length, by simp, Nat.zero_le _, ρ, n1, G1, α, R1.up (Le.refl G1) l0, by simpa using h1⟩, ?_⟩
  rintro i m σ2 H2 ⟨rfl, hil, ρ2, n2, G2, α2, R2, h2⟩
  by_cases hlt : i < ds.length
  · refine .inr ⟨wk.goes i H2 G2 hlt R2.st.le R2.le, fun σ' H' => ∃ ρ n G α, RelB { B with G0 := G1 } σ' H' ρ n G α ∧ forD γ b (ds.drop (i + 1)) E ρ n, fun σ' H' p => ⟨ds.length - (i + 1), by omega, rfl, hlt, p⟩, fun x H' y => ?_⟩
    obtain ⟨d, G3, ed, s3, r3⟩ := wk.yields i H2 G2 x H' hlt R2.st.le R2.le y
    have ed' : ds.drop i = d :: ds.drop (i + 1) := by
      rw [List.drop_eq_getElem_cons hlt]
      have : ds[i] = d := by
        rw [List.getElem?_eq_getElem hlt] at ed
        exact Option.some.inj ed
      rw [this]
    rw [ed'] at h2
    have R3 := R2.step (s3.step R2.J) (s3.J R2.J)
    refine hg { B with G0 := G1 } σ2 H' ρ2 n2 G3 α2 x d _ _ hK R3 r3 h2 fun σ4 ρ4 R4 _ _ h4 => ?_
    exact hb { B with G0 := G1 } σ4 H' ρ4 n2 G3 α2 _ { E with nx := forD γ b (ds.drop (i + 1)) E, ct := forD γ b (ds.drop (i + 1)) E, bk := E.nx } hK R4 ⟨fun σ H ρ n G α R h => ⟨ρ, n, G, α, R, h⟩, L1.rt, L1.nx, fun σ H ρ n G α R h => ⟨ρ, n, G, α, R, h⟩, L1.ex, L1.w, L1.ro⟩ h4
  · have e : i = ds.length := by omega
    subst e
    refine .inl ⟨wk.stops H2 G2 R2.st.le R2.le, ?_⟩
    rw [List.drop_length] at h2
    exact L1.nx σ2 H2 ρ2 n2 G2 α2 R2 h2
section
variable {X : Cx} {W : WX} {tg iter c : Expr} {body : List Stmt} {pos : Pos} {ι : DI} {γ : DG} {b : DS} {τ : DT} {sl : List Nat}
theorem ps_forD (hp : PassesOwn (model X.prog X.w) X.A X.env X.xe) (hc : X.calm = true) (hi : PID X W tg iter ι) (hg : PGD X sl tg γ) (hb : PSsD X W body b)
    (hs : ∀ x, foldedSetIterable iter X.env x = pure x := by intro _; rfl) : PSD X W (.For tg iter body [] pos) (dFor ι γ b) := by
  obtain ⟨wi, pi, ei⟩ := hi
  obtain ⟨g, pg, eg⟩ := hg
  obtain ⟨tb, pb, eb⟩ := hb
  exact ⟨_, ps_for hp hc pi pg pb hs, sd_for ei eg eb⟩

/-! ### while -/
def whileD (τ : DT) (b : DS) : Nat → DS
  | 0 => fun _ _ _ => False
  | k + 1 => fun E ρ n => τ (E.xx ρ) ρ n fun c n1 => if c = true then b { E with nx := whileD τ b k E, ct := whileD τ b k E, bk := E.nx } ρ n1 else E.nx ρ n1
def dWhile (τ : DT) (b : DS) : DS := fun E ρ n => ∃ k, whileD τ b k E ρ n
theorem ps_whileD (hp : PassesOwn (model X.prog X.w) X.A X.env X.xe) (hc : PTD X W c τ) (hb : PSsD X W body b) : PSD X W (.While c body [] pos) (dWhile τ b) := by
  obtain ⟨t, p, e⟩ := hc
  obtain ⟨tb, pb, eb⟩ := hb
  refine ⟨_, ps_while hp p pb, fun B σ H ρ n G α D E hK R L hd => ?_⟩
  obtain ⟨k, hd⟩ := hd
  refine ⟨fun m σ H => ∃ ρ n G α, RelB B σ H ρ n G α ∧ whileD τ b m E ρ n, ⟨k, ρ, n, G, α, R, hd⟩, ?_⟩
  rintro m σ1 H1 ⟨ρ1, n1, G1, α1, R1, h1⟩
  cases m with
  | zero => exact h1.elim
  | succ k =>
    refine e B σ1 H1 ρ1 n1 G1 α1 _ _ _ hK R1 (L.xl R1) h1 fun c H2 G2 n2 s2 j2 h2 => ?_
    have R2 := R1.step s2 j2
    cases c with
    | true =>
      rw [if_pos rfl] at h2 ⊢
      refine ⟨fun σ H => ∃ ρ n G α, RelB B σ H ρ n G α ∧ whileD τ b k E ρ n, fun σ' H' p => ⟨k, Nat.lt_succ_self _, p⟩, ?_⟩
      exact eb B σ1 H2 ρ1 n2 G2 α1 _ { E with nx := whileD τ b k E, ct := whileD τ b k E, bk := E.nx } hK R2 ⟨fun σ H ρ n G α R h => ⟨ρ, n, G, α, R, h⟩, L.rt, L.nx, fun σ H ρ n G α R h => ⟨ρ, n, G, α, R, h⟩, L.ex, L.w, L.ro⟩ h2
    | false =>
      rw [if_neg Bool.false_ne_true] at h2 ⊢
      exact L.nx σ1 H2 ρ1 n2 G2 α1 R2 h2
end

/-! ### list comprehensions -/
def wipeD (ρ : Env) : List Nat → Env
  | [] => ρ
  | v :: vs => (wipeD ρ vs).set v none
theorem wipe_get (σ : St) (j : Nat) : ∀ vs : List Nat, (wipe σ vs)[j]? = if j ∈ vs then (if j < σ.length then some none else none) else σ[j]?
  | [] => by simp [wipe]
  | v :: vs => by
    unfold wipe
    rw [List.getElem?_set, wipe_length, wipe_get σ j vs]
    by_cases e : v = j
    · subst e
      simp
    · have e' : ¬ j = v := fun z => e z.symm
      simp [e, e']
theorem wipeD_length (ρ : Env) : ∀ vs : List Nat, (wipeD ρ vs).length = ρ.length
  | [] => rfl
  | v :: vs => by unfold wipeD; rw [List.length_set, wipeD_length ρ vs]
theorem wipeD_some {ρ : Env} {i : Nat} {x : Sl} : ∀ {vs : List Nat}, (wipeD ρ vs)[i]? = some (some x) → ρ[i]? = some (some x) ∧ i ∉ vs
  | [], h => ⟨h, by simp⟩
  | v :: vs, h => by
    unfold wipeD at h
    rw [List.getElem?_set] at h
    by_cases e : v = i
    · rw [if_pos e] at h
      split at h
      · injection h with h; cases h
      · cases h
    · rw [if_neg e] at h
      obtain ⟨h1, h2⟩ := wipeD_some h
      exact ⟨h1, fun z => (List.mem_cons.mp z).elim (fun q => e q.symm) h2⟩
theorem RelB.wipe {B : Bs} {σ : St} {H : Hp} {ρ : Env} {n : Nat} {G : Hp} {α : Nat → Addr} (R : RelB B σ H ρ n G α) (vs : List Nat) : RelB B (L2.wipe σ vs) H (wipeD ρ vs) n G α := by
  refine ⟨R.st, R.rg, R.J, by rw [wipe_length, wipeD_length, R.len], fun i d h => ?_, fun i d h => ?_, fun i j d e h h' => R.inj i j d e (wipeD_some h).1 (wipeD_some h').1, fun a d h h' => R.p0 a d h (wipeD_some h').1⟩
  · obtain ⟨h1, h2⟩ := wipeD_some h
    obtain ⟨v, e, r⟩ := R.val i d h1
    exact ⟨v, by rw [wipe_out h2]; exact e, r⟩
  · obtain ⟨h1, h2⟩ := wipeD_some h
    obtain ⟨e, r⟩ := R.own i d h1
    exact ⟨by rw [wipe_out h2]; exact e, r⟩
abbrev x0 (w : Wd) : DX := ⟨fun _ _ => False, w⟩
abbrev W0 : WX := fun _ _ _ _ => False
def lcD (w : Wd) (γ : DG) (tt : DT) (te : DE) : List D → Env → Nat → List D → (List D → Nat → Prop) → Prop
  | [], _, n, acc, q => q acc n
  | d :: ds, ρ, n, acc, q => γ d ρ fun ρ1 => tt (x0 w) ρ1 n fun b n1 => if b = true then te (x0 w) ρ1 n1 fun y n2 => acc.length < 16777216 ∧ lcD w γ tt te ds ρ n2 (acc ++ [y]) q else lcD w γ tt te ds ρ n1 acc q
def dLc (ι : DI) (γ : DG) (tt : DT) (te : DE) (vs : List Nat) : DE := fun x ρ n q => ι x ρ n fun ds n1 => lcD x.w γ tt te ds (wipeD ρ vs) n1 [] fun es n2 => q (.lst es) n2
theorem xl0 {B : Bs} {W : WX} {σ : St} {H G : Hp} : XL B W σ H G (x0 B.W) := ⟨rfl, fun _ _ _ _ _ _ _ _ _ h => h.elim⟩
theorem Step.keepD {W : Wd} {H G H' G' : Hp} (s : Step W H G H' G') {a : Addr} {o : HO} (h : H a = some o) (g : G a = none) : G' a = none := by
  cases e : G' a with
  | none => rfl
  | some u =>
    rcases s.new a (by rw [e]; exact fun z => nomatch z) with z | ⟨z, _⟩
    · exact (z g).elim
    · rw [h] at z; cases z
theorem Step.updD {W : Wd} {H G H' G' : Hp} (s : Step W H G H' G') {a : Addr} {o : HO} (h : H a = none) (g : G' a = none) : Step W H G (upd H' a o) G' := by
  refine ⟨fun b u e r => by rw [upd_ne (ne_of_none e h)]; exact s.fr b u e r, s.le, fun b u e => ?_, s.new⟩
  obtain ⟨o', e', c⟩ := s.hh b u e
  exact ⟨o', by rw [upd_ne (ne_of_none e g)]; exact e', c⟩
theorem ef_lc {K : PySem.W.Frag} {W : WX} {wi : TI} {g : TG} {tt : TT} {te : TE} {vs : List Nat} {ι : DI} {γ : DG} {τ : DT} {δ : DE} {sl : List Nat} (hsl : ∀ i ∈ sl, i ∈ vs) (hi : EI K W wi ι) (hg : GD K sl g γ) (ht : ET K W0 tt τ) (he : ED K W0 te δ) : EF K W (tLc wi g tt te vs) (dLc ι γ τ δ vs) := by
  intro B σ H ρ n G α Q x q hK R hx hd k
  refine hi B σ H ρ n G α _ x _ hK R hx hd fun J H1 G1 ds n1 s1 j1 wk h1 => ?_
  have R1 := R.step s1 j1
  intro D hD
  have nr : ¬ B.W.rg D := fun r => B.W.there n1 H1 D j1 r hD
  have g1 : G1 D = none := by
    cases q : G1 D with
    | none => rfl
    | some u =>
      obtain ⟨o', e', _⟩ := s1.hh D u q
      rw [hD] at e'; cases e'
  have h0 : H D = none := by
    cases e : H D with
    | none => rfl
    | some o => rw [s1.fr D o e nr] at hD; cases hD
  have s0 := StepP.laid (o := .lst []) s1.hh hD
  refine ⟨fun i m H => m = ds.length - i ∧ i ≤ ds.length ∧ ∃ n G acc us, Step B.W H1 G1 H G ∧ B.W.J n H ∧ H D = some (.lst us) ∧ G D = none ∧ RepL K G acc us ∧ lcD B.W γ τ δ (ds.drop i) (wipeD ρ vs) n acc fun es n2 => q (.lst es) n2,
    ⟨ds.length, by simp, Nat.zero_le _, n1, G1, [], [], s0.step j1, s0.J j1, upd_same, g1, .nil, by rw [hx.1] at h1; simpa using h1⟩, ?_⟩
  rintro i m H2 ⟨rfl, hil, n2, G2, acc, us, s2, j2, hD2, gD2, ra, h2⟩
  by_cases hlt : i < ds.length
  · refine .inr ⟨wk.goes i H2 G2 hlt s2.le s2.hh, fun H' => ∃ n G acc us, Step B.W H1 G1 H' G ∧ B.W.J n H' ∧ H' D = some (.lst us) ∧ G D = none ∧ RepL K G acc us ∧ lcD B.W γ τ δ (ds.drop (i + 1)) (wipeD ρ vs) n acc fun es n2 => q (.lst es) n2, fun H' p => ⟨ds.length - (i + 1), by omega, rfl, hlt, p⟩, fun y H' yl => ?_⟩
    obtain ⟨d, G3, ed, s3, r3⟩ := wk.yields i H2 G2 y H' hlt s2.le s2.hh yl
    have ed' : ds.drop i = d :: ds.drop (i + 1) := by
      rw [List.drop_eq_getElem_cons hlt]
      have : ds[i] = d := by
        rw [List.getElem?_eq_getElem hlt] at ed
        exact Option.some.inj ed
      rw [this]
    rw [ed'] at h2
    have t3 := s3.step j2
    have R3 := ((R1.step s2 j2).step t3 (s3.J j2)).wipe vs
    have hD3 := s3.fr D _ hD2
    have gD3 := t3.keepD hD2 gD2
    refine hg B (wipe σ vs) H' (wipeD ρ vs) n2 G3 α y d _ _ hK R3 r3 h2 fun σ4 ρ4 R4 f4 l4 h4 => ⟨?_, ?_⟩
    · refine List.ext_getElem? fun j => ?_
      rw [wipe_get, wipe_get, l4, wipe_length]
      by_cases hj : j ∈ vs
      · rw [if_pos hj, if_pos hj]
      · rw [if_neg hj, if_neg hj, f4 j (fun z => hj (hsl j z)), wipe_out hj]
    · refine ht B σ4 H' ρ4 n2 G3 α _ (x0 B.W) _ hK R4 xl0 h4 fun b H5 G5 n5 s5 j5 h5 => ?_
      have hD5 := s5.fr D _ hD3 nr
      have gD5 := s5.keepD hD3 gD3
      cases b with
      | true =>
        rw [if_pos rfl] at h5 ⊢
        refine he B σ4 H5 ρ4 n5 G5 α _ (x0 B.W) _ hK (R4.step s5 j5) xl0 h5 fun v H6 G6 dy n6 s6 j6 r6 h6 => ?_
        have hD6 := s6.fr D _ hD5 nr
        have gD6 := s6.keepD hD5 gD5
        have t6 : Step B.W H1 G1 H6 G6 := s2.trans (t3.trans (s5.trans s6))
        have ra6 : RepL K G6 acc us := ra.mono ((t3.trans (s5.trans s6)).le)
        refine ⟨us, hD6, by rw [sizeLine_eq, ← ra6.length]; exact h6.1, n6, G6, acc ++ [dy], us ++ [v], t6.updD hD gD6, B.W.stable _ _ _ (fun a r => upd_ne (fun z : a = D => nr (z ▸ r))) (fun a e q => (upd_ne fun z : a = D => by rw [z, hD6] at q; cases q).trans q) j6, upd_same, gD6, ra6.snoc r6, h6.2⟩
      | false =>
        rw [if_neg Bool.false_ne_true] at h5 ⊢
        exact ⟨n5, G5, acc, us, s2.trans (t3.trans s5), j5, hD5, gD5, ra.mono ((t3.trans s5).le), h5⟩
  · have e : i = ds.length := by omega
    subst e
    refine .inl ⟨wk.stops H2 G2 s2.le s2.hh, ?_⟩
    rw [List.drop_length] at h2
    exact k D H2 G2 (.lst acc) n2 (s1.trans s2) j2 h0 gD2 nr ⟨us, hD2, ra⟩ h2
/-- a clause's tests -/
def PTsD (X : Cx) (ifs : List Expr) (τ : DT) : Prop := ∃ t, PTs X ifs t ∧ ET X.K W0 t τ
def dYes : DT := fun _ _ n q => q true n
section
variable {X : Cx} {W : WX}
theorem ptsD_nil : PTsD X [] dYes := ⟨_, pts_nil, fun B σ H ρ n G α Q x q hK R hx hd k => k true H G n (.refl _ R.le) R.J hd⟩
theorem ptsD_one {c : Expr} {τ : DT} (h : PTD X W0 c τ) : PTsD X [c] τ := by
  obtain ⟨t, p, e⟩ := h
  exact ⟨t, pts_one p, e⟩
/-- the parts of a comprehension's block: the same readings whatever the block's frame is -/
def PGB (X : Cx) (scope : Scope) (sl : List Nat) (tg : Expr) (γ : DG) : Prop := ∃ g, (∀ (s : Shared) (H : Hp) (C : Addr) (cl : List (Str × Addr)) (fp : List Addr), PG (X.blk s H scope (compEnvC scope cl C X.env) fp) tg g) ∧ GD X.K sl g γ
def PTB (X : Cx) (scope : Scope) (ifs : List Expr) (τ : DT) : Prop := ∃ t, (∀ (s : Shared) (H : Hp) (C : Addr) (cl : List (Str × Addr)) (fp : List Addr), PTs (X.blk s H scope (compEnvC scope cl C X.env) fp) ifs t) ∧ ET X.K W0 t τ
def PEB (X : Cx) (scope : Scope) (e : Expr) (δ : DE) : Prop := ∃ t, (∀ (s : Shared) (H : Hp) (C : Addr) (cl : List (Str × Addr)) (fp : List Addr), PE (X.blk s H scope (compEnvC scope cl C X.env) fp) e t) ∧ ED X.K W0 t δ
end
end DL

end

/-! DL7 -/
section
set_option autoImplicit false
/-! DL7: comprehensions as rules; what is walked: lists, tuples, ranges, enumerate, zip; locks. -/
namespace DL
open PySem PySem.Spec L2

/-! ### the reading that data give -/
def tOf (K : PySem.W.Frag) (W : WX) (δ : DE) : TE := fun σ H Q => ∃ (B : Bs) (ρ : Env) (n : Nat) (G : Hp) (α : Nat → Addr) (x : DX) (q : DQ), B.K = K ∧ RelB B σ H ρ n G α ∧ XL B W σ H G x ∧ δ x ρ n q ∧
  (∀ v H' G' d n', Step B.W H G H' G' → B.W.J n' H' → Rep K G' d v → q d n' → Q v H')
def tOfT (K : PySem.W.Frag) (W : WX) (δ : DT) : TT := fun σ H Q => ∃ (B : Bs) (ρ : Env) (n : Nat) (G : Hp) (α : Nat → Addr) (x : DX) (q : Bool → Nat → Prop), B.K = K ∧ RelB B σ H ρ n G α ∧ XL B W σ H G x ∧ δ x ρ n q ∧
  (∀ b H' G' n', Step B.W H G H' G' → B.W.J n' H' → q b n' → Q b H')
def gOf (K : PySem.W.Frag) (sl : List Nat) (γ : DG) : TG := fun v σ H Q => ∃ (B : Bs) (ρ : Env) (n : Nat) (G : Hp) (α : Nat → Addr) (d : D) (q : Env → Prop), B.K = K ∧ RelB B σ H ρ n G α ∧ Rep K G d v ∧ γ d ρ q ∧
  (∀ σ' ρ', RelB B σ' H ρ' n G α → (∀ j, j ∉ sl → σ'[j]? = σ[j]?) → σ'.length = σ.length → q ρ' → Q σ' H)
theorem ed_tOf {K : PySem.W.Frag} {W : WX} {δ : DE} : ED K W (tOf K W δ) δ := fun B σ H ρ n G α Q x q hK R hx hd k => ⟨B, ρ, n, G, α, x, q, hK, R, hx, hd, k⟩
theorem et_tOf {K : PySem.W.Frag} {W : WX} {δ : DT} : ET K W (tOfT K W δ) δ := fun B σ H ρ n G α Q x q hK R hx hd k => ⟨B, ρ, n, G, α, x, q, hK, R, hx, hd, k⟩
theorem gd_gOf {K : PySem.W.Frag} {sl : List Nat} {γ : DG} : GD K sl (gOf K sl γ) γ := fun B σ H ρ n G α v d Q q hK R r hd k => ⟨B, ρ, n, G, α, d, q, hK, R, r, hd, k⟩
section
variable {X : Cx} {W : WX}
theorem PD.pe {e : Expr} {δ : DE} (h : PD X W e δ) : PE X e (tOf X.K W δ) := by
  obtain ⟨t, p, h⟩ := h
  refine ⟨fun pins s σ H Q I hw => ?_⟩
  obtain ⟨B, ρ, n, G, α, x, q, hK, R, hx, hd, k⟩ := hw
  exact p.run pins s σ H Q I (h B σ H ρ n G α Q x q hK R hx hd k)
theorem PTD.pt {e : Expr} {δ : DT} (h : PTD X W e δ) : PT X e (tOfT X.K W δ) := by
  obtain ⟨t, p, h⟩ := h
  refine ⟨fun pins s σ H Q I hw => ?_⟩
  obtain ⟨B, ρ, n, G, α, x, q, hK, R, hx, hd, k⟩ := hw
  exact p.run pins s σ H Q I (h B σ H ρ n G α Q x q hK R hx hd k)
theorem PTsD.pts {e : List Expr} {δ : DT} (h : PTsD X e δ) : PTs X e (tOfT X.K W0 δ) := by
  obtain ⟨t, p, h⟩ := h
  refine ⟨fun pins s σ H Q I hw => ?_⟩
  obtain ⟨B, ρ, n, G, α, x, q, hK, R, hx, hd, k⟩ := hw
  exact p.run pins s σ H Q I (h B σ H ρ n G α Q x q hK R hx hd k)
theorem PGD.pg {tg : Expr} {sl : List Nat} {γ : DG} (h : PGD X sl tg γ) : PG X tg (gOf X.K sl γ) := by
  obtain ⟨g, p, h⟩ := h
  refine ⟨fun pins s σ H v u Q I r hw => ?_⟩
  obtain ⟨B, ρ, n, G, α, d, q, hK, R, rd, hd, k⟩ := hw
  exact p.run pins s σ H v u Q I r (h B σ H ρ n G α v d Q q hK R rd hd k)
variable {elt tg iter : Expr} {ifs : List Expr} {scope : Scope} {own : List (Str × Nat)} {pos spos py : Pos} {ι : DI} {γ : DG} {τ : DT} {δ : DE} {sl : List Nat} {y : Str}
/-- [elt for tg in iter if ..] -/
theorem pf_lc (own : List (Str × Nat)) (hc : X.calm = true) (hN : X.N.Nodup) (hi : PID X W tg iter ι) (ok : BlkOk X.N X.env.scope scope own)
    (hg : ∀ (s : Shared) (H : Hp) (C : Addr) (cl : List (Str × Addr)) (fp : List Addr), PGD (X.blk s H scope (compEnvC scope cl C X.env) fp) sl tg γ)
    (ht : ∀ (s : Shared) (H : Hp) (C : Addr) (cl : List (Str × Addr)) (fp : List Addr), PTsD (X.blk s H scope (compEnvC scope cl C X.env) fp) ifs τ)
    (he : ∀ (s : Shared) (H : Hp) (C : Addr) (cl : List (Str × Addr)) (fp : List Addr), PD (X.blk s H scope (compEnvC scope cl C X.env) fp) W0 elt δ) (hsl : ∀ i ∈ sl, i ∈ own.map (·.2) := by decide)
    (hs : ∀ x, foldedSetIterable iter X.env x = pure x := by intro _; rfl) : PF X W (.ListComp elt [⟨tg, iter, ifs, 0⟩] scope pos) (dLc ι γ τ δ (own.map (·.2))) := by
  obtain ⟨wi, pi, ei⟩ := hi
  exact ⟨_, pe_lc hc hN pi ok (fun s H C cl fp => (hg s H C cl fp).pg) (fun s H C cl fp => (ht s H C cl fp).pts) (fun s H C cl fp => (he s H C cl fp).pe) hs, ef_lc hsl ei gd_gOf et_tOf ed_tOf⟩
theorem EF.ed {K : PySem.W.Frag} {t : TE} {δ : DE} (h : EF K W t δ) (hl : ∀ x ρ n q, δ x ρ n q → δ x ρ n fun d n => (∀ kvs, d ≠ .dct kvs) ∧ q d n) : ED K W t δ := by
  refine fun B σ H ρ n G α Q x q hK R hx hd k => h B σ H ρ n G α Q x _ hK R hx (hl _ _ _ _ hd) fun a H' G' d n' s j np ng nr o hq => ?_
  obtain ⟨ob, e, l1, l2, r⟩ := DL.freezeL s.hh ng o hq.1
  exact k _ H' (upd G' a ob) d n' (s.frozen np nr (fun _ _ => rfl) l1 l2) j r hq.2
theorem dLc_lst {ι : DI} {γ : DG} {tt : DT} {te : DE} {vs : List Nat} (x : DX) (ρ : Env) (n : Nat) (q : DQ) (h : dLc ι γ tt te vs x ρ n q) : dLc ι γ tt te vs x ρ n fun d n => (∀ kvs, d ≠ .dct kvs) ∧ q d n := by
  have e : (fun (es : List D) (n2 : Nat) => (∀ kvs, D.lst es ≠ .dct kvs) ∧ q (.lst es) n2) = fun es n2 => q (.lst es) n2 := by
    funext es n2
    exact propext (and_iff_right fun _ z => nomatch z)
  unfold dLc at h ⊢
  rw [e]
  exact h
/-- y = [..] on one line -/
theorem ps_setLcD (i : Nat) (own : List (Str × Nat)) (hc : X.calm = true) (hN : X.N.Nodup) (hi : PID X W tg iter ι) (ok : BlkOk X.N X.env.scope scope own)
    (hg : ∀ (s : Shared) (H : Hp) (C : Addr) (cl : List (Str × Addr)) (fp : List Addr), PGD (X.blk s H scope (compEnvC scope cl C X.env) fp) sl tg γ)
    (ht : ∀ (s : Shared) (H : Hp) (C : Addr) (cl : List (Str × Addr)) (fp : List Addr), PTsD (X.blk s H scope (compEnvC scope cl C X.env) fp) ifs τ)
    (he : ∀ (s : Shared) (H : Hp) (C : Addr) (cl : List (Str × Addr)) (fp : List Addr), PD (X.blk s H scope (compEnvC scope cl C X.env) fp) W0 elt δ) (hsl : ∀ i ∈ sl, i ∈ own.map (·.2) := by decide)
    (hy : X.N[i]? = some y := by rfl) (hyl : X.env.scope.names.lookup y = some .local := by rfl)
    (hsw : swapsWith (.ListComp elt [⟨tg, iter, ifs, 0⟩] scope pos) (some (.Name y py)) spos.line X.env = pure true := by exact sw_true rfl rfl rfl (by decide +kernel))
    (hs : ∀ x, foldedSetIterable iter X.env x = pure x := by intro _; rfl) : PSD X W (.Assign [.Name y py] (.ListComp elt [⟨tg, iter, ifs, 0⟩] scope pos) spos) (dSet i (dLc ι γ τ δ (own.map (·.2)))) := by
  obtain ⟨wi, pi, ei⟩ := hi
  exact ⟨_, ps_setLc hc hN hy hyl hsw pi ok (fun s H C cl fp => (hg s H C cl fp).pg) (fun s H C cl fp => (ht s H C cl fp).pts) (fun s H C cl fp => (he s H C cl fp).pe) hs, sd_set ((ef_lc hsl ei gd_gOf et_tOf ed_tOf).ed dLc_lst) i⟩
theorem ps_ownLcD (i : Nat) (own : List (Str × Nat)) (i0 : i ≠ 0) (hc : X.calm = true) (hN : X.N.Nodup) (hi : PID X W tg iter ι) (ok : BlkOk X.N X.env.scope scope own)
    (hg : ∀ (s : Shared) (H : Hp) (C : Addr) (cl : List (Str × Addr)) (fp : List Addr), PGD (X.blk s H scope (compEnvC scope cl C X.env) fp) sl tg γ)
    (ht : ∀ (s : Shared) (H : Hp) (C : Addr) (cl : List (Str × Addr)) (fp : List Addr), PTsD (X.blk s H scope (compEnvC scope cl C X.env) fp) ifs τ)
    (he : ∀ (s : Shared) (H : Hp) (C : Addr) (cl : List (Str × Addr)) (fp : List Addr), PD (X.blk s H scope (compEnvC scope cl C X.env) fp) W0 elt δ) (hsl : ∀ i ∈ sl, i ∈ own.map (·.2) := by decide)
    (hy : X.N[i]? = some y := by rfl) (hyl : X.env.scope.names.lookup y = some .local := by rfl)
    (hsw : swapsWith (.ListComp elt [⟨tg, iter, ifs, 0⟩] scope pos) (some (.Name y py)) spos.line X.env = pure true := by exact sw_true rfl rfl rfl (by decide +kernel))
    (hs : ∀ x, foldedSetIterable iter X.env x = pure x := by intro _; rfl) : PSD X W (.Assign [.Name y py] (.ListComp elt [⟨tg, iter, ifs, 0⟩] scope pos) spos) (dOwn i (dLc ι γ τ δ (own.map (·.2)))) := by
  obtain ⟨wi, pi, ei⟩ := hi
  exact ⟨_, ps_setLc hc hN hy hyl hsw pi ok (fun s H C cl fp => (hg s H C cl fp).pg) (fun s H C cl fp => (ht s H C cl fp).pts) (fun s H C cl fp => (he s H C cl fp).pe) hs, sd_own (ef_lc hsl ei gd_gOf et_tOf ed_tOf) i i0⟩
end

/-! ### what is walked -/
def iSeq (K : PySem.W.Frag) (tl : TE) : TI := fun σ H R => tl σ H fun x H1 => ∃ a, x = .ref a ∧ (((∃ xs, SqL K H1 a xs) ∧ R (Itl K a) H1) ∨ ((∃ xs, SqT K H1 a xs) ∧ R (Itt K a) H1))
theorem pi_seq {X : Cx} {tg l : Expr} {tl : TE} (hl : PE X l tl) : PI X tg l (iSeq X.K tl) := by
  refine ⟨fun pins s σ H R I h => ?_⟩
  refine thn (hl.run pins s σ H _ I h) fun v s1 ⟨x, H1, I1, r1, q1⟩ => ?_
  obtain ⟨a, e, q1⟩ := q1
  subst e
  cases r1
  rcases q1 with ⟨⟨xs, hq⟩, q⟩ | ⟨⟨xs, hq⟩, q⟩
  · obtain ⟨its, rv, p, hz⟩ := I1.list hq
    refine wpAny_pyIter_list p.isList ?_
    refine ⟨s1.heap.objs.size, [s1.heap.objs.size], _, _, H1, rfl, I1.kept (t' := s1.toks) fun b o e => Heap.get?_push_of_some _ e, turn_list a _, ⟨_, Heap.get?_push_size _ rfl, rfl, rfl⟩, fun b hb => ?_, q⟩
    have e : b = s1.heap.objs.size := by simpa using hb
    subst e
    exact I1.fpOk (Nat.le_refl _) (I1.hok.fresh (Nat.le_refl _))
  · obtain ⟨its, rv, p, hz⟩ := I1.tuple hq
    refine wpAny_pyIter_tuple (show s1.heap.IsTuple a its.toArray from p) ?_
    refine ⟨s1.heap.objs.size, [s1.heap.objs.size], _, _, H1, rfl, I1.kept (t' := s1.toks) fun b o e => Heap.get?_push_of_some _ e, turn_tuple a _, ⟨_, Heap.get?_push_size _ rfl, rfl, rfl⟩, fun b hb => ?_, q⟩
    have e : b = s1.heap.objs.size := by simpa using hb
    subst e
    exact I1.fpOk (Nat.le_refl _) (I1.hok.fresh (Nat.le_refl _))
section
variable {K : PySem.W.Frag}
theorem walkD_list {G : Hp} {a : Addr} {vs : List V} {ds : List D} (e : G a = some (.lst vs)) (r : RepL K G ds vs) : WalkD K (Itl K a) G ds := by
  have w := walk_list (K := K) (a := a) (xs := vs)
  have hl := r.length
  refine ⟨fun i H G' hi l1 l2 => w.goes i H (by omega) (SqL.of (l2.get (l1.get e))), fun H G' l1 l2 => by rw [hl]; exact w.stops H (SqL.of (l2.get (l1.get e))), fun i H G' x H' hi l1 l2 y => ?_⟩
  obtain ⟨e1, e2⟩ := w.yields i H x H' (by omega) (SqL.of (l2.get (l1.get e))) y
  subst e1
  obtain ⟨d, h1, h2⟩ := r.getV e2
  exact ⟨d, G', h1, .refl l2, h2.mono l1⟩
theorem walkD_tup {G : Hp} {a : Addr} {vs : List V} {ds : List D} (e : SqT K G a vs) (r : RepL K G ds vs) : WalkD K (Itt K a) G ds := by
  have w := walk_tup (K := K) (a := a) (xs := vs)
  have hl := r.length
  refine ⟨fun i H G' hi l1 l2 => w.goes i H (by omega) (l2.sqT (l1.sqT e)), fun H G' l1 l2 => by rw [hl]; exact w.stops H (l2.sqT (l1.sqT e)), fun i H G' x H' hi l1 l2 y => ?_⟩
  obtain ⟨e1, e2⟩ := w.yields i H x H' (by omega) (l2.sqT (l1.sqT e)) y
  subst e1
  obtain ⟨d, h1, h2⟩ := r.getV e2
  exact ⟨d, G', h1, .refl l2, h2.mono l1⟩
def rngD (lo : Int) (n : Nat) : List D := (List.range n).map fun (i : Nat) => D.int (lo + (i : Int))
def rngC (lo c : Int) (n : Nat) : List D := (List.range n).map fun (i : Nat) => D.int (lo + (i : Int) * c)
theorem walkD_range {G : Hp} (lo : Int) (n : Nat) : WalkD K (Itr lo n) G (rngD lo n) := by
  have w := walk_range (lo := lo) (n := n)
  have hl : (rngD lo n).length = n := by simp [rngD]
  refine ⟨fun i H G' hi l1 l2 => w.goes i H (by omega) trivial, fun H G' l1 l2 => by rw [hl]; exact w.stops H trivial, fun i H G' x H' hi l1 l2 y => ?_⟩
  obtain ⟨e1, e2⟩ := w.yields i H x H' (by omega) trivial y
  subst e1
  subst e2
  exact ⟨.int (lo + i), G', by simp [rngD, show i < n by omega], .refl l2, .int _⟩
theorem walkD_rangeC {G : Hp} (lo c : Int) (n : Nat) : WalkD K (Itc lo c n) G (rngC lo c n) := by
  have w := walk_rangeC (lo := lo) (c := c) (n := n)
  have hl : (rngC lo c n).length = n := by simp [rngC]
  refine ⟨fun i H G' hi l1 l2 => w.goes i H (by omega) trivial, fun H G' l1 l2 => by rw [hl]; exact w.stops H trivial, fun i H G' x H' hi l1 l2 y => ?_⟩
  obtain ⟨e1, e2⟩ := w.yields i H x H' (by omega) trivial y
  subst e1
  subst e2
  exact ⟨.int (lo + (i : Int) * c), G', by simp [rngC, show i < n by omega], .refl l2, .int _⟩
end
def iSq (δ : DE) : DI := fun x ρ n q => δ x ρ n fun d n1 => opt (seqD d) fun ds => q ds n1
def iR1 (a : DA) : DI := fun x ρ n q => a x ρ n fun ds n1 => match ds with
  | [.int j] => (-(2 ^ 62) ≤ j ∧ j < 2 ^ 62) ∧ q (rngD 0 j.toNat) n1
  | _ => False
def iR2 (a : DA) : DI := fun x ρ n q => a x ρ n fun ds n1 => match ds with
  | [.int i, .int j] => (-(2 ^ 62) ≤ i ∧ i < 2 ^ 62 ∧ -(2 ^ 62) ≤ j ∧ j < 2 ^ 62) ∧ q (rngD i (j - i).toNat) n1
  | _ => False
/-- range(i, j, -1) -/
def iR3 (a : DA) : DI := fun x ρ n q => a x ρ n fun ds n1 => match ds with
  | [.int i, .int j, .int c] => c = -1 ∧ (-(2 ^ 62) ≤ i ∧ i < 2 ^ 62 ∧ -(2 ^ 62) ≤ j ∧ j < 2 ^ 62) ∧ q (rngC i (-1) (i - j).toNat) n1
  | _ => False
section
variable {X : Cx} {W : WX} {tg e a b c : Expr} {δ : DE} {α' : DA} {p pos : Pos}
theorem pid_seq (h : PD X W e δ) : PID X W tg e (iSq δ) := by
  obtain ⟨t, pe, h⟩ := h
  refine ⟨_, pi_seq pe, fun B σ H ρ n G α R x q hK RB hx hd k => ?_⟩
  refine h B σ H ρ n G α _ x _ hK RB hx hd fun v H1 G1 d n1 s1 j1 r1 h1 => ?_
  obtain ⟨ds, e1, h1⟩ := opt_some h1
  cases r1 with
  | lst e r =>
    cases e1
    exact ⟨_, rfl, .inl ⟨⟨_, SqL.of (s1.hh.get e)⟩, k _ H1 G1 ds n1 s1 j1 (walkD_list e r) h1⟩⟩
  | tup e r =>
    cases e1
    exact ⟨_, rfl, .inr ⟨⟨_, s1.hh.sqT e⟩, k _ H1 G1 ds n1 s1 j1 (walkD_tup e r) h1⟩⟩
  | _ => exact nomatch e1
theorem pid_r1 (hg : Gl X "range") (hm : X.mg "range" = none) (ha : PAB X W [a] α') (hs : starEach [a] X.env = [(false, eval a X.env)] := by rfl) : PID X W tg (.Call (.Name "range" p) [a] [] pos) (iR1 α') := by
  obtain ⟨t, pa, h⟩ := ha
  refine ⟨_, pi_range1 hg hm pa hs, fun B σ H ρ n G α R x q hK RB hx hd k => ?_⟩
  refine h B σ H ρ n G α _ x _ hK RB hx hd fun vs H1 G1 ds n1 s1 j1 r1 h1 => ?_
  split at h1
  · rename_i j
    obtain ⟨v, rfl, r⟩ := r1.one
    exact ⟨j, by rw [r.int], h1.1.1, h1.1.2, k _ H1 G1 _ n1 s1 j1 (walkD_range 0 j.toNat) h1.2⟩
  · exact h1.elim
theorem pid_r2 (hg : Gl X "range") (hm : X.mg "range" = none) (ha : PAB X W [a, b] α') (hs : starEach [a, b] X.env = [(false, eval a X.env), (false, eval b X.env)] := by rfl) (hs2 : starEach [b] X.env = [(false, eval b X.env)] := by rfl) : PID X W tg (.Call (.Name "range" p) [a, b] [] pos) (iR2 α') := by
  obtain ⟨t, pa, h⟩ := ha
  refine ⟨_, pi_range2 hg hm pa hs hs2, fun B σ H ρ n G α R x q hK RB hx hd k => ?_⟩
  refine h B σ H ρ n G α _ x _ hK RB hx hd fun vs H1 G1 ds n1 s1 j1 r1 h1 => ?_
  split at h1
  · rename_i i j
    obtain ⟨v, u, rfl, r, r'⟩ := r1.two
    exact ⟨i, j, by rw [r.int, r'.int], h1.1, k _ H1 G1 _ n1 s1 j1 (walkD_range i (j - i).toNat) h1.2⟩
  · exact h1.elim
end
end DL

end

/-! DL8 -/
section
set_option autoImplicit false
/-! DL8: defs of the program: what they promise on data; calls, methods, instances made. -/
namespace DL
open PySem PySem.Spec L2

/-- what a def makes of data: world, arguments, count; what is wanted of the result; of an exception -/
abbrev DF := Wd → List D → Nat → DQ → (Xn → Nat → Prop) → Prop
def spW (K : PySem.W.Frag) (m : Nat) (F : DF) : Sp := fun vs H Q E => ∃ (W : Wd) (n : Nat) (G : Hp) (ds : List D) (q : DQ) (x : Xn → Nat → Prop), Le G H ∧ (∀ a, W.rg a → G a = none) ∧ W.J n H ∧ RepL K G ds vs ∧ ds.length = m ∧ F W ds n q x ∧
  (∀ v H' G' d n', Step W H G H' G' → W.J n' H' → Rep K G' d v → q d n' → Q v H') ∧
  (∀ c dd H' G' e n', Step W H G H' G' → W.J n' H' → XRep K G' H' e c dd → x e n' → E c dd H')
/-- an __init__: the fields behind it -/
abbrev DFI := Wd → List D → Nat → (List (Str × D) → Nat → Prop) → (Xn → Nat → Prop) → Prop
def but (H : Hp) (x : Addr) : Hp := fun a => if a = x then none else H a
theorem but_ne {H : Hp} {x a : Addr} (h : a ≠ x) : but H x a = H a := if_neg h
theorem but_same {H : Hp} {x : Addr} : but H x x = none := if_pos rfl
def spI (K : PySem.W.Frag) (c : Str) (m : Nat) (F : DFI) : Sp := fun vs H Q E => ∃ (W : Wd) (n : Nat) (G : Hp) (x dx : Addr) (us : List V) (ds : List D) (q : List (Str × D) → Nat → Prop) (xx : Xn → Nat → Prop),
  vs = .ref x :: us ∧ H x = some (.ins (ca K c) dx []) ∧ G x = none ∧ ¬ W.rg x ∧ Le G H ∧ (∀ a, W.rg a → G a = none) ∧ W.J n H ∧ RepL K G ds us ∧ ds.length + 1 = m ∧ F W ds n q xx ∧
  (∀ H' G' fs ws dy n', Step W (but H x) G H' G' → W.J n' H' → G' x = none → H' x = some (.ins (ca K c) dy ws) → RepF K G' fs ws → q fs n' → Q .non H') ∧
  (∀ cc dd H' G' e n', Step W (but H x) G H' G' → W.J n' H' → XRep K G' H' e cc dd → xx e n' → E cc dd H')

/-! ### calls with what is raised wished for at the slots -/
section
variable {X : Cx} {CX : CXT} {k : Nat} {f C : Addr} {fd : FuncData} {ps : List Str} {sp : Sp} {dvs : List V} {ds : List Value} {E : St → XK} {x m : Str} {p pos apos : Pos} {e o : Expr} {es : List Expr} {ta : TE} {t : TA}
theorem pe_callSD0 (F : FnOk X.prog X.w X.K X.mg X.base CX k f fd ps sp) (hr : Room k X.A) (hg : Gl X x) (hm : X.mg x = some (.ref f)) (hk : PySem.W.keepIn X.K (.ref f) = true) (hb : Binds X.K fd ps ds) (hd : Vals dvs ds) (hx : ∀ σ, PassesAt CX X σ (E σ))
    (hdb : (x == ("__debug__" : Str)) = false := by decide) : PE X (.Call (.Name x p) [] [] pos) (tCallSD sp dvs E tNil) := by
  refine ⟨fun pins s σ H Q I h => ?_⟩
  refine wpAny_Call_Name_kw (ld_glob I hg hm ?_ hdb)
  exact PySem.W.callWith_K0 I.kIn hk (run_fnSD (us := []) F hr hb hd (hx σ) I .nil h)
def tMethSD (C : Addr) (m : Str) (sp : Sp) (dvs : List V) (E : St → XK) (ta : TE) (t : TA) : TE := fun σ H Q => ta σ H fun x H1 => ∃ a dx fs, x = .ref a ∧ H1 a = some (.ins C dx fs) ∧ fs.lookup m = none ∧
  t σ H1 fun vs H2 => sp (x :: (vs ++ dvs)) H2 Q (E σ)
theorem pe_methSD {pl : Sem Bool} (he : PE X o ta) (c : Cls X.K C) (hm : Meth X.K C m f) (F : FnOk X.prog X.w X.K X.mg X.base CX k f fd ps sp) (hr : Room k X.A) (hb : Binds X.K fd ps ds) (hd : Vals dvs ds) (hx : ∀ σ, PassesAt CX X σ (E σ)) (ha : PA X (e :: es) t)
    (hst : starEach (e :: es) X.env = (false, eval e X.env) :: starEach es X.env := by rfl) (hpl : (backTo pos (starEach es X.env)).any (·.1) = false := by rfl)
    (ht : eval (.Call (.Attribute o m apos) (e :: es) [] pos) X.env = (do
      let ov ← eval o X.env
      standAt apos.atName
      let (f, first) ← holding [ov] (getMethod ov m pl)
      callWith pos f first (backTo pos (starEach (e :: es) X.env)) (backToKw pos (keywordEach [] X.env))) := by rfl) :
    PE X (.Call (.Attribute o m apos) (e :: es) [] pos) (tMethSD C m sp dvs E ta t) := by
  refine ⟨fun pins s σ H Q I h => ?_⟩
  refine PySem.W.methodCall_KW (pl := pl) (thn (he.run pins s σ H _ I h) fun u s1 ⟨x, H1, I1, rx, a, dx, fs, ex, ea, l, q⟩ => ?_) ht
  subst ex
  obtain rfl : u = Value.ref a := rx
  refine getmeth_ok I1 ea c hm l ?_
  refine PySem.W.callWith_K (first := [.ref a]) (h₀ := X.base) I.ok.mod.kin hm.kp (thn (ha.run pos pins s1 σ H1 _ I1 q) fun us s2 ⟨vs, H2, I2, r, q2⟩ => ⟨I2.kIn, ?_⟩) hst hpl
  exact run_fnSD (us := .ref a :: us) (vs := .ref a :: vs) F hr hb hd (hx σ) I2 (.cons rfl r) q2
theorem pe_methSD0 {pl : Sem Bool} (he : PE X o ta) (c : Cls X.K C) (hm : Meth X.K C m f) (F : FnOk X.prog X.w X.K X.mg X.base CX k f fd ps sp) (hr : Room k X.A) (hb : Binds X.K fd ps ds) (hd : Vals dvs ds) (hx : ∀ σ, PassesAt CX X σ (E σ))
    (ht : eval (.Call (.Attribute o m apos) [] [] pos) X.env = (do
      let ov ← eval o X.env
      standAt apos.atName
      let (f, first) ← holding [ov] (getMethod ov m pl)
      callWith pos f first (backTo pos (starEach [] X.env)) (backToKw pos (keywordEach [] X.env))) := by rfl) :
    PE X (.Call (.Attribute o m apos) [] [] pos) (tMethSD C m sp dvs E ta tNil) := by
  refine ⟨fun pins s σ H Q I h => ?_⟩
  refine PySem.W.methodCall_KW (pl := pl) (thn (he.run pins s σ H _ I h) fun u s1 ⟨x, H1, I1, rx, a, dx, fs, ex, ea, l, q⟩ => ?_) ht
  subst ex
  obtain rfl : u = Value.ref a := rx
  refine getmeth_ok I1 ea c hm l ?_
  exact PySem.W.callWith_K0 (first := [.ref a]) I1.kIn hm.kp (run_fnSD (us := [.ref a]) (vs := [.ref a]) F hr hb hd (hx σ) I1 (.cons rfl .nil) q)
def tMakeSD (C : Addr) (sp : Sp) (dvs : List V) (E : St → XK) (t : TA) : TE := fun σ H Q => t σ H fun vs H1 => ∀ x dx, H1 x = none → H1 dx = none → dx ≠ x →
  sp (.ref x :: (vs ++ dvs)) (upd (upd H1 dx (.own x)) x (.ins C dx [])) (fun v H2 => v = .non ∧ Q (.ref x) H2) (E σ)
theorem run_makeSD {pins : List (Addr × Obj)} {σ : St} {H : Hp} {s : Shared} {Q : VK} {us : List Value} {vs : List V} (M : Mk X.K C f) (F : FnOk X.prog X.w X.K X.mg X.base CX k f fd ps sp) (hr : Room (k + 1) X.A) (hb : Binds X.K fd ps ds) (hd : Vals dvs ds)
    (hx : PassesAt CX X σ (E σ)) (I : Inv X pins σ H s) (r : Vals vs us)
    (h : ∀ x dx, H x = none → H dx = none → dx ≠ x → sp (.ref x :: (vs ++ dvs)) (upd (upd H dx (.own x)) x (.ins C dx [])) (fun v H2 => v = .non ∧ Q (.ref x) H2) (E σ)) :
    wpAny (model X.prog X.w) X.A (call (.ref C) us) (EP X pins σ Q) X.xe s := by
  have hq := h (s.heap.objs.size + 1) s.heap.objs.size (I.hok.fresh (Nat.le_succ _)) (I.hok.fresh (Nat.le_refl _)) (Nat.ne_of_lt (Nat.lt_succ_self _))
  have I2 := Inv.made (C := C) I
  have r2 : Vals (V.ref (s.heap.objs.size + 1) :: (vs ++ dvs)) (Value.ref (s.heap.objs.size + 1) :: (us ++ ds)) := .cons rfl (r.append hd)
  have hl : (Value.ref (s.heap.objs.size + 1) :: us ++ ds).length = ps.length := by
    have e := r2.length
    rw [F.len _ _ _ _ hq] at e
    exact e.symm
  refine wpAny_call (make_map (f := f) I.kIn M.makes M.init (beq_iff_eq.mp M.fn) (codeAny_mono (F.run _ X.stack _ _ ⟨Value.ref (s.heap.objs.size + 1) :: us, []⟩ (Value.ref (s.heap.objs.size + 1) :: (us ++ ds)) _ _ (E σ) (hr.make C us [])
    (I2.env0.make C us []) (hb _ (Value.ref (s.heap.objs.size + 1) :: us) I2.kIn hl) r2 hq) fun r s' hq' => ?_))
  cases r with
  | error e => exact hx pins _ _ e s' I2 hq'
  | ok fl =>
    cases fl with
    | ret u =>
      obtain ⟨v, H', I3, rv, ev, q3⟩ := I2.after hq'
      subst ev
      exact ⟨rv, ⟨V.ref (s.heap.objs.size + 1), H', I3, rfl, q3⟩⟩
    | next => exact False.elim hq'
    | brk => exact False.elim hq'
    | cont => exact False.elim hq'
theorem pe_makeSD (M : Mk X.K C f) (F : FnOk X.prog X.w X.K X.mg X.base CX k f fd ps sp) (hr : Room (k + 1) X.A) (hg : Gl X x) (hm : X.mg x = some (.ref C)) (hb : Binds X.K fd ps ds) (hd : Vals dvs ds) (hx : ∀ σ, PassesAt CX X σ (E σ))
    (ha : PA X (e :: es) t) (hdb : (x == ("__debug__" : Str)) = false := by decide) (he : starEach (e :: es) X.env = (false, eval e X.env) :: starEach es X.env := by rfl) (hpl : (backTo pos (starEach es X.env)).any (·.1) = false := by rfl) :
    PE X (.Call (.Name x p) (e :: es) [] pos) (tMakeSD C sp dvs E t) := by
  refine ⟨fun pins s σ H Q I h => ?_⟩
  refine wpAny_Call_Name_kw (ld_glob I hg hm ?_ hdb)
  refine PySem.W.callWith_K (h₀ := X.base) I.ok.mod.kin M.kp (thn (ha.run pos pins s σ H _ I h) fun us s1 ⟨vs, H1, I1, r, q⟩ => ⟨I1.kIn, ?_⟩) he hpl
  exact run_makeSD M F hr hb hd (hx σ) I1 r q
end

/-! ### what stands under a name -/
structure Sg (P : Program) (w : World) (K : PySem.W.Frag) (mg : Str → Option Value) (base : Heap) (x : Str) (k m : Nat) (F : DF) (dvd : List D) : Prop where
  ex : ∃ (f : Addr) (fd : FuncData) (ps : List Str) (ds : List Value) (dvs : List V), FnOk P w K mg base (L2.CX P w) k f fd ps (spW K m F) ∧ mg x = some (.ref f) ∧ PySem.W.keepIn K (.ref f) = true ∧ Binds K fd ps ds ∧ Vals dvs ds ∧ ∀ G, RepL K G dvd dvs
structure Mg (P : Program) (w : World) (K : PySem.W.Frag) (mg : Str → Option Value) (base : Heap) (c x : Str) (k m : Nat) (F : DF) (dvd : List D) : Prop where
  cl : Cls K (ca K c)
  ex : ∃ (f : Addr) (fd : FuncData) (ps : List Str) (ds : List Value) (dvs : List V), FnOk P w K mg base (L2.CX P w) k f fd ps (spW K m F) ∧ Meth K (ca K c) x f ∧ Binds K fd ps ds ∧ Vals dvs ds ∧ ∀ G, RepL K G dvd dvs
structure Ig (P : Program) (w : World) (K : PySem.W.Frag) (mg : Str → Option Value) (base : Heap) (c : Str) (k m : Nat) (F : DFI) (dvd : List D) : Prop where
  gl : mg c = some (.ref (ca K c))
  ex : ∃ (f : Addr) (fd : FuncData) (ps : List Str) (ds : List Value) (dvs : List V), FnOk P w K mg base (L2.CX P w) k f fd ps (spI K c m F) ∧ Mk K (ca K c) f ∧ Binds K fd ps ds ∧ Vals dvs ds ∧ ∀ G, RepL K G dvd dvs
def dCall (m : Nat) (F : DF) (dvd : List D) (a : DA) : DE := fun x ρ n q => a x ρ n fun ds n1 => (ds ++ dvd).length = m ∧ F x.w (ds ++ dvd) n1 q x.ex
def dMeth (c y : Str) (m : Nat) (F : DF) (dvd : List D) (δ : DE) (a : DA) : DE := fun x ρ n q => δ x ρ n fun d n1 => match d with
  | .obj c' fs => c' = c ∧ fs.lookup y = none ∧ a x ρ n1 fun ds n2 => (ds ++ dvd).length + 1 = m ∧ F x.w (.obj c' fs :: (ds ++ dvd)) n2 q x.ex
  | _ => False
def dMake (c : Str) (m : Nat) (F : DFI) (dvd : List D) (a : DA) : DE := fun x ρ n q => a x ρ n fun ds n1 => (ds ++ dvd).length + 1 = m ∧ F x.w (ds ++ dvd) n1 (fun fs n2 => q (.obj c fs) n2) x.ex
section
variable {X : Cx} {W : WX} {k m : Nat} {F : DF} {FI : DFI} {dvd : List D} {x c y : Str} {p pos apos : Pos} {e o : Expr} {es : List Expr} {a : DA} {δ : DE}
theorem ed_call {K : PySem.W.Frag} {dvs : List V} {t : TA} (hd : ∀ G, RepL K G dvd dvs) (ha : EA K W t a) : ED K W (tCallSD (spW K m F) dvs (WE W) t) (dCall m F dvd a) := by
  intro B σ H ρ n G α Q x q hK R hx h k
  refine ha B σ H ρ n G α _ x _ hK R hx h fun vs H1 G1 ds n1 s1 j1 r1 h1 => ?_
  have R1 := R.step s1 j1
  have hx1 := hx.step s1
  obtain ⟨hl, h1⟩ := h1
  rw [hx.1] at h1
  exact ⟨B.W, n1, G1, ds ++ dvd, q, x.ex, s1.hh, R1.rg, j1, r1.append (hd G1), hl, h1, fun v H' G' d n' s j r hq => k v H' G' d n' (s1.trans s) j r hq, fun cc dd H' G' e n' s j r hq => hx1.2 cc dd H' G' e n' s j (hK ▸ r) hq⟩
theorem pd_call (S : Sg X.prog X.w X.K X.mg X.base x k m F dvd) (hr : Room k X.A) (tk : Takes X W) (hg : Gl X x) (ha : PAD X W (e :: es) a) (hdb : (x == ("__debug__" : Str)) = false := by decide)
    (he : starEach (e :: es) X.env = (false, eval e X.env) :: starEach es X.env := by rfl) (hpl : (backTo pos (starEach es X.env)).any (·.1) = false := by rfl) : PD X W (.Call (.Name x p) (e :: es) [] pos) (dCall m F dvd a) := by
  obtain ⟨t, pa, ea⟩ := ha
  obtain ⟨f, fd, ps, ds, dvs, hF, hm, hk, hb, hd, hdv⟩ := S.ex
  exact ⟨_, pe_callSD hF hr hg hm hk hb hd (fun σ => passAt tk σ) pa hdb he hpl, ed_call hdv ea⟩
theorem pd_call0 (S : Sg X.prog X.w X.K X.mg X.base x k m F dvd) (hr : Room k X.A) (tk : Takes X W) (hg : Gl X x) (hdb : (x == ("__debug__" : Str)) = false := by decide) : PD X W (.Call (.Name x p) [] [] pos) (dCall m F dvd dNil) := by
  obtain ⟨f, fd, ps, ds, dvs, hF, hm, hk, hb, hd, hdv⟩ := S.ex
  refine ⟨_, pe_callSD0 hF hr hg hm hk hb hd (fun σ => passAt tk σ) hdb, ed_call hdv ?_⟩
  exact fun B σ H ρ n G α Q x q hK R hx hd k => k [] H G [] n (.refl _ R.le) R.J .nil hd
theorem ed_meth {K : PySem.W.Frag} {dvs : List V} {to : TE} {t : TA} (hd : ∀ G, RepL K G dvd dvs) (ho : ED K W to δ) (ha : EA K W t a) : ED K W (tMethSD (ca K c) y (spW K m F) dvs (WE W) to t) (dMeth c y m F dvd δ a) := by
  intro B σ H ρ n G α Q x q hK R hx h k
  refine ho B σ H ρ n G α _ x _ hK R hx h fun v0 H0 G0 d0 n0 s0 j0 r0 h0 => ?_
  cases d0 with
  | obj c' fs =>
    obtain ⟨ec, el, h0⟩ := h0
    subst ec
    cases r0 with
    | obj e r =>
      refine ⟨_, _, _, rfl, s0.hh.get e, r.lookupN el, ?_⟩
      have R0 := R.step s0 j0
      refine ha B σ H0 ρ n0 G0 α _ x _ hK R0 (hx.step s0) h0 fun vs H1 G1 ds n1 s1 j1 r1 h1 => ?_
      have R1 := R0.step s1 j1
      have hx1 := (hx.step s0).step s1
      obtain ⟨hl, h1⟩ := h1
      rw [hx.1] at h1
      exact ⟨B.W, n1, G1, _ :: (ds ++ dvd), q, x.ex, s1.hh, R1.rg, j1, .cons (.obj (s1.le.get e) (r.mono s1.le)) (r1.append (hd G1)), hl, h1, fun v H' G' d n' s j r hq => k v H' G' d n' ((s0.trans s1).trans s) j r hq, fun cc dd H' G' e n' s j r hq => hx1.2 cc dd H' G' e n' s j (hK ▸ r) hq⟩
  | _ => exact h0.elim
theorem pd_meth {pl : Sem Bool} (S : Mg X.prog X.w X.K X.mg X.base c y k m F dvd) (hr : Room k X.A) (tk : Takes X W) (ho : PD X W o δ) (ha : PAD X W (e :: es) a)
    (hst : starEach (e :: es) X.env = (false, eval e X.env) :: starEach es X.env := by rfl) (hpl : (backTo pos (starEach es X.env)).any (·.1) = false := by rfl)
    (ht : eval (.Call (.Attribute o y apos) (e :: es) [] pos) X.env = (do
      let ov ← eval o X.env
      standAt apos.atName
      let (f, first) ← holding [ov] (getMethod ov y pl)
      callWith pos f first (backTo pos (starEach (e :: es) X.env)) (backToKw pos (keywordEach [] X.env))) := by rfl) : PD X W (.Call (.Attribute o y apos) (e :: es) [] pos) (dMeth c y m F dvd δ a) := by
  obtain ⟨t, pa, ea⟩ := ha
  obtain ⟨to, po, eo⟩ := ho
  obtain ⟨f, fd, ps, ds, dvs, hF, hm, hb, hd, hdv⟩ := S.ex
  exact ⟨_, pe_methSD po S.cl hm hF hr hb hd (fun σ => passAt tk σ) pa hst hpl ht, ed_meth hdv eo ea⟩
theorem pd_meth0 {pl : Sem Bool} (S : Mg X.prog X.w X.K X.mg X.base c y k m F dvd) (hr : Room k X.A) (tk : Takes X W) (ho : PD X W o δ)
    (ht : eval (.Call (.Attribute o y apos) [] [] pos) X.env = (do
      let ov ← eval o X.env
      standAt apos.atName
      let (f, first) ← holding [ov] (getMethod ov y pl)
      callWith pos f first (backTo pos (starEach [] X.env)) (backToKw pos (keywordEach [] X.env))) := by rfl) : PD X W (.Call (.Attribute o y apos) [] [] pos) (dMeth c y m F dvd δ dNil) := by
  obtain ⟨to, po, eo⟩ := ho
  obtain ⟨f, fd, ps, ds, dvs, hF, hm, hb, hd, hdv⟩ := S.ex
  refine ⟨_, pe_methSD0 po S.cl hm hF hr hb hd (fun σ => passAt tk σ) ht, ed_meth hdv eo ?_⟩
  exact fun B σ H ρ n G α Q x q hK R hx hd k => k [] H G [] n (.refl _ R.le) R.J .nil hd
theorem ed_make {K : PySem.W.Frag} {dvs : List V} {t : TA} (hd : ∀ G, RepL K G dvd dvs) (ha : EA K W t a) : ED K W (tMakeSD (ca K c) (spI K c m FI) dvs (WE W) t) (dMake c m FI dvd a) := by
  intro B σ H ρ n G α Q x q hK R hx h k
  refine ha B σ H ρ n G α _ x _ hK R hx h fun vs H1 G1 ds n1 s1 j1 r1 h1 => ?_
  have R1 := R.step s1 j1
  have hx1 := hx.step s1
  obtain ⟨hl, h1⟩ := h1
  rw [hx.1] at h1
  intro y dx ny ndx nxy
  have nr : ¬ B.W.rg y := fun r => B.W.there n1 H1 y j1 r ny
  have nrd : ¬ B.W.rg dx := fun r => B.W.there n1 H1 dx j1 r ndx
  have gy : G1 y = none := by
    cases q : G1 y with
    | none => rfl
    | some u => have := s1.hh.get q; rw [ny] at this; cases this
  have le2 : Le G1 (upd (upd H1 dx (.own y)) y (.ins (ca K c) dx [])) := .of_same fun a o e => by
    have := s1.hh.get e
    rw [upd_ne (ne_of_none this ny), upd_ne (ne_of_none this ndx)]
    exact this
  have j2 : B.W.J n1 (upd (upd H1 dx (.own y)) y (.ins (ca K c) dx [])) := B.W.stable _ _ _ (fun a r => by
    rw [upd_ne (fun z : a = y => nr (z ▸ r)), upd_ne (fun z : a = dx => nrd (z ▸ r))]) (fun a e q => by rw [upd_ne (ne_of_none q ny), upd_ne (ne_of_none q ndx)]; exact q) j1
  have old : ∀ b o, H1 b = some o → but (upd (upd H1 dx (.own y)) y (.ins (ca K c) dx [])) y b = some o := fun b o e => by
    rw [but_ne (ne_of_none e ny), upd_ne (ne_of_none e ny), upd_ne (ne_of_none e ndx)]
    exact e
  have stp : ∀ {H' G' : Hp}, Step B.W (but (upd (upd H1 dx (.own y)) y (.ins (ca K c) dx [])) y) G1 H' G' → Step B.W H1 G1 H' G' := fun {H' G'} s => by
    refine ⟨fun a o e r => s.fr a o (old a o e) r, s.le, s.hh, fun a e => ?_⟩
    rcases s.new a e with z | ⟨z, r⟩
    · exact .inl z
    · refine .inr ⟨?_, r⟩
      cases q : H1 a with
      | none => rfl
      | some o => rw [old a o q] at z; cases z
  refine ⟨B.W, n1, G1, y, dx, vs ++ dvs, ds ++ dvd, _, x.ex, rfl, upd_same, gy, nr, le2, R1.rg, j2, r1.append (hd G1), hl, h1, fun H' G' fs ws dy n' s j gy' hy rf hq => ⟨rfl, ?_⟩, fun cc dd H' G' e n' s j r hq => hx1.2 cc dd H' G' e n' (stp s) j (hK ▸ r) hq⟩
  have s' := stp s
  obtain ⟨ob, e, l1, l2, r⟩ := DL.freezeL (K := K) (d := .obj c fs) s'.hh gy' ⟨dy, ws, hy, rf⟩ (fun _ z => nomatch z)
  refine k _ H' (upd G' y ob) _ n' ⟨(s1.trans s').fr, (s1.trans s').le.trans l2, l1, fun b z => ?_⟩ j r hq
  by_cases q : b = y
  · subst q
    refine .inr ⟨?_, nr⟩
    cases q : H b with
    | none => rfl
    | some o => have := s1.fr b o q nr; rw [ny] at this; cases this
  · rw [upd_ne q] at z
    exact (s1.trans s').new b z
theorem pd_make (S : Ig X.prog X.w X.K X.mg X.base c k m FI dvd) (hr : Room (k + 1) X.A) (tk : Takes X W) (hg : Gl X c) (ha : PAD X W (e :: es) a) (hdb : (c == ("__debug__" : Str)) = false := by decide)
    (he : starEach (e :: es) X.env = (false, eval e X.env) :: starEach es X.env := by rfl) (hpl : (backTo pos (starEach es X.env)).any (·.1) = false := by rfl) : PD X W (.Call (.Name c p) (e :: es) [] pos) (dMake c m FI dvd a) := by
  obtain ⟨t, pa, ea⟩ := ha
  obtain ⟨f, fd, ps, ds, dvs, hF, hm, hb, hd, hdv⟩ := S.ex
  exact ⟨_, pe_makeSD hm hF hr hg S.gl hb hd (fun σ => passAt tk σ) pa hdb he hpl, ed_make hdv ea⟩
end

/-! ### a def keeps its promise -/
def startD (N : List Str) (ds : List D) : Env := ds.map (fun d => some (.val d)) ++ List.replicate (N.length - ds.length) none
theorem startD_val {N : List Str} {ds : List D} {i : Nat} {d : D} (h : (startD N ds)[i]? = some (some (.val d))) : ds[i]? = some d := by
  unfold startD at h
  rw [List.getElem?_append] at h
  split at h
  · rw [List.getElem?_map] at h
    cases e : ds[i]? with
    | none => rw [e] at h; cases h
    | some d' => rw [e] at h; simp at h; rw [h]
  · rw [List.getElem?_replicate] at h
    split at h <;> simp at h
theorem startD_own {N : List Str} {ds : List D} {i : Nat} {d : D} (h : (startD N ds)[i]? = some (some (.own d))) : False := by
  unfold startD at h
  rw [List.getElem?_append] at h
  split at h
  · rw [List.getElem?_map] at h
    cases e : ds[i]? with
    | none => rw [e] at h; cases h
    | some d' => rw [e] at h; simp at h
  · rw [List.getElem?_replicate] at h
    split at h <;> simp at h
theorem start_get {N : List Str} {vs : List V} {i : Nat} {v : V} (h : vs[i]? = some v) : (start N vs)[i]? = some (some v) := by
  unfold L2.start
  have hl : i < vs.length := (List.getElem?_eq_some_iff.mp h).1
  rw [List.getElem?_append_left (by simpa using hl), List.getElem?_map, h]
  rfl
theorem RelB.start {W : Wd} {K : PySem.W.Frag} {H G : Hp} {n : Nat} {N : List Str} {vs : List V} {ds : List D} (le : Le G H) (rg : ∀ a, W.rg a → G a = none) (j : W.J n H) (r : RepL K G ds vs) : RelB ⟨W, K, H, G, none⟩ (L2.start N vs) H (startD N ds) n G (fun _ => 0) := by
  refine ⟨.refl W le, rg, j, ?_, fun i d h => ?_, fun i d h => (startD_own h).elim, fun i j d e h _ => (startD_own h).elim, fun a d h h' => (startD_own h').elim⟩
  · unfold L2.start startD
    rw [List.length_append, List.length_append, List.length_map, List.length_map, List.length_replicate, List.length_replicate, r.length]
  · obtain ⟨v, h1, h2⟩ := r.get (startD_val h)
    exact ⟨v, start_get h1, h2⟩
def endsD (W : Wd) (q : DQ) (x : Xn → Nat → Prop) : DEnds := ⟨fun _ n => q .non n, q, fun _ _ => False, fun _ _ => False, fun e _ n => x e n, W, fun _ _ => False⟩
theorem ok_def {P : Program} {w : World} {K : PySem.W.Frag} {mg : Str → Option Value} {base : Heap} {x qual : Str} {params : Arguments} {body : List Stmt} {scope : Scope} {dvs : List V} {kws : List (Str × V)} {f : Addr} {fd : FuncData} {N ps : List Str} {k m : Nat} {F : DF}
    (FD : FunD K x qual params body scope dvs kws f fd) (S : FnScope N ps scope) (hm : ps.length = m)
    (hb : ∀ (X : Cx) (E : XK) (W : Wd) (ds : List D) (n : Nat) (q : DQ) (xx : Xn → Nat → Prop), (∃ cdv A outer s H, X = cxOf (L2.CX P w) P w K mg base N qual scope f cdv A outer s H E) → Room k X.A → Takes X (fun c d _ H => E c d H) → PassesOwn (model X.prog X.w) X.A X.env X.xe → ds.length = m → F W ds n q xx →
      ∃ δ, PSsD X (fun c d _ H => E c d H) body δ ∧ δ (endsD W q xx) (startD N ds) n) : FnOk P w K mg base (L2.CX P w) (k + 1) f fd ps (spW K m F) := by
  refine FD.ok S (fun vs H Q E h => ?_) (fun cdv A outer s H vs Q E hr h => ?_)
  · obtain ⟨W, n, G, ds, q, x, _, _, _, r, hl, _⟩ := h
    rw [← r.length, hl, hm]
  · obtain ⟨W, n, G, ds, q, xx, le, rg, j, r, hl, hF, kq, kx⟩ := h
    obtain ⟨δ, ⟨t, p, e⟩, hδ⟩ := hb (cxOf (L2.CX P w) P w K mg base N qual scope f cdv A outer s H E) E W ds n q xx ⟨cdv, A, outer, s, H, rfl⟩ hr (takes_of rfl rfl rfl rfl) (passes_of rfl) hl hF
    refine ⟨t, p, ?_⟩
    refine e ⟨W, K, H, G, none⟩ (L2.start N vs) H (startD N ds) n G _ _ _ rfl (RelB.start le rg j r) ?_ hδ
    exact ⟨fun σ H' ρ n' G' α R hq => kq _ H' G' .non n' R.st R.J .non hq, fun v H' d n' G' s j r hq => kq v H' G' d n' s j r hq, fun _ _ _ _ _ _ _ h => h.elim, fun _ _ _ _ _ _ _ h => h.elim, fun c dd σ H' ρ n' G' α e R r hq => kx c dd H' G' e n' R.st R.J r hq, rfl, fun _ _ _ _ _ _ _ _ _ _ _ h => h.elim⟩
/-- the slots of an __init__: self first -/
def startI (c : Str) (N : List Str) (ds : List D) : Env := some (.own (.obj c [])) :: (ds.map (fun d => some (.val d)) ++ List.replicate (N.length - (ds.length + 1)) none)
def qI (c : Str) (q : List (Str × D) → Nat → Prop) (ρ : DL.Env) (n : Nat) : Prop := match ρ[0]? with
  | some (some (Sl.own (.obj c' fs))) => c' = c ∧ q fs n
  | _ => False
def endsI (W : Wd) (c : Str) (q : List (Str × D) → Nat → Prop) (x : Xn → Nat → Prop) : DEnds := ⟨qI c q, fun _ _ => False, fun _ _ => False, fun _ _ => False, fun e _ n => x e n, W, fun _ _ => False⟩
theorem RelB.startI {W : Wd} {K : PySem.W.Frag} {H G : Hp} {n : Nat} {c : Str} {N : List Str} {us : List V} {ds : List D} {x dx : Addr} (hx : H x = some (.ins (ca K c) dx [])) (gx : G x = none) (nr : ¬ W.rg x) (le : Le G H) (rg : ∀ a, W.rg a → G a = none) (j : W.J n H) (r : RepL K G ds us) :
    RelB ⟨W, K, but H x, G, some x⟩ (L2.start N (.ref x :: us)) H (DL.startI c N ds) n G (fun _ => x) := by
  have s0 : ∀ i, (DL.startI c N ds)[i + 1]? = (startD (List.replicate (N.length - 1) Str.empty) ds)[i]? := fun i => by
    unfold DL.startI startD
    rw [List.getElem?_cons_succ, List.length_replicate, show N.length - (ds.length + 1) = N.length - 1 - ds.length by omega]
  refine ⟨⟨fun a o e _ => ?_, Le.refl G, le, fun a e => .inl e⟩, rg, j, ?_, fun i d h => ?_, fun i d h => ?_, fun i j d e h h' _ => ?_, fun a d h _ => Option.some.inj h⟩
  · have e : but H x a = some o := e
    by_cases z : a = x
    · rw [z, but_same] at e; cases e
    · rwa [but_ne z] at e
  · unfold L2.start DL.startI
    simp only [List.length_append, List.length_cons, List.length_map, List.length_replicate, ← r.length]
    omega
  · cases i with
    | zero => simp [DL.startI] at h
    | succ i =>
      rw [s0] at h
      obtain ⟨v, h1, h2⟩ := r.get (startD_val h)
      exact ⟨v, start_get (by rw [List.getElem?_cons_succ]; exact h1), h2⟩
  · cases i with
    | zero =>
      have e : d = .obj c [] := by simp [DL.startI] at h; exact h.symm
      subst e
      exact ⟨start_get rfl, gx, but_same, nr, dx, [], hx, .nil⟩
    | succ i =>
      rw [s0] at h
      exact (startD_own h).elim
  · cases i with
    | zero =>
      cases j with
      | zero => rfl
      | succ j => rw [s0] at h'; exact (startD_own h').elim
    | succ i => rw [s0] at h; exact (startD_own h).elim
theorem ok_init {P : Program} {w : World} {K : PySem.W.Frag} {mg : Str → Option Value} {base : Heap} {x qual c : Str} {params : Arguments} {body : List Stmt} {scope : Scope} {dvs : List V} {kws : List (Str × V)} {f : Addr} {fd : FuncData} {N ps : List Str} {k m : Nat} {F : DFI}
    (FD : FunD K x qual params body scope dvs kws f fd) (S : FnScope N ps scope) (hm : ps.length = m)
    (hb : ∀ (X : Cx) (E : XK) (W : Wd) (ds : List D) (n : Nat) (q : List (Str × D) → Nat → Prop) (xx : Xn → Nat → Prop), (∃ cdv A outer s H, X = cxOf (L2.CX P w) P w K mg base N qual scope f cdv A outer s H E) → Room k X.A → Takes X (fun c d _ H => E c d H) → PassesOwn (model X.prog X.w) X.A X.env X.xe → ds.length + 1 = m → F W ds n q xx →
      ∃ δ, PSsD X (fun c d _ H => E c d H) body δ ∧ δ (endsI W c q xx) (startI c N ds) n) : FnOk P w K mg base (L2.CX P w) (k + 1) f fd ps (spI K c m F) := by
  refine FD.ok S (fun vs H Q E h => ?_) (fun cdv A outer s H vs Q E hr h => ?_)
  · obtain ⟨W, n, G, x, dx, us, ds, q, xx, rfl, _, _, _, _, _, _, r, hl, _⟩ := h
    rw [List.length_cons, ← r.length, hl, hm]
  · obtain ⟨W, n, G, y, dx, us, ds, q, xx, rfl, hy, gy, nr, le, rg, j, r, hl, hF, kq, kx⟩ := h
    obtain ⟨δ, ⟨t, p, e⟩, hδ⟩ := hb (cxOf (L2.CX P w) P w K mg base N qual scope f cdv A outer s H E) E W ds n q xx ⟨cdv, A, outer, s, H, rfl⟩ hr (takes_of rfl rfl rfl rfl) (passes_of rfl) hl hF
    refine ⟨t, p, ?_⟩
    refine e ⟨W, K, but H y, G, some y⟩ (L2.start N (.ref y :: us)) H (startI c N ds) n G _ _ _ rfl (RelB.startI hy gy nr le rg j r) ?_ hδ
    refine ⟨fun σ H' ρ n' G' α R hq => ?_, fun v H' d n' G' s j r hq => hq.elim, fun _ _ _ _ _ _ _ h => h.elim, fun _ _ _ _ _ _ _ h => h.elim, fun c dd σ H' ρ n' G' α e R r hq => kx c dd H' G' e n' R.st R.J r hq, rfl, fun _ _ _ _ _ _ _ _ _ _ _ h => h.elim⟩
    have hq1 : qI c q ρ n' := hq
    unfold qI at hq1
    split at hq1
    · rename_i c' fs eo
      obtain ⟨ec, hq2⟩ := hq1
      subst ec
      have ea := R.p0 y _ rfl eo
      obtain ⟨_, g1, _, _, dx', ws, hH, rf⟩ := R.own 0 _ eo
      rw [ea] at g1 hH
      exact kq H' G' fs ws dx' n' R.st R.J g1 hH rf hq2
    · exact hq1.elim
end DL

end

/-! DL9 -/
section
set_option autoImplicit false
/-! DL9: isinstance, fields, truth, slices, dicts, two targets, chains, globals. -/
namespace DL
open PySem PySem.Spec L2

/-! ### fields -/
def dFld (cs : List Str) (f : Str) (δ : DE) : DE := fun x ρ n q => δ x ρ n fun d n1 => match d with
  | .obj c fs => c ∈ cs ∧ opt (fs.lookup f) fun v => q v n1
  | _ => False
section
variable {X : Cx} {W : WX} {a b c : Expr} {δ δa δb δc : DE} {pos p : Pos} {f x : Str}
theorem pd_fld (cs : List Str) (hc : ∀ c ∈ cs, Cls X.K (ca X.K c) ∧ NoAttr X.K (ca X.K c) f) (h : PB X W a δ) (hb : attributeBase a f X.env (eval a X.env) = eval a X.env := by rfl) : PD X W (.Attribute a f pos) (dFld cs f δ) := by
  obtain ⟨t, p, h⟩ := h
  refine ⟨_, pe_fld p hb, fun B σ H ρ n G α Q x q hK R hx hd k => ?_⟩
  refine h B σ H ρ n G α _ x _ hK R hx hd fun v H1 G1 d n1 s1 j1 r1 h1 => ?_
  cases d with
  | obj c fs =>
    obtain ⟨hm, h1⟩ := h1
    obtain ⟨d', e, h1⟩ := opt_some h1
    obtain ⟨a, dx, ws, e1, e2, rf⟩ := r1.obj s1.hh
    obtain ⟨u, l, r⟩ := rf.lookup e
    exact ⟨a, _, dx, ws, u, e1, e2, (hc c hm).1, (hc c hm).2, l, k u H1 G1 d' n1 s1 j1 r h1⟩
  | _ => exact h1.elim

/-! ### a module's own constants -/
theorem pd_globI {i : Int} (hg : Gl X x) (hm : ∃ t, X.mg x = some (.int i t)) (hd : (x == ("__debug__" : Str)) = false := by decide) : PD X W (.Name x pos) (dC (.int i)) := by
  obtain ⟨t, hm⟩ := hm
  exact pd_c (v := .int i) (pe_glob hg hm ⟨t, rfl⟩ hd) fun _ => .int i
theorem pd_globS {z : Str} (hg : Gl X x) (hm : ∃ t, X.mg x = some (.str z t)) (hd : (x == ("__debug__" : Str)) = false := by decide) : PD X W (.Name x pos) (dC (.str z)) := by
  obtain ⟨t, hm⟩ := hm
  exact pd_c (v := .str z) (pe_glob hg hm ⟨t, rfl⟩ hd) fun _ => .str z
theorem pd_globR {d : D} {r : Addr} (hg : Gl X x) (hm : X.mg x = some (.ref r)) (hr : ∀ G, Rep X.K G d (.ref r)) (hd : (x == ("__debug__" : Str)) = false := by decide) : PD X W (.Name x pos) (dC d) := pd_c (v := .ref r) (pe_glob hg hm rfl hd) hr

/-! ### -a, chains -/
def dNeg (δ : DE) : DE := fun x ρ n q => δ x ρ n fun d n1 => match d with
  | .int i => q (.int (-i)) n1
  | _ => False
theorem pd_neg (h : PB X W a δ) : PD X W (.UnaryOp .USub a pos) (dNeg δ) := by
  obtain ⟨t, p, h⟩ := h
  refine ⟨_, pe_un un_neg p, fun B σ H ρ n G α Q x q hK R hx hd k => ?_⟩
  refine h B σ H ρ n G α _ x _ hK R hx hd fun v H1 G1 d n1 s1 j1 r1 h1 => ?_
  cases d with
  | int i => exact ⟨i, r1.int, k _ H1 G1 _ n1 s1 j1 (.int _) h1⟩
  | _ => exact h1.elim
/-- a op b op' c on ints -/
def dChain (p p' : Int → Int → Bool) (a b c : DE) : DE := fun x ρ n q => a x ρ n fun u n1 => b x ρ n1 fun v n2 => match u, v with
  | .int i, .int j => if p i j = true then c x ρ n2 fun w n3 => (match w with
      | .int l => q (.bl (p' j l)) n3
      | _ => False) else q (.bl false) n2
  | _, _ => False
theorem ed_chain {K : PySem.W.Frag} {p p' : Int → Int → Bool} {ta tb tc : TE} (ha : EB K W ta δa) (hb : EB K W tb δb) (hc : EB K W tc δc) : ED K W (tChain (rI0 fun i j => .bl (p i j)) (rI0 fun i j => .bl (p' i j)) ta tb tc) (dChain p p' δa δb δc) := by
  intro B σ H ρ n G α Q x q hK R hx h k
  refine ha B σ H ρ n G α _ x _ hK R hx h fun v1 H1 G1 d1 n1 s1 j1 r1 h1 => ?_
  have R1 := R.step s1 j1
  refine hb B σ H1 ρ n1 G1 α _ x _ hK R1 (hx.step s1) h1 fun v2 H2 G2 d2 n2 s2 j2 r2 h2 => ?_
  have R2 := R1.step s2 j2
  cases d1 with
  | int i =>
    cases d2 with
    | int j =>
      refine ⟨i, j, r1.int, r2.int, _, rfl, ?_⟩
      have h2 : if p i j = true then δc x ρ n2 (fun w n3 => (match w with
        | .int l => q (.bl (p' j l)) n3
        | _ => False)) else q (.bl false) n2 := h2
      by_cases e : p i j = true
      · rw [if_pos e] at h2 ⊢
        refine hc B σ H2 ρ n2 G2 α _ x _ hK R2 ((hx.step s1).step s2) h2 fun v3 H3 G3 d3 n3 s3 j3 r3 h3 => ?_
        cases d3 with
        | int l => exact ⟨j, l, r2.int, r3.int, k _ H3 G3 _ n3 (s1.trans (s2.trans s3)) j3 (.bl _) h3⟩
        | _ => exact h3.elim
      · rw [if_neg e] at h2 ⊢
        exact k _ H2 G2 _ n2 (s1.trans s2) j2 (.bl false) h2
    | _ => exact h2.elim
  | _ => exact h2.elim
abbrev iLe (i j : Int) : Bool := decide (i ≤ j)
abbrev iLt (i j : Int) : Bool := decide (i < j)
theorem pd_leLt (ha : PB X W a δa) (hb : PB X W b δb) (hc : PB X W c δc) (hm : lastMarks [.LtE, .Lt] [b, c] = false := by with_unfolding_all rfl) : PD X W (.Compare a [.LtE, .Lt] [b, c] pos) (dChain iLe iLt δa δb δc) := by
  obtain ⟨ta, pa, ea⟩ := ha
  obtain ⟨tb, pb, eb⟩ := hb
  obtain ⟨tc, pc, ec⟩ := hc
  exact ⟨_, pe_chain op_le op_lt pa pb pc hm, ed_chain ea eb ec⟩
theorem pd_leLe (ha : PB X W a δa) (hb : PB X W b δb) (hc : PB X W c δc) (hm : lastMarks [.LtE, .LtE] [b, c] = false := by with_unfolding_all rfl) : PD X W (.Compare a [.LtE, .LtE] [b, c] pos) (dChain iLe iLe δa δb δc) := by
  obtain ⟨ta, pa, ea⟩ := ha
  obtain ⟨tb, pb, eb⟩ := hb
  obtain ⟨tc, pc, ec⟩ := hc
  exact ⟨_, pe_chain op_le op_le pa pb pc hm, ed_chain ea eb ec⟩
theorem pt_leLt (ha : PB X W a δa) (hb : PB X W b δb) (hc : PB X W c δc) (hm : lastMarks [.LtE, .Lt] [b, c] = false := by with_unfolding_all rfl) : PTD X W (.Compare a [.LtE, .Lt] [b, c] pos) (dTest (dChain iLe iLt δa δb δc)) := by
  obtain ⟨ta, pa, ea⟩ := ha
  obtain ⟨tb, pb, eb⟩ := hb
  obtain ⟨tc, pc, ec⟩ := hc
  exact ⟨_, pt_chain op_le op_lt pa pb pc hm, et_of (ed_chain ea eb ec).eb⟩
theorem pt_leLe (ha : PB X W a δa) (hb : PB X W b δb) (hc : PB X W c δc) (hm : lastMarks [.LtE, .LtE] [b, c] = false := by with_unfolding_all rfl) : PTD X W (.Compare a [.LtE, .LtE] [b, c] pos) (dTest (dChain iLe iLe δa δb δc)) := by
  obtain ⟨ta, pa, ea⟩ := ha
  obtain ⟨tb, pb, eb⟩ := hb
  obtain ⟨tc, pc, ec⟩ := hc
  exact ⟨_, pt_chain op_le op_le pa pb pc hm, et_of (ed_chain ea eb ec).eb⟩
end

/-! ### truth of what is no own object -/
def truD : D → Option Bool
  | .non => some false
  | .bl b => some b
  | .int i => some (i != 0)
  | .lst ds => some (!ds.isEmpty)
  | .tup ds => some (!ds.isEmpty)
  | .dct kvs => some (!kvs.isEmpty)
  | _ => none
def dTru (δ : DE) : DT := fun x ρ n q => δ x ρ n fun d n1 => opt (truD d) fun b => q b n1
theorem RepL.isEmpty {K : PySem.W.Frag} {G : Hp} {ds : List D} {vs : List V} (r : RepL K G ds vs) : ds.isEmpty = vs.isEmpty := by
  cases r <;> rfl
theorem RepK.isEmpty {K : PySem.W.Frag} {G : Hp} {ds : List (Key × D)} {vs : List (Key × V)} (r : RepK K G ds vs) : ds.isEmpty = vs.isEmpty := by
  cases r <;> rfl
def TruV2 (K : PySem.W.Frag) (x : V) (H : Hp) (k : Bool) : Prop := TruV K x H k ∨ ∃ a kvs, x = .ref a ∧ Rd H a (.dK kvs) ∧ k = !kvs.isEmpty
theorem tru_ok2 {X : Cx} : TruR X (fun x H Q => ∃ k, TruV2 X.K x H k ∧ Q k H) := by
  intro pins s σ H x v Q I r h
  obtain ⟨k, t | ⟨a, kvs, e, hd, hk⟩, q⟩ := h
  · exact tru_ok pins s σ H x v Q I r ⟨k, t, q⟩
  · subst e
    obtain rfl : v = Value.ref a := r
    exact d_truth I hd fun s' I' => ⟨H, I', hk ▸ q⟩
theorem RepB.tru {K : PySem.W.Frag} {W : Wd} {G H : Hp} {d : D} {v : V} {b : Bool} (le : Le G H) (r : RepB K W G H d v) (h : truD d = some b) : TruV2 K v H b := by
  cases d with
  | non => rw [r.non]; cases h; exact .inl rfl
  | bl b => rw [r.bl]; cases h; exact .inl rfl
  | int i => rw [r.int]; cases h; exact .inl rfl
  | lst ds =>
    obtain ⟨a, vs, e, h1, r1⟩ := r.lst le
    cases h
    rw [e, r1.isEmpty]
    exact .inl (.inl ⟨vs, SqL.of h1, rfl⟩)
  | tup ds =>
    obtain ⟨a, vs, e, h1, r1⟩ := r.tup le
    cases h
    rw [e, r1.isEmpty]
    exact .inl (.inr (.inl ⟨vs, h1, rfl⟩))
  | dct kvs =>
    obtain ⟨a, ws, e, h1, r1⟩ := r.dct le
    cases h
    rw [r1.isEmpty]
    exact .inr ⟨a, ws, e, h1, rfl⟩
  | _ => exact nomatch h
section
variable {X : Cx} {W : WX} {a b c e f : Expr} {lo hi : Option Expr} {δ δa δb δc : DE} {pos p p2 apos cpos : Pos} {x : Str}
theorem pt_truD (h : PB X W a δ) (he : ∀ whole, isTrue a X.env whole = (do let v ← whole; standAt a.pos; holding [v] (truthy v)) := by intro _; rfl) : PTD X W a (dTru δ) := by
  obtain ⟨t, p, h⟩ := h
  have pt : PT X a (fun σ H Q => t σ H fun x H1 => ∃ k, TruV2 X.K x H1 k ∧ Q k H1) := by
    refine ⟨fun pins s σ H Q I hw => ?_⟩
    refine PyProof.Rows.isTrue_plain (thn (p.run pins s σ H _ I hw) fun v s1 ⟨x, H1, I1, r1, q1⟩ => ?_) (he _)
    exact tru_ok2 pins s1 σ H1 x v Q I1 r1 q1
  refine ⟨_, pt, fun B σ H ρ n G α Q x q hK R hx hd k => ?_⟩
  refine h B σ H ρ n G α _ x _ hK R hx hd fun v H1 G1 d n1 s1 j1 r1 h1 => ?_
  obtain ⟨b, e, h1⟩ := opt_some h1
  exact ⟨b, r1.tru s1.hh e, k b H1 G1 n1 s1 j1 h1⟩

/-! ### slices -/
abbrev DO := DX → Env → Nat → (Option Int → Nat → Prop) → Prop
def PDO (X : Cx) (W : WX) (e : Option Expr) (ω : DO) : Prop := ∃ t, PO X e t ∧ ∀ (B : Bs) (σ : St) (H : Hp) (ρ : Env) (n : Nat) (G : Hp) (α : Nat → Addr) (Q : Option Int → Hp → Prop) (x : DX) (q : Option Int → Nat → Prop), B.K = X.K → RelB B σ H ρ n G α → XL B W σ H G x → ω x ρ n q →
    (∀ o H' G' n', Step B.W H G H' G' → B.W.J n' H' → q o n' → Q o H') → t σ H Q
def oNone : DO := fun _ _ n q => q none n
def oSome (δ : DE) : DO := fun x ρ n q => δ x ρ n fun d n1 => match d with
  | .int i => q (some i) n1
  | _ => False
theorem pdo_none : PDO X W none oNone := ⟨_, po_none, fun B σ H ρ n G α Q x q hK R hx hd k => k none H G n (.refl _ R.le) R.J hd⟩
theorem pdo_some (h : PB X W a δ) : PDO X W (some a) (oSome δ) := by
  obtain ⟨t, p, h⟩ := h
  refine ⟨_, po_some p, fun B σ H ρ n G α Q x q hK R hx hd k => ?_⟩
  refine h B σ H ρ n G α _ x _ hK R hx hd fun v H1 G1 d n1 s1 j1 r1 h1 => ?_
  cases d with
  | int i => exact ⟨i, r1.int, k (some i) H1 G1 n1 s1 j1 h1⟩
  | _ => exact h1.elim
def cutD (ds : List D) (lo hi : Option Int) : List D := (ds.drop (HT.sIx ds.length 0 lo)).take (HT.sIx ds.length ds.length hi - HT.sIx ds.length 0 lo)
theorem RepL.cut {K : PySem.W.Frag} {G : Hp} {ds : List D} {vs : List V} (r : RepL K G ds vs) (lo hi : Option Int) : RepL K G (cutD ds lo hi) (cutV vs lo hi) := by
  unfold cutD cutV
  rw [r.length]
  exact (r.drop _).take _
def dSl (δ : DE) (l h : DO) : DE := fun x ρ n q => δ x ρ n fun d n1 => l x ρ n1 fun lo n2 => h x ρ n2 fun hi n3 => match d with
  | .lst ds => q (.lst (cutD ds lo hi)) n3
  | _ => False
theorem pf_sl {l h : DO} (he : PB X W e δ) (hl : PDO X W lo l) (hh : PDO X W hi h) : PF X W (.Subscript e (.Slice lo hi none p2) pos) (dSl δ l h) := by
  obtain ⟨t, p, he⟩ := he
  obtain ⟨tl, pl, el⟩ := hl
  obtain ⟨th, ph, eh⟩ := hh
  refine ⟨_, pe_slice sl_list p pl ph, fun B σ H ρ n G α Q x q hK R hx hd k => ?_⟩
  refine he B σ H ρ n G α _ x _ hK R hx hd fun v H1 G1 d n1 s1 j1 r1 h1 => ?_
  have R1 := R.step s1 j1
  refine el B σ H1 ρ n1 G1 α _ x _ hK R1 (hx.step s1) h1 fun lo' H2 G2 n2 s2 j2 h2 => ?_
  have R2 := R1.step s2 j2
  refine eh B σ H2 ρ n2 G2 α _ x _ hK R2 ((hx.step s1).step s2) h2 fun hi' H3 G3 n3 s3 j3 h3 => ?_
  cases d with
  | lst ds =>
    have s := s1.trans (s2.trans s3)
    obtain ⟨a, vs, e1, hH, rl⟩ := ((r1.step s2).step s3).lst s3.hh
    refine ⟨a, vs, e1, SqL.of hH, fun b np => ?_⟩
    have sp := StepP.laid (o := .lst (cutV vs lo' hi')) s3.hh np
    have nr : ¬ B.W.rg b := fun r => B.W.there n3 H3 b j3 r np
    have h0 : H b = none := by
      cases e : H b with
      | none => rfl
      | some o => rw [s.fr b o e nr] at np; cases np
    have g0 : G3 b = none := by
      cases e : G3 b with
      | none => rfl
      | some o => have := s3.hh.get e; rw [np] at this; cases this
    exact k b _ _ (.lst (cutD ds lo' hi')) n3 (s.trans (sp.step j3)) (sp.J j3) h0 g0 nr ⟨_, upd_same, rl.cut lo' hi'⟩ h3
  | _ => exact h3.elim
/-- xs[::-1] -/
def dRev (δ : DE) : DE := fun x ρ n q => δ x ρ n fun d n1 => match d with
  | .lst ds => q (.lst ds.reverse) n1
  | _ => False
theorem RepL.reverse {K : PySem.W.Frag} {G : Hp} : ∀ {ds : List D} {vs : List V}, RepL K G ds vs → RepL K G ds.reverse vs.reverse
  | _, _, .nil => .nil
  | _, _, .cons r t => by
    rw [List.reverse_cons, List.reverse_cons]
    exact (RepL.reverse t).snoc r
theorem pd_rev {k : Nat} {p1 p3 : Pos} (he : PB X W e δ) : PD X W (.Subscript e (.Slice none none (some (.UnaryOp .USub (.Constant (.int 1) k p1) p2)) p3) pos) (dRev δ) := by
  obtain ⟨t, p, he⟩ := he
  refine ⟨_, pe_revL p, fun B σ H ρ n G α Q x q hK R hx hd k => ?_⟩
  refine he B σ H ρ n G α _ x _ hK R hx hd fun v H1 G1 d n1 s1 j1 r1 h1 => ?_
  cases d with
  | lst ds =>
    obtain ⟨a, vs, e1, hH, rl⟩ := r1.lst s1.hh
    refine ⟨a, vs, e1, SqL.of hH, fun b np => ?_⟩
    have sp := StepP.made (o := .lst vs.reverse) s1.hh np
    exact k _ _ _ _ n1 (s1.trans (sp.step j1)) (sp.J j1) (.lst upd_same (rl.reverse.mono sp.le)) h1
  | _ => exact h1.elim

/-! ### d.get(k, x) -/
def dGet2 (δ δk δx : DE) : DE := fun x ρ n q => δ x ρ n fun d n1 => match d with
  | .dct kvs => δk x ρ n1 fun k n2 => δx x ρ n2 fun z n3 => opt (keyD k) fun j => q ((getD kvs j).getD z) n3
  | _ => False
theorem pd_get2 (hu : X.A.units + 1 < cLine) (ho : PB X W a δa) (hk : PB X W e δb) (hx : PD X W f δc) (m : M2 X a "get" apos e f cpos := by exact ⟨rfl, rfl, rfl, rfl⟩) : PD X W (.Call (.Attribute a "get" apos) [e, f] [] cpos) (dGet2 δa δb δc) := by
  obtain ⟨ta, pa, ea⟩ := ho
  obtain ⟨tb, pb, eb⟩ := hk
  obtain ⟨tc, pc, ec⟩ := hx
  refine ⟨_, pe_dget2 hu pa pb pc m, fun B σ H ρ n G α Q x q hK R hx hd k => ?_⟩
  refine ea B σ H ρ n G α _ x _ hK R hx hd fun v1 H1 G1 d1 n1 s1 j1 r1 h1 => ?_
  have R1 := R.step s1 j1
  cases d1 with
  | dct kvs =>
    obtain ⟨p, ws, e1, hd, rk⟩ := r1.dct s1.hh
    refine ⟨p, e1, .inl ⟨ws, hd⟩, ?_⟩
    refine eb B σ H1 ρ n1 G1 α _ x _ hK R1 (hx.step s1) h1 fun v2 H2 G2 d2 n2 s2 j2 r2 h2 => ?_
    have R2 := R1.step s2 j2
    refine ec B σ H2 ρ n2 G2 α _ x _ hK R2 ((hx.step s1).step s2) h2 fun v3 H3 G3 d3 n3 s3 j3 r3 h3 => ?_
    obtain ⟨j, ej, h3⟩ := opt_some h3
    obtain ⟨p', ws', e1', hd', rk'⟩ := ((r1.step s2).step s3).dct s3.hh
    have ep : p' = p := by rw [e1] at e1'; injection e1' with e; exact e.symm
    subst ep
    refine ⟨valV ws' j, .inl ⟨ws', j, hd', keyD_rep ej (r2.step s3), rfl⟩, ?_⟩
    rcases rk'.val (k := j) with ⟨d', v', g1, g2, g3⟩ | ⟨g1, g2⟩
    · rw [g1] at h3
      rw [g2]
      exact k v' H3 G3 d' n3 (s1.trans (s2.trans s3)) j3 g3 h3
    · rw [g1] at h3
      rw [g2]
      exact k v3 H3 G3 d3 n3 (s1.trans (s2.trans s3)) j3 r3 h3
  | _ => exact h1.elim
/-- k in d, k not in d -/
def fDin (neg : Bool) : F2 := fun x y k => match keyD x, y with
  | some j, .dct kvs => k (.bl (if neg then !(getD kvs j).isSome else (getD kvs j).isSome))
  | _, _ => False
theorem RepK.isSome {K : PySem.W.Frag} {G : Hp} {kvs : List (Key × D)} {ws : List (Key × V)} (r : RepK K G kvs ws) (j : Key) : (valV ws j).isSome = (getD kvs j).isSome := by
  rcases r.val (k := j) with ⟨d', v', g1, g2, g3⟩ | ⟨g1, g2⟩
  · rw [g1, g2]; rfl
  · rw [g1, g2]; rfl
theorem pd_din (hu : X.A.units + 1 < cLine) (hk : PB X W a δa) (hd : PB X W b δb) (hm : behindInMarks .In b = false := by rfl) : PD X W (.Compare a [.In] [b] pos) (dOp (fDin false) δa δb) := by
  obtain ⟨ta, pa, ea⟩ := hk
  obtain ⟨tb, pb, eb⟩ := hd
  refine ⟨_, pe_cmp (pc_din hu pa pb) hm, fun B σ H ρ n G α Q x q hK R hx hd k => ?_⟩
  refine ea B σ H ρ n G α _ x _ hK R hx hd fun v1 H1 G1 d1 n1 s1 j1 r1 h1 => ?_
  refine eb B σ H1 ρ n1 G1 α _ x _ hK (R.step s1 j1) (hx.step s1) h1 fun v2 H2 G2 d2 n2 s2 j2 r2 h2 => ?_
  unfold fDin at h2
  split at h2
  · rename_i j kvs ej
    obtain ⟨p, ws, e1, hd, rk⟩ := r2.dct s2.hh
    refine ⟨p, valV ws j, e1, .inl ⟨ws, j, hd, keyD_rep ej (r1.step s2), rfl⟩, k _ H2 G2 _ n2 (s1.trans s2) j2 ?_ h2⟩
    rw [rk.isSome j]
    exact .bl _
  · exact h2.elim
theorem pd_dnotin (hu : X.A.units + 1 < cLine) (hk : PB X W a δa) (hd : PB X W b δb) (hm : behindInMarks .NotIn b = false := by rfl) : PD X W (.Compare a [.NotIn] [b] pos) (dOp (fDin true) δa δb) := by
  obtain ⟨ta, pa, ea⟩ := hk
  obtain ⟨tb, pb, eb⟩ := hd
  refine ⟨_, pe_cmp (pc_dnotin hu pa pb) hm, fun B σ H ρ n G α Q x q hK R hx hd k => ?_⟩
  refine ea B σ H ρ n G α _ x _ hK R hx hd fun v1 H1 G1 d1 n1 s1 j1 r1 h1 => ?_
  refine eb B σ H1 ρ n1 G1 α _ x _ hK (R.step s1 j1) (hx.step s1) h1 fun v2 H2 G2 d2 n2 s2 j2 r2 h2 => ?_
  unfold fDin at h2
  split at h2
  · rename_i j kvs ej
    obtain ⟨p, ws, e1, hd, rk⟩ := r2.dct s2.hh
    refine ⟨p, valV ws j, e1, .inl ⟨ws, j, hd, keyD_rep ej (r1.step s2), rfl⟩, k _ H2 G2 _ n2 (s1.trans s2) j2 ?_ h2⟩
    rw [rk.isSome j]
    exact .bl _
  · exact h2.elim
end
end DL

end

/-! DLa -/
section
set_option autoImplicit false
/-! DLa: isinstance, two targets at once, dict(pairs), list(d.items()). -/
namespace DL
open PySem PySem.Spec L2

/-! ### isinstance -/
inductive Ty where
  | b (n : String) | own (c : Str)
def Ty.val (K : PySem.W.Frag) : Ty → Value
  | .b n => .type n
  | .own c => .ref (ca K c)
def tyD : D → Option Ty
  | .non => some (.b "NoneType")
  | .bl _ => some (.b "bool")
  | .int _ => some (.b "int")
  | .str _ => some (.b "str")
  | .lst _ => some (.b "list")
  | .tup _ => some (.b "tuple")
  | .dct _ => some (.b "dict")
  | .obj c _ => some (.own c)
  | .hnd _ => none
/-- what the model's isinstance asks of a class -/
structure TyF (K : PySem.W.Frag) (c : Str) : Prop where
  cl : Cls K (ca K c)
  ha : PySem.W.findIn K (.ref (ca K c)) "__class__" = some (some (.builtin "object.__class__"))
  hn : PySem.W.specialIn K (.builtin "object.__class__") "__get__" = some (some (.builtin "getset_descriptor.__get__"))
  htk : PySem.W.takesIn K (.builtin "object.__class__") = some true
  hm : PySem.W.mroIn K (ca K c) (.type "object") = some true
theorem sqT_tyX {K : PySem.W.Frag} {H : Hp} {a : Addr} {vs : List V} (h : SqT K H a vs) : TyX K H (.ref a) (.type "tuple") := by
  rcases h with (h | ⟨o, h⟩) | ⟨o, its, n, h, c, _⟩
  · exact .base (.tup h)
  · exact .fTuple h
  · exact .kTuple h c
theorem RepB.tyX {K : PySem.W.Frag} {W : Wd} {G H : Hp} {d : D} {v : V} {t : Ty} (le : Le G H) (r : RepB K W G H d v) (h : tyD d = some t) (hc : ∀ c, t = .own c → TyF K c) : TyX K H v (t.val K) := by
  cases d with
  | non => rw [r.non]; cases h; exact .base .non
  | bl b => rw [r.bl]; cases h; exact .base (.bl b)
  | int i => rw [r.int]; cases h; exact .base (.int i)
  | str i => rw [r.str]; cases h; exact .base (.str i)
  | lst ds =>
    obtain ⟨a, vs, e, h1, _⟩ := r.lst le
    cases h
    rw [e]
    exact .base (.lst h1)
  | tup ds =>
    obtain ⟨a, vs, e, h1, _⟩ := r.tup le
    cases h
    rw [e]
    exact sqT_tyX h1
  | dct kvs =>
    obtain ⟨a, ws, e, h1, _⟩ := r.dct le
    cases h
    rw [e]
    rcases h1 with h1 | ⟨o, h1⟩
    · exact .base (.dK h1)
    · exact .fDict h1
  | obj c fs =>
    obtain ⟨a, dx, ws, e, h1, _⟩ := r.obj le
    cases h
    rw [e]
    have f := hc c rfl
    exact .base (.ins h1 f.cl f.ha f.hn f.htk f.hm)
  | hnd a => exact nomatch h
/-- is data of a class: both answers; the classes of own objects are told in CS -/
def isD (CS : List Str) (f : Ty → Bool) (δ : DE) : DE := fun x ρ n q => δ x ρ n fun d n1 => opt (tyD d) fun t => (∀ c, t = .own c → c ∈ CS) ∧ q (.bl (f t)) n1
section
variable {X : Cx} {W : WX} {a T : Expr} {δ : DE} {p pos pT : Pos} {x : Str}
theorem ed_isi {K : PySem.W.Frag} {ta tT : TE} {CS : List Str} {f : Ty → Bool} {cv : V} {u : Value} (hc : ∀ c ∈ CS, TyF K c) (ha : EB K W ta δ) (hT : ∀ σ H Q, Q cv H → tT σ H Q) (k : ClsV cv u) (hf : ∀ d t, tyD d = some t → (∀ c, t = .own c → c ∈ CS) → PySem.W.kitOne K (t.val K) u = some (f t)) :
    ED K W (tCB (rIsi K) (tCons ta (tCons tT tNil))) (isD CS f δ) := by
  intro B σ H ρ n G α Q x q hK R hx hd kk
  refine ha B σ H ρ n G α _ x _ hK R hx hd fun v H1 G1 d n1 s1 j1 r1 h1 => hT _ _ _ ?_
  obtain ⟨t, et, hcs, h1⟩ := opt_some h1
  exact ⟨v, cv, _, u, f t, rfl, k, r1.tyX s1.hh et fun c e => hc c (hcs c e), hf d t et hcs, kk _ H1 G1 _ n1 s1 j1 (.bl _) h1⟩
/-- isinstance(a, T), T a built-in class -/
theorem pd_isiB {CS : List Str} {f : Ty → Bool} {nT : String} (hc : ∀ c ∈ CS, TyF X.K c) (hf : ∀ d t, tyD d = some t → (∀ c, t = .own c → c ∈ CS) → PySem.W.kitOne X.K (t.val X.K) (.type nT) = some (f t)) (hgi : Gl X "isinstance") (hmi : X.mg "isinstance" = none) (hg : Gl X x) (hm : X.mg x = none) (hv : bootBuiltins x = some (.type nT))
    (h : PB X W a δ) (hn : x ≠ "__name__" := by decide) (hdb : (x == ("__debug__" : Str)) = false := by decide) (hst : starEach [a, .Name x pT] X.env = (false, eval a X.env) :: starEach [.Name x pT] X.env := by rfl) (hst2 : starEach [.Name x pT] X.env = [(false, eval (.Name x pT) X.env)] := by rfl)
    (hpl : (backTo pos (starEach [.Name x pT] X.env)).any (·.1) = false := by rfl) : PD X W (.Call (.Name "isinstance" p) [a, .Name x pT] [] pos) (isD CS f δ) := by
  obtain ⟨t, pe, e⟩ := h
  exact ⟨_, pe_callB call_isi hgi hmi (by decide +kernel) (pa_cons pe (pa_cons (pe_bltn (v := .ty nT) hg hm hv rfl hn hdb) pa_nil hst2) hst) (by decide) (by decide) hst hpl, ed_isi hc e (fun _ _ _ q => q) (.ty nT) hf⟩
/-- isinstance(a, C), C an own class -/
theorem pd_isiO {CS : List Str} {f : Ty → Bool} {r : Addr} (hc : ∀ c ∈ CS, TyF X.K c) (hf : ∀ d t, tyD d = some t → (∀ c, t = .own c → c ∈ CS) → PySem.W.kitOne X.K (t.val X.K) (.ref r) = some (f t)) (hgi : Gl X "isinstance") (hmi : X.mg "isinstance" = none) (hg : Gl X x) (hm : X.mg x = some (.ref r))
    (h : PB X W a δ) (hdb : (x == ("__debug__" : Str)) = false := by decide) (hst : starEach [a, .Name x pT] X.env = (false, eval a X.env) :: starEach [.Name x pT] X.env := by rfl) (hst2 : starEach [.Name x pT] X.env = [(false, eval (.Name x pT) X.env)] := by rfl)
    (hpl : (backTo pos (starEach [.Name x pT] X.env)).any (·.1) = false := by rfl) : PD X W (.Call (.Name "isinstance" p) [a, .Name x pT] [] pos) (isD CS f δ) := by
  obtain ⟨t, pe, e⟩ := h
  exact ⟨_, pe_callB call_isi hgi hmi (by decide +kernel) (pa_cons pe (pa_cons (pe_glob (v := .ref r) hg hm rfl hdb) pa_nil hst2) hst) (by decide) (by decide) hst hpl, ed_isi hc e (fun _ _ _ q => q) (.own r) hf⟩
/-- isinstance(a, (T1, T2, ..)), built-in classes -/
theorem ed_isiT {K : PySem.W.Frag} {ta : TE} {tT : TA} {CS : List Str} {f : Ty → Bool} {cvs : List V} {us : List Value} (hc : ∀ c ∈ CS, TyF K c) (ha : EB K W ta δ) (hT : ∀ σ H Q, Q cvs H → tT σ H Q) (k : Paired ClsV cvs us) (hl : cvs.length ≤ sizeLine) (hf : ∀ d t, tyD d = some t → (∀ c, t = .own c → c ∈ CS) → PySem.W.kitAny K (t.val K) us = some (f t)) :
    ED K W (tCB (rIsiT K) (tCons ta (tCons (tTup tT) tNil))) (isD CS f δ) := by
  intro B σ H ρ n G α Q x q hK R hx hd kk
  refine ha B σ H ρ n G α _ x _ hK R hx hd fun v H1 G1 d n1 s1 j1 r1 h1 => hT _ _ _ ⟨hl, fun p np => ?_⟩
  obtain ⟨t, et, hcs, h1⟩ := opt_some h1
  have s := StepP.laid (o := .tup cvs) s1.hh np
  have st := s.step j1
  exact ⟨v, p, cvs, _, us, f t, rfl, upd_same, k, (r1.step st).tyX st.hh et fun c e => hc c (hcs c e), hf d t et hcs, kk _ _ _ _ n1 (s1.trans st) (s.J j1) (.bl _) h1⟩
theorem pd_isiT {CS : List Str} {f : Ty → Bool} {es : List Expr} {x1} {tT : TA} {cvs : List V} {us : List Value} (hc : ∀ c ∈ CS, TyF X.K c) (hf : ∀ d t, tyD d = some t → (∀ c, t = .own c → c ∈ CS) → PySem.W.kitAny X.K (t.val X.K) us = some (f t)) (hgi : Gl X "isinstance") (hmi : X.mg "isinstance" = none)
    (hT : PA X es tT) (hT2 : ∀ σ H Q, Q cvs H → tT σ H Q) (k : Paired ClsV cvs us) (hl : cvs.length ≤ sizeLine) (h : PB X W a δ) (hst : starEach [a, .Tuple es x1 pT] X.env = (false, eval a X.env) :: starEach [.Tuple es x1 pT] X.env := by rfl) (hst2 : starEach [.Tuple es x1 pT] X.env = [(false, eval (.Tuple es x1 pT) X.env)] := by rfl)
    (hpl : (backTo pos (starEach [.Tuple es x1 pT] X.env)).any (·.1) = false := by rfl) : PD X W (.Call (.Name "isinstance" p) [a, .Tuple es x1 pT] [] pos) (isD CS f δ) := by
  obtain ⟨t, pe, e⟩ := h
  exact ⟨_, pe_callB call_isiT hgi hmi (by decide +kernel) (pa_cons pe (pa_cons (pe_tup hT) pa_nil hst2) hst) (by decide) (by decide) hst hpl, ed_isiT hc e hT2 k hl hf⟩
end

/-! ### a, b = x, y -/
def dPar (i j : Nat) (a : DA) : DS := fun E ρ n => a (E.xx ρ) ρ n fun ds n1 => match ds with
  | [u, v] => E.nx ((ρ.set i (some (.val u))).set j (some (.val v))) n1
  | _ => False
section
variable {X : Cx} {W : WX} {a b e tg : Expr} {δ : DE} {α' : DA} {pos : Pos} {x y : Str}
theorem ps_parD (i j : Nat) {px py pt : Pos} {kt k2 pt2} (hc : X.calm = true) (hN : X.N.Nodup) (ha : PAD X W [a, b] α') (hi : X.N[i]? = some x := by rfl) (hj : X.N[j]? = some y := by rfl) (hij : i ≠ j := by decide)
    (hx : X.env.scope.names.lookup x = some .local := by rfl) (hy : X.env.scope.names.lookup y = some .local := by rfl)
    (hw : swappedStores [.Tuple [.Name x px, .Name y py] kt pt] (.Tuple [a, b] k2 pt2) X.env = pure (some [x, y]) := by rfl)
    (hs : swapsWithSole [.Tuple [.Name x px, .Name y py] kt pt] (.Tuple [a, b] k2 pt2) pos.line X.env = pure false := by rfl) :
    PSD X W (.Assign [.Tuple [.Name x px, .Name y py] kt pt] (.Tuple [a, b] k2 pt2) pos) (dPar i j α') := by
  obtain ⟨t, p, h⟩ := ha
  refine ⟨_, ps_par hc hN hi hj hij hx hy p hw hs, fun B σ H ρ n G α D E hK R L hd => ?_⟩
  refine h B σ H ρ n G α _ _ _ hK R (L.xl R) hd fun vs H1 G1 ds n1 s1 j1 r1 h1 => ?_
  split at h1
  · rename_i u v
    cases r1 with
    | cons r1 t1 =>
      cases t1 with
      | cons r2 t2 =>
        cases t2
        exact ⟨_, _, rfl, L.nx _ H1 _ n1 G1 α (((R.step s1 j1).set i (hK ▸ r1)).set j (hK ▸ r2)) h1⟩
  · exact h1.elim
/-- a target of any form -/
def dAsg (γ : DG) (δ : DE) : DS := fun E ρ n => δ (E.xx ρ) ρ n fun d n1 => γ d ρ fun ρ1 => E.nx ρ1 n1
theorem ps_asgD {γ : DG} {sl : List Nat} (he : PD X W e δ) (hg : PGD X sl tg γ) (hs : swapsWithSole [tg] e pos.line X.env = pure false := by rfl) (hw : swappedStores [tg] e X.env = pure none := by rfl)
    (h1 : (assignEach [tg] X.env).map (·.2) = [assign tg X.env] := by rfl) : PSD X W (.Assign [tg] e pos) (dAsg γ δ) := by
  obtain ⟨t, p, h⟩ := he
  obtain ⟨g, pg, eg⟩ := hg
  refine ⟨_, ps_asg p pg hs hw h1, fun B σ H ρ n G α D E hK R L hd => ?_⟩
  refine h B σ H ρ n G α _ _ _ hK R (L.xl R) hd fun v H1 G1 d n1 s1 j1 r1 h1 => ?_
  have R1 := R.step s1 j1
  exact eg B σ H1 ρ n1 G1 α v d _ _ hK R1 r1 h1 fun σ' ρ' R' _ _ hq => L.nx σ' H1 ρ' n1 G1 α R' hq
end

/-! ### dict(list of pairs) -/
def pairsD : List D → Option (List (Key × D))
  | [] => some []
  | .tup [k, v] :: ds => (keyD k).bind fun j => (pairsD ds).map ((j, v) :: ·)
  | _ :: _ => none
def mergeD (kvs more : List (Key × D)) : List (Key × D) := more.foldl (fun acc kv => putD acc kv.1 kv.2) kvs
def fDict : FL := f1 fun d k => match d with
  | .lst ds => opt (pairsD ds) fun kvs => k (.dct (mergeD [] kvs))
  | _ => False
theorem pairs_rep {K : PySem.W.Frag} {G : Hp} : ∀ {ds : List D} {vs : List V} {kvs : List (Key × D)}, RepL K G ds vs → pairsD ds = some kvs → ∃ (ps : List Addr) (ws : List (Key × V)), vs = ps.map V.ref ∧ Paired (fun p kv => SqT K G p [kV kv.1, kv.2]) ps ws ∧ RepK K G kvs ws
  | _, _, _, .nil, h => by cases h; exact ⟨[], [], rfl, .nil, .nil⟩
  | _, _, kvs, .cons (d := d) (ds := ds) r t, h => by
    unfold pairsD at h
    split at h
    · rename_i h0; cases h0
    · rename_i k v ds' h0
      cases h0
      cases ek : keyD k with
      | none => rw [ek] at h; cases h
      | some j =>
        rw [ek] at h
        cases ep : pairsD ds with
        | none => rw [ep] at h; cases h
        | some more =>
          rw [ep] at h
          have h : some ((j, v) :: more) = some kvs := h
          cases h
          obtain ⟨ps, ws, e1, e2, e3⟩ := pairs_rep t ep
          cases r with
          | tup es rl =>
            cases rl with
            | cons r1 t1 =>
              cases t1 with
              | cons r2 t2 =>
                cases t2
                rename_i b v1 v2
                have ev : v1 = kV j := by
                  cases k with
                  | int i => cases ek; cases r1; rfl
                  | str i => cases ek; cases r1; rfl
                  | _ => exact nomatch ek
                subst ev
                exact ⟨b :: ps, (j, v2) :: ws, by rw [e1]; rfl, .cons es e2, .cons r2 e3⟩
    · cases h
theorem RepK.merge {K : PySem.W.Frag} {G : Hp} : ∀ {more : List (Key × D)} {ms : List (Key × V)} {kvs : List (Key × D)} {ws : List (Key × V)}, RepK K G more ms → RepK K G kvs ws → RepK K G (mergeD kvs more) (mergeK ws ms)
  | _, _, _, _, .nil, h => h
  | _, _, _, _, .cons (k := k) r t, h => by
    have z := RepK.merge t (h.put (k := k) r)
    exact z
theorem paired_mono {α β : Type} {F F' : α → β → Prop} (h : ∀ a b, F a b → F' a b) : ∀ {l : List α} {m : List β}, Paired F l m → Paired F' l m
  | _, _, .nil => .nil
  | _, _, .cons r t => .cons (h _ _ r) (paired_mono h t)
theorem dcall_dict {K : PySem.W.Frag} : DCall K (fun xs H Q => ∃ (a : Addr) (ps : List Addr) (kvs : List (Key × V)), xs = [.ref a] ∧ SqL K H a (ps.map V.ref) ∧ Paired (fun p kv => SqT K H p [kV kv.1, kv.2]) ps kvs ∧ ∀ p, H p = none → LkP (Q (.ref p)) (upd H p (.dK (mergeK [] kvs)))) fDict := by
  intro W H G vs ds Q k le r hf hk
  unfold fDict f1 at hf
  split at hf
  · rename_i d
    obtain ⟨v, rfl, r0⟩ := r.one
    cases d with
    | lst es =>
      obtain ⟨kvs, ek, hf⟩ := opt_some hf
      obtain ⟨a, us, e1, h1, rl⟩ := r0.lst le
      obtain ⟨ps, ws, e2, e3, e4⟩ := pairs_rep rl ek
      subst e1
      subst e2
      refine ⟨a, ps, ws, rfl, SqL.of h1, paired_mono (fun _ _ h => le.sqT h) e3, fun p np => ?_⟩
      refine .inr ⟨p, _, upd_same, trivial, fun od => ?_⟩
      have s := StepP.made (o := .frz od (.dK (mergeK [] ws))) le np
      rw [upd_upd]
      exact hk _ _ _ _ s (.dct upd_same ((e4.merge .nil).mono s.le)) hf
    | _ => exact hf.elim
  · exact hf.elim
end DL

end

/-! DLb -/
section
set_option autoImplicit false
/-! DLb: what the top leaves, as facts: a hook with one more look, classes for isinstance, tuples of the module. -/
namespace DL
open PySem PySem.Spec L2

/-! ### the hook -/
abbrev AlM : Type := He.AlD × Bool
def obsM (n : Nat) (fa : List He.Fa) (fn : List He.DefD) (ex : PySem.W.Frag → Bool) (g : Addr → Option Obj) : AlM := (He.obsD fa fn (He.frG g (He.asD g n)), ex (He.frG g (He.asD g n)))
def hookM (n : Nat) (fa : List He.Fa) (fn : List He.DefD) (ex : PySem.W.Frag → Bool) : PySem.W.Hook where
  α := AlM
  obs := fun s => obsM n fa fn ex s.heap.get?
  val := fun _ => (He.valD fn, true)
  says := fun _ h => ∃ K : PySem.W.Frag, K.In h ∧ He.SaysD fa fn K ∧ ex K = true
  of := fun _ _ e => ⟨_, He.frG_in, congrArg Prod.fst e, congrArg Prod.snd e⟩
  keeps := fun _ _ _ ⟨K, hK, c⟩ k => ⟨K, PySem.W.Frag.In.keeps hK k, c⟩
theorem obsM_eq {n : Nat} {fa : List He.Fa} {fn : List He.DefD} {ex : PySem.W.Frag → Bool} {g : Addr → Option Obj} {s : Shared} (h : ∀ a, g a = s.heap.get? a) : obsM n fa fn ex g = (hookM n fa fn ex).obs s := by
  have e : g = s.heap.get? := funext h
  rw [e] <;> rfl

/-! ### classes -/
def tys : List String := ["int", "bool", "list", "tuple", "str", "dict"]
def tysN : List String := ["NoneType", "bool", "int", "str", "list", "tuple", "dict"]
def chkTy (CS : List Str) (sub : Str → Str → Bool) (K : PySem.W.Frag) : Bool := CS.all fun c =>
  (He.Fa.cls c).ok K && (He.eqO (PySem.W.findIn K (.ref (ca K c)) "__class__") (some (some (.builtin "object.__class__"))) && (decide (PySem.W.specialIn K (.builtin "object.__class__") "__get__" = some (some (.builtin "getset_descriptor.__get__"))) &&
  (decide (PySem.W.takesIn K (.builtin "object.__class__") = some true) && (decide (PySem.W.mroIn K (ca K c) (.type "object") = some true) &&
  ((tys.all fun T => decide (PySem.W.kitOne K (.ref (ca K c)) (.type T) = some false)) && ((tysN.all fun T => decide (PySem.W.kitOne K (.type T) (.ref (ca K c)) = some false)) && (CS.all fun c' => decide (PySem.W.kitOne K (.ref (ca K c)) (.ref (ca K c')) = some (sub c c')))))))))
/-- which type is of which -/
def isaB (n : String) : Ty → Bool
  | .b m => m == n || (n == "int" && m == "bool")
  | .own _ => false
def isaO (sub : Str → Str → Bool) (c : Str) : Ty → Bool
  | .b _ => false
  | .own c' => sub c' c
section
variable {K : PySem.W.Frag} {CS : List Str} {sub : Str → Str → Bool}
theorem chk_at (h : chkTy CS sub K = true) {c : Str} (hc : c ∈ CS) : TyF K c ∧ (∀ T ∈ tys, PySem.W.kitOne K (.ref (ca K c)) (.type T) = some false) ∧ (∀ T ∈ tysN, PySem.W.kitOne K (.type T) (.ref (ca K c)) = some false) ∧ ∀ c' ∈ CS, PySem.W.kitOne K (.ref (ca K c)) (.ref (ca K c')) = some (sub c c') := by
  have z := List.all_eq_true.mp h c hc
  obtain ⟨h1, z⟩ := He.ba z
  obtain ⟨h2, z⟩ := He.ba z
  obtain ⟨h3, z⟩ := He.ba z
  obtain ⟨h4, z⟩ := He.ba z
  obtain ⟨h5, z⟩ := He.ba z
  obtain ⟨h6, z⟩ := He.ba z
  obtain ⟨h7, h8⟩ := He.ba z
  exact ⟨⟨He.cls_ok h1, He.eqO_ok h2, of_decide_eq_true h3, of_decide_eq_true h4, of_decide_eq_true h5⟩, fun T hT => of_decide_eq_true (List.all_eq_true.mp h6 T hT), fun T hT => of_decide_eq_true (List.all_eq_true.mp h7 T hT), fun c' hc' => of_decide_eq_true (List.all_eq_true.mp h8 c' hc')⟩
theorem chk_tyf (h : chkTy CS sub K = true) : ∀ c ∈ CS, TyF K c := fun _ hc => (chk_at h hc).1
theorem tyD_mem {d : D} {m : String} (h : tyD d = some (.b m)) : m ∈ tysN := by
  cases d <;> first | (cases h; decide) | (exact nomatch h)
theorem kit_bb (n : String) (hn : n ∈ tys) : ∀ m ∈ tysN, kitB m n = some (isaB n (.b m)) := by
  have e : ∀ n ∈ tys, ∀ m ∈ tysN, kitB m n = some (isaB n (.b m)) := by decide +kernel
  exact e n hn
theorem chk_kb (h : chkTy CS sub K = true) (n : String) (hn : n ∈ tys) : ∀ d t, tyD d = some t → (∀ c, t = .own c → c ∈ CS) → PySem.W.kitOne K (t.val K) (.type n) = some (isaB n t) := fun d t e hc => by
  cases t with
  | b m => exact kit_ty (kit_bb n hn m (tyD_mem e))
  | own c => exact (chk_at h (hc c rfl)).2.1 n hn
theorem chk_ko (h : chkTy CS sub K = true) {c : Str} (hc : c ∈ CS) : ∀ d t, tyD d = some t → (∀ c, t = .own c → c ∈ CS) → PySem.W.kitOne K (t.val K) (.ref (ca K c)) = some (isaO sub c t) := fun d t e hcs => by
  cases t with
  | b m => exact (chk_at h hc).2.2.1 m (tyD_mem e)
  | own c' => exact (chk_at h (hcs c' rfl)).2.2.2 c hc
theorem chk_kt (h : chkTy CS sub K = true) : ∀ (ns : List String), (∀ n ∈ ns, n ∈ tys) → ∀ d t, tyD d = some t → (∀ c, t = .own c → c ∈ CS) → PySem.W.kitAny K (t.val K) (ns.map Value.type) = some (ns.any fun n => isaB n t)
  | [], _, _, _, _, _ => kitAny_nil
  | n :: ns, hn, d, t, e, hc => by
    rw [List.map_cons, List.any_cons]
    refine kitAny_cons (chk_kb h n (hn n List.mem_cons_self) d t e hc) (fun q => ?_) (fun q => ?_)
    · rw [q, Bool.false_or]
      exact chk_kt h ns (fun m hm => hn m (List.mem_cons_of_mem _ hm)) d t e hc
    · rw [q, Bool.true_or]
end

/-! ### tuples of the written part -/
def tupAt (K : PySem.W.Frag) (a : Addr) (vs : List He.Dv) : Bool := match K.lookup a with
  | some ⟨.type c, _, .seq its _, _⟩ => decide (c = "tuple") && (decide (its.size ≤ sizeLine) && He.relAll (vs.map (He.Dv.v K)) its.toList)
  | _ => false
theorem tupAt_ok {K : PySem.W.Frag} {a : Addr} {vs : List He.Dv} (h : tupAt K a vs = true) (H : Hp) : SqT K H a (vs.map (He.Dv.v K)) := by
  unfold tupAt at h
  cases q : K.lookup a with
  | none =>
    rw [q] at h
    cases h
  | some o =>
    obtain ⟨oc, od, dt, osl⟩ := o
    rw [q] at h
    cases oc with
    | type c =>
      cases dt with
      | seq its n =>
        obtain ⟨h1, h2⟩ := He.ba (show (decide (c = "tuple") && (decide (its.size ≤ sizeLine) && He.relAll (vs.map (He.Dv.v K)) its.toList)) = true from h)
        obtain ⟨h3, h4⟩ := He.ba h2
        exact .inr ⟨_, its, n, q, congrArg Value.type (of_decide_eq_true h1), rfl, of_decide_eq_true h3, He.relAll_ok h4⟩
      | _ => cases h
    | _ => cases dt <;> cases h
theorem rep_ints {K : PySem.W.Frag} {a : Addr} {ns : List Int} (h : tupAt K a (ns.map He.Dv.int) = true) (G : Hp) : Rep K G (.tup (ns.map D.int)) (.ref a) := by
  have z := tupAt_ok h G
  rw [List.map_map] at z
  exact .tup z (RepL.of_ints ns)
end DL

end

/-! DLc -/
section
set_option autoImplicit false
/-! DLc: operators of own classes: a op b, a op= b, truth, o[i]. -/
namespace DL
open PySem PySem.Spec PySem.W
section
variable {prog : Program} {w : World} {A : Around} {E : Value → Shared → Prop} {s : Shared} {K : Frag} {x C f : Addr} {ox : Obj} {od : Option Obj}
def mro2 (K : Frag) (C : Addr) : Bool := (clsIn K C).any fun cd => decide (cd.mro = [.ref C, .type "object"])
theorem bin1_int {nm : String} {b : Value} {rr tk0 : Option Value} {Q : Option Value → Shared → Prop} (X : K.In s.heap) (I : InstAt s.heap x ox C od) (hb : Looks (model prog w) s.heap (typeOf b) (.type "int")) (hc : mro2 K C = true)
    (hs : findIn K (.ref C) (PySem.dunder nm) = some (some (.ref f))) (hf : isFn K (.ref f) = true) (hsub : subIn K (.type "int") (.ref C) = some false) (hR : findIn K (.ref C) (dunderR nm) = some rr) (hfi : fillsNumberSlot (.type "int") nm = pure true) (htk : typeLookup (.type "int") (dunderR nm) = pure tk0)
    (hrr : ∃ z, ∀ t, calledByName t (dunderR nm) rr = pure z)
    (h : wpAny (model prog w) A (call (.ref f) [.ref x, b]) (fun v s' => v ≠ .notImplemented ∧ Q (some v) s') E s) : wpAny (model prog w) A (binaryOp1 nm (.ref x) b) Q E s := by
  obtain ⟨cd, hcd, hm⟩ := any_some hc
  have hm := of_decide_eq_true hm
  obtain ⟨z, hz⟩ := hrr
  unfold binaryOp1
  refine wpAny_bind (I.type.here (wpAny_bind (hb.here (wpAny_bind ((fills_K X hcd hm hs).here ?_)))))
  rw [if_neg (by simp)]
  rw [hfi]
  refine wpAny_bind (wpAny_pure ?_)
  simp only [Bool.and_self, if_true, ite_true]
  refine wpAny_bind ((looks_subIn X hsub).here ?_)
  simp only [Bool.false_eq_true, if_false, Bool.not_false, Bool.and_self, if_true]
  have hnp : Looks (model prog w) s.heap (numberSlotInPython (.ref C) nm) true := by
    unfold numberSlotInPython
    refine (looks_findIn X hs).andThen ?_
    refine Looks.andThen (a := true) .now ?_
    refine (looks_findIn X hR).andThen ?_
    rw [hz]
    refine Looks.andThen (a := z) .now ?_
    rw [Bool.true_or, if_pos rfl]
    exact .now
  refine wpAny_bind (hnp.here ?_)
  simp only [if_true]
  refine wpAny_bind (m := numberSlotInPython (.type "int") nm) (wpAny_pure ?_)
  simp only [Bool.not_false, if_true]
  rw [htk]
  refine wpAny_bind (wpAny_pure ?_)
  refine wpAny_bind (m := tryMethod (.ref x) _ b) ?_
  unfold tryMethod
  refine wpAny_bind (special_fn X I hs (beq_iff_eq.mp hf) (wpAny_mono h (fun v s' hv => ?_) fun _ _ e => e))
  obtain ⟨hv, hq⟩ := hv
  cases v <;> first | exact (hv rfl).elim | exact wpAny_pure (wpAny_pure hq)

theorem bin1_same {nm : String} {b : Value} {Q : Option Value → Shared → Prop} (X : K.In s.heap) (I : InstAt s.heap x ox C od) (hb : Looks (model prog w) s.heap (typeOf b) (.ref C)) (hc : mro2 K C = true)
    (hs : findIn K (.ref C) (PySem.dunder nm) = some (some (.ref f))) (hf : isFn K (.ref f) = true)
    (h : wpAny (model prog w) A (call (.ref f) [.ref x, b]) (fun v s' => v ≠ .notImplemented ∧ Q (some v) s') E s) : wpAny (model prog w) A (binaryOp1 nm (.ref x) b) Q E s := by
  obtain ⟨cd, hcd, hm⟩ := any_some hc
  have hm := of_decide_eq_true hm
  unfold binaryOp1
  refine wpAny_bind (I.type.here (wpAny_bind (hb.here (wpAny_bind ((fills_K X hcd hm hs).here ?_)))))
  simp only [beq_self_eq_true, if_true]
  refine wpAny_bind (wpAny_pure ?_)
  simp only [Bool.and_false, Bool.false_eq_true, if_false, Bool.false_and]
  refine wpAny_bind (wpAny_pure ?_)
  simp only [Bool.false_eq_true, if_false]
  refine wpAny_bind (m := tryMethod (.ref x) _ b) ?_
  unfold tryMethod
  refine wpAny_bind (special_fn X I hs (beq_iff_eq.mp hf) (wpAny_mono h (fun v s' hv => ?_) fun _ _ e => e))
  obtain ⟨hv, hq⟩ := hv
  cases v <;> first | exact (hv rfl).elim | exact wpAny_pure (wpAny_pure hq)
theorem binop_of1 {op : Operator} {a b : Value} {Q : Value → Shared → Prop} (h : wpAny (model prog w) A (binaryOp1 op.info.2 a b) (fun r s' => ∃ v, r = some v ∧ Q v s') E s) : wpAny (model prog w) A (binaryOp op a b) Q E s := by
  unfold binaryOp
  refine wpAny_holding (wpAny_bind (wpAny_mono h (fun r s' hr => ?_) fun _ _ e => e))
  obtain ⟨v, rfl, hq⟩ := hr
  exact wpAny_pure hq
/-- no in-place method of its own -/
theorem looks_noInplace {M : Model} {h : Heap} {nm : String} {add : Bool} (X : K.In h) (hc : mro2 K C = true) (hi : findIn K (.ref C) (dunderI nm) = some none) (ho : typeLookup (.type "object") (dunderI nm) = pure none) : Looks M h (fillsInplaceSlot (.ref C) nm add) false := by
  obtain ⟨cd, hcd, hm⟩ := any_some hc
  have hm := of_decide_eq_true hm
  intro A Q E s k q
  unfold fillsInplaceSlot
  refine wpAny_bind ((looks_clsIn X hcd).andThen (f := fun cd => pure cd.mro) .now A _ E s k ?_)
  rw [hm, List.anyM_cons]
  refine wpAny_bind (wpAny_bind (looks_findIn X hi A _ E s k ?_))
  refine wpAny_pure ?_
  simp only [Bool.false_eq_true, if_false]
  rw [List.anyM_cons]
  refine wpAny_bind ?_
  rw [ho]
  refine wpAny_bind (wpAny_pure ?_)
  refine wpAny_pure ?_
  simp only [Bool.false_eq_true, if_false]
  exact wpAny_pure q
theorem inplace_of1 {op : Operator} {b : Value} {Q : Value → Shared → Prop} (X : K.In s.heap) (I : InstAt s.heap x ox C od) (hc : mro2 K C = true) (hi : findIn K (.ref C) (dunderI op.info.2) = some none) (ho : typeLookup (.type "object") (dunderI op.info.2) = pure none)
    (h : wpAny (model prog w) A (binaryOp1 op.info.2 (.ref x) b) (fun r s' => ∃ v, r = some v ∧ Q v s') E s) : wpAny (model prog w) A (inplaceOp op (.ref x) b) Q E s := by
  unfold inplaceOp
  refine wpAny_holding (wpAny_bind (I.type.here (wpAny_bind ((looks_noInplace X hc hi ho).here ?_))))
  simp only [Bool.false_eq_true, if_false]
  refine wpAny_bind (wpAny_mono h (fun r s' hr => ?_) fun _ _ e => e)
  obtain ⟨v, rfl, hq⟩ := hr
  exact wpAny_pure hq
end

/-! ### a op b where a is an instance of the class c -/
section
open L2
def opB (c : Str) (op : Operator) (K : Frag) : Bool := mro2 K (ca K c) && (decide (subIn K (.type "int") (.ref (ca K c)) = some false) && ((match findIn K (.ref (ca K c)) (dunderR op.info.2) with
  | some none => true
  | some (some (.ref _)) => true
  | _ => false) && decide (findIn K (.ref (ca K c)) (dunderI op.info.2) = some none)))
structure OpK (K : Frag) (c : Str) (op : Operator) : Prop where
  mro : mro2 K (ca K c) = true
  si : subIn K (.type "int") (.ref (ca K c)) = some false
  rr : ∃ rr, findIn K (.ref (ca K c)) (dunderR op.info.2) = some rr ∧ ∃ z, ∀ t, calledByName t (dunderR op.info.2) rr = pure z
  ini : findIn K (.ref (ca K c)) (dunderI op.info.2) = some none
theorem opB_ok {K : Frag} {c : Str} {op : Operator} (h : opB c op K = true) : OpK K c op := by
  obtain ⟨h1, h⟩ := He.ba h
  obtain ⟨h2, h⟩ := He.ba h
  obtain ⟨h3, h4⟩ := He.ba h
  refine ⟨h1, of_decide_eq_true h2, ?_, of_decide_eq_true h4⟩
  cases e : findIn K (.ref (ca K c)) (dunderR op.info.2) with
  | none => rw [e] at h3; cases h3
  | some r =>
    rw [e] at h3
    cases r with
    | none => exact ⟨none, rfl, false, fun _ => rfl⟩
    | some v =>
      cases v with
      | ref g => exact ⟨_, rfl, true, fun _ => rfl⟩
      | _ => cases h3
/-- what the model must say of the int type for an operator -/
structure OpI (op : Operator) : Prop where
  fi : fillsNumberSlot (.type "int") op.info.2 = pure true
  tk : ∃ tk0, typeLookup (.type "int") (dunderR op.info.2) = pure tk0
  ob : typeLookup (.type "object") (dunderI op.info.2) = pure none
theorem opI_mul : OpI .Mult := ⟨by kernel_rfl, ⟨some (.builtin "int.__rmul__"), by kernel_rfl⟩, by kernel_rfl⟩
theorem opI_pow : OpI .Pow := ⟨by kernel_rfl, ⟨some (.builtin "int.__rpow__"), by kernel_rfl⟩, by kernel_rfl⟩
theorem opI_add : OpI .Add := ⟨by kernel_rfl, ⟨some (.builtin "int.__radd__"), by kernel_rfl⟩, by kernel_rfl⟩
theorem opI_sub : OpI .Sub := ⟨by kernel_rfl, ⟨some (.builtin "int.__rsub__"), by kernel_rfl⟩, by kernel_rfl⟩
theorem opI_mod : OpI .Mod := ⟨by kernel_rfl, ⟨some (.builtin "int.__rmod__"), by kernel_rfl⟩, by kernel_rfl⟩
theorem opI_fdiv : OpI .FloorDiv := ⟨by kernel_rfl, ⟨some (.builtin "int.__rfloordiv__"), by kernel_rfl⟩, by kernel_rfl⟩
theorem opI_and : OpI .BitAnd := ⟨by kernel_rfl, ⟨some (.builtin "int.__rand__"), by kernel_rfl⟩, by kernel_rfl⟩
variable {X : Cx} {CX : CXT} {k : Nat} {f C : Addr} {fd : FuncData} {ps : List Str} {sp : Sp} {E : L2.St → XK} {a b : Expr} {ta tb : TE} {pos : Pos} {op : Operator} {c m : Str}
theorem EP.notNI {X : Cx} {pins : List (Addr × Obj)} {σ : L2.St} {Q : VK} {u : Value} {s' : Shared} (h : EP X pins σ Q u s') : u ≠ .notImplemented := by
  obtain ⟨v, H', _, r, _⟩ := h
  intro e
  subst e
  cases v <;> first | exact nomatch r | (obtain ⟨t, r⟩ := r; exact nomatch r)
def tBinO (C : Addr) (sp : Sp) (E : L2.St → XK) (ta tb : TE) : TE := fun σ H Q => ta σ H fun x H1 => tb σ H1 fun y H2 => ∃ a dx fs, x = .ref a ∧ H2 a = some (.ins C dx fs) ∧ ((∃ i, y = .int i) ∨ ∃ b dy gs, y = .ref b ∧ H2 b = some (.ins C dy gs)) ∧ sp [x, y] H2 Q (E σ)
theorem bin1_run {pins : List (Addr × Obj)} {σ : L2.St} {H : Hp} {s : Shared} {Q : VK} {x y : V} {v u : Value} (O : OpK X.K c op) (OI : OpI op) (hm : Meth X.K (ca X.K c) m f) (hop : PySem.dunder op.info.2 = m) (F : FnOk X.prog X.w X.K X.mg X.base CX k f fd ps sp) (hr : Room k X.A) (hb : Binds X.K fd ps []) (hx : PassesAt CX X σ (E σ))
    (I : Inv X pins σ H s) (rx : RelV x v) (ry : RelV y u) {p dx : Addr} {fs : List (Str × V)} (ex : x = .ref p) (ea : H p = some (.ins (ca X.K c) dx fs)) (hy : (∃ i, y = .int i) ∨ ∃ b dy gs, y = .ref b ∧ H b = some (.ins (ca X.K c) dy gs)) (hsp : sp [x, y] H Q (E σ)) :
    wpAny (model X.prog X.w) X.A (binaryOp1 op.info.2 v u) (fun r s' => ∃ z, r = some z ∧ EP X pins σ Q z s') X.xe s ∧ ∃ (ox : Obj) (od : Option Obj), InstAt s.heap p ox (ca X.K c) od ∧ v = .ref p := by
  subst ex
  obtain rfl : v = Value.ref p := rx
  obtain ⟨mA, J, _⟩ := ins_get I.hok ea
  obtain ⟨od, J, _⟩ := J.look
  have call := run_fnSD (us := [.ref p, u]) (vs := [.ref p, y]) (dvs := []) (ds := []) (Q := Q) F hr hb .nil hx I (.cons rfl (.cons ry .nil)) hsp
  have call' := wpAny_mono call (Q' := fun v s' => v ≠ .notImplemented ∧ ∃ z, some v = some z ∧ EP X pins σ Q z s') (fun z s' h => ⟨EP.notNI h, z, rfl, h⟩) fun _ _ h => h
  refine ⟨?_, _, _, J, rfl⟩
  rcases hy with ⟨i, e⟩ | ⟨q, dy, gs, e, eb⟩
  · subst e
    obtain ⟨t, rfl⟩ := ry
    obtain ⟨rr, hR, hrr⟩ := O.rr
    obtain ⟨tk0, htk⟩ := OI.tk
    exact bin1_int I.kIn J (Looks.of_pure rfl) O.mro (by rw [hop]; exact hm.at_) hm.fn O.si hR OI.fi htk hrr call'
  · subst e
    obtain rfl : u = Value.ref q := ry
    obtain ⟨mB, J', _⟩ := ins_get I.hok eb
    obtain ⟨od', J', _⟩ := J'.look
    exact bin1_same I.kIn J J'.type O.mro (by rw [hop]; exact hm.at_) hm.fn call'
theorem pe_binO (O : OpK X.K c op) (OI : OpI op) (hm : Meth X.K (ca X.K c) m f) (hop : PySem.dunder op.info.2 = m) (F : FnOk X.prog X.w X.K X.mg X.base CX k f fd ps sp) (hr : Room k X.A) (hb : Binds X.K fd ps []) (hx : ∀ σ, PassesAt CX X σ (E σ)) (ha : PE X a ta) (hb' : PE X b tb) : PE X (.BinOp a op b pos) (tBinO (ca X.K c) sp E ta tb) := by
  refine ⟨fun pins s σ H Q I h => ?_⟩
  refine wpAny_BinOp (bin ha hb' I h fun v u s2 x y H2 I2 rx ry q => ?_)
  obtain ⟨p, dx, fs, ex, ea, hy, hsp⟩ := q
  exact binop_of1 (bin1_run O OI hm hop F hr hb (hx σ) I2 rx ry ex ea hy hsp).1
/-- name op= e -/
def tAugO (i : Nat) (C : Addr) (sp : Sp) (E : L2.St → XK) (te : TE) : TS := fun D σ H => ∃ x, σ[i]? = some (some x) ∧ te σ H fun y H1 => ∃ a dx fs, x = .ref a ∧ H1 a = some (.ins C dx fs) ∧ ((∃ i, y = .int i) ∨ ∃ b dy gs, y = .ref b ∧ H1 b = some (.ins C dy gs)) ∧ sp [x, y] H1 (fun z H2 => D.nx (σ.set i (some z)) H2) (E σ)
theorem ps_augO {i : Nat} {n : Str} {pos' : Pos} (O : OpK X.K c op) (OI : OpI op) (hm : Meth X.K (ca X.K c) m f) (hop : PySem.dunder op.info.2 = m) (F : FnOk X.prog X.w X.K X.mg X.base CX k f fd ps sp) (hr : Room k X.A) (hb : Binds X.K fd ps []) (hx : ∀ σ, PassesAt CX X σ (E σ)) (he : PE X b tb)
    (hN : X.N.Nodup) (hi : X.N[i]? = some n) (hn : Loc X.env.scope n) (hf : X.fn n = true ∨ X.env.scope.names.lookup n = some .local) : PS X (.AugAssign (.Name n pos') op b pos) (tAugO i (ca X.K c) sp E tb) := by
  refine ⟨fun pins s σ H D I h => ?_⟩
  obtain ⟨v, e1, h⟩ := h
  obtain ⟨mm, hnn, hl⟩ := I.loc
  have vis : Vis X.env.scope n := by rcases hn with k | k; exact .inl k; exact .inr (.inl k)
  obtain ⟨u, r, l⟩ := hl i n v hi e1 vis
  refine wpAny_AugAssign_Name ?_
  have go : wpAny (model X.prog X.w) X.A (eval b X.env) (fun w s₂ => wpAny (model X.prog X.w) X.A (inplaceOp op u w) (fun r s₃ => wpAny (model X.prog X.w) X.A (storeName X.env n r) (fun _ => SP X pins D .next) X.xe s₃) X.xe s₂) X.xe s := by
    refine thn (he.run pins s σ H _ I h) fun w s1 ⟨y, H1, I1, r1, p, dx, fs, ex, ea, hy, hsp⟩ => ?_
    obtain ⟨h1, ox, od, J, ev⟩ := bin1_run O OI hm hop F hr hb (hx σ) I1 r r1 ex ea hy hsp
    subst ev
    refine inplace_of1 I1.kIn J O.mro O.ini OI.ob (wpAny_mono h1 (fun rr s2 ⟨z, ez, zv, H2, I2, r2, q2⟩ => ⟨z, ez, ?_⟩) fun _ _ h => h)
    exact store_ok I2 hN hi hn r2 (fun s3 I3 => ⟨_, H2, I3, q2⟩) hf
  rcases l with ⟨hk, hm'⟩ | ⟨hk, c', hc, hcell⟩
  · exact wpAny_loadName_local I.ok.kind hk hnn hm' go
  · rcases hk with hk | hk
    · exact wpAny_loadName_cell I.ok.kind hk hc hcell go
    · rcases hn with k | k
      · have : X.env.scope.names.lookup n = some .free := hk
        rw [k] at this; cases this
      · have : X.env.scope.names.lookup n = some .free := hk
        rw [k] at this; cases this
end
section
open L2
/-- the right operand: an int, or one of the same class -/
def rOk (c : Str) : D → Prop
  | .int _ => True
  | .obj c' _ => c' = c
  | _ => False
def dBinO (c : Str) (F : DF) (a b : DE) : DE := fun x ρ n q => a x ρ n fun u n1 => b x ρ n1 fun v n2 => (∃ fs, u = .obj c fs) ∧ rOk c v ∧ F x.w [u, v] n2 q x.ex
variable {X : Cx} {W : WX} {k : Nat} {F : DF} {c m n : Str} {a b : Expr} {δa δb : DE} {pos pos' : Pos} {op : Operator}
theorem rOk_at {K : Frag} {G H : Hp} {d : D} {v : V} (h : rOk c d) (le : Le G H) (r : Rep K G d v) : (∃ i, v = .int i) ∨ ∃ b dy gs, v = .ref b ∧ H b = some (.ins (ca K c) dy gs) := by
  cases d with
  | int i => cases r; exact .inl ⟨i, rfl⟩
  | obj c' fs =>
    cases r with
    | obj e _ =>
      have h : c' = c := h
      subst h
      exact .inr ⟨_, _, _, rfl, le.get e⟩
  | _ => exact h.elim
theorem pd_binO (O : OpK X.K c op) (OI : OpI op) (S : Mg X.prog X.w X.K X.mg X.base c m k 2 F []) (hr : Room k X.A) (tk : Takes X W) (ha : PD X W a δa) (hb : PD X W b δb) (hop : PySem.dunder op.info.2 = m := by decide +kernel) : PD X W (.BinOp a op b pos) (dBinO c F δa δb) := by
  obtain ⟨ta, pa, ea⟩ := ha
  obtain ⟨tb, pb, eb⟩ := hb
  obtain ⟨f, fd, ps, ds, dvs, hF, hm, hbd, hd, hdv⟩ := S.ex
  have ev : dvs = [] := by
    have z := hdv (fun _ => none)
    cases z
    rfl
  subst ev
  cases hd
  refine ⟨_, pe_binO O OI hm hop hF hr hbd (fun σ => passAt tk σ) pa pb, fun B σ H ρ n G α Q x q hK R hx h kk => ?_⟩
  refine ea B σ H ρ n G α _ x _ hK R hx h fun v1 H1 G1 d1 n1 s1 j1 r1 h1 => ?_
  have R1 := R.step s1 j1
  refine eb B σ H1 ρ n1 G1 α _ x _ hK R1 (hx.step s1) h1 fun v2 H2 G2 d2 n2 s2 j2 r2 h2 => ?_
  have R2 := R1.step s2 j2
  have hx2 := (hx.step s1).step s2
  obtain ⟨⟨fs, ed⟩, hok, h2⟩ := h2
  subst ed
  rw [hx.1] at h2
  have r1' := r1.mono s2.le
  cases r1' with
  | obj e rf =>
    refine ⟨_, _, _, rfl, s2.hh.get e, rOk_at hok s2.hh r2, B.W, n2, G2, [_, d2], q, x.ex, s2.hh, R2.rg, j2, .cons (.obj e rf) (.cons r2 .nil), rfl, h2, fun v H' G' d n' s j r hq => kk v H' G' d n' ((s1.trans s2).trans s) j r hq, fun cc dd H' G' e n' s j r hq => hx2.2 cc dd H' G' e n' s j (hK ▸ r) hq⟩
def dAugO (i : Nat) (c : Str) (F : DF) (b : DE) : DS := fun E ρ n => match ρ[i]? with
  | some (some (Sl.val u)) => b (E.xx ρ) ρ n fun v n2 => (∃ fs, u = .obj c fs) ∧ rOk c v ∧ F E.w [u, v] n2 (fun z n3 => E.nx (ρ.set i (some (.val z))) n3) fun e n3 => E.ex e ρ n3
  | _ => False
theorem ps_augOD (i : Nat) (O : OpK X.K c op) (OI : OpI op) (S : Mg X.prog X.w X.K X.mg X.base c m k 2 F []) (hr : Room k X.A) (tk : Takes X W) (hb : PD X W b δb) (hN : X.N.Nodup) (hop : PySem.dunder op.info.2 = m := by decide +kernel)
    (hi : X.N[i]? = some n := by rfl) (hn : Loc X.env.scope n := by first | exact Or.inl rfl | exact Or.inr rfl) (hf : X.fn n = true ∨ X.env.scope.names.lookup n = some .local := by first | exact .inl rfl | exact .inr rfl) : PSD X W (.AugAssign (.Name n pos') op b pos) (dAugO i c F δb) := by
  obtain ⟨tb, pb, eb⟩ := hb
  obtain ⟨f, fd, ps, ds, dvs, hF, hm, hbd, hd, hdv⟩ := S.ex
  have ev : dvs = [] := by
    have z := hdv (fun _ => none)
    cases z
    rfl
  subst ev
  cases hd
  refine ⟨_, ps_augO O OI hm hop hF hr hbd (fun σ => passAt tk σ) pb hN hi hn hf, fun B σ H ρ n G α D E hK R L h => ?_⟩
  unfold dAugO at h
  split at h
  · rename_i u eu
    obtain ⟨v1, e1, r1⟩ := R.val i u eu
    refine ⟨v1, e1, ?_⟩
    refine eb B σ H ρ n G α _ _ _ hK R (L.xl R) h fun v2 H2 G2 d2 n2 s2 j2 r2 h2 => ?_
    have R2 := R.step s2 j2
    obtain ⟨⟨fs, ed⟩, hok, h2⟩ := h2
    subst ed
    rw [L.w] at h2
    have r1' := r1.mono s2.le
    rw [hK] at r1'
    cases r1' with
    | obj e rf =>
      exact ⟨_, _, _, rfl, s2.hh.get e, rOk_at hok s2.hh r2, B.W, n2, G2, [_, d2], _, _, s2.hh, R2.rg, j2, .cons (.obj e rf) (.cons r2 .nil), rfl, h2, fun v H' G' d n' s j r hq => L.nx _ H' _ n' G' α ((R2.step s j).set i (hK ▸ r)) hq, fun cc dd H' G' e n' s j r hq => L.ex cc dd σ H' ρ n' G' α e (R2.step s j) (hK ▸ r) hq⟩
  · exact h.elim
end
end DL

end

/-! DLd -/
section
set_option autoImplicit false
/-! DLd: more that is walked (dicts, enumerate, zip), list(d.items()), {k: v}, extend, a, b = .. with new objects, statements that are never reached. -/
namespace DL
open PySem PySem.Spec L2
def keyOf : Key → D
  | .inl i => .int i
  | .inr x => .str x
theorem keyOf_rep {K : PySem.W.Frag} {G : Hp} (k : Key) : Rep K G (keyOf k) (kV k) := by
  cases k with
  | inl i => exact .int i
  | inr x => exact .str x
section
variable {K : PySem.W.Frag} {G : Hp}
theorem RepK.getV : ∀ {kvs : List (Key × D)} {ws : List (Key × V)} {i : Nat} {k : Key} {v : V}, RepK K G kvs ws → ws[i]? = some (k, v) → ∃ d, kvs[i]? = some (k, d) ∧ Rep K G d v
  | _, _, _, _, _, .nil, e => by simp at e
  | _, _, 0, _, _, .cons r _, e => by
    simp at e
    obtain ⟨rfl, rfl⟩ := e
    exact ⟨_, rfl, r⟩
  | _, _, i + 1, k, v, .cons _ t, e => by
    obtain ⟨u, h1, h2⟩ := RepK.getV (i := i) (k := k) (v := v) t (by simpa using e)
    exact ⟨u, by simpa using h1, h2⟩
theorem walkD_keys {d : Addr} {o : Obj} {ws : List (Key × V)} {kvs : List (Key × D)} (e : G d = some (.frz o (.dK ws))) (r : RepK K G kvs ws) : WalkD K (Itk d o ws) G (kvs.map fun kv => keyOf kv.1) := by
  have hl := r.length
  refine ⟨fun i H G' hi l1 l2 => ⟨l2.get (l1.get e), by simpa [hl] using hi⟩, fun H G' l1 l2 => ⟨l2.get (l1.get e), by simp [hl]⟩, fun i H G' x H' hi l1 l2 y => ?_⟩
  obtain ⟨rfl, k, v, e1, rfl⟩ := y
  obtain ⟨dd, h1, h2⟩ := r.getV e1
  exact ⟨keyOf k, G', by rw [List.getElem?_map, h1]; rfl, .refl l2, keyOf_rep k⟩
theorem walkD_items {d : Addr} {o : Obj} {ws : List (Key × V)} {kvs : List (Key × D)} (e : G d = some (.frz o (.dK ws))) (r : RepK K G kvs ws) : WalkD K (Iti d o ws) G (kvs.map fun kv => D.tup [keyOf kv.1, kv.2]) := by
  have hl := r.length
  refine ⟨fun i H G' hi l1 l2 => ⟨l2.get (l1.get e), by simpa [hl] using hi⟩, fun H G' l1 l2 => ⟨l2.get (l1.get e), by simp [hl]⟩, fun i H G' x H' hi l1 l2 y => ?_⟩
  obtain ⟨T, k, v, e1, rfl, nT, rfl⟩ := y
  obtain ⟨dd, h1, h2⟩ := r.getV e1
  have s := StepP.made (o := .tup [kV k, v]) l2 nT
  exact ⟨.tup [keyOf k, dd], _, by rw [List.getElem?_map, h1]; rfl, s, .tup (.inl (.inl upd_same)) (.cons (keyOf_rep k) (.cons (h2.mono (l1.trans s.le)) .nil))⟩
def enumD (ds : List D) : List D := (List.range ds.length).map fun (i : Nat) => D.tup [.int (i : Int), ds.getD i .non]
theorem walkD_enum {a : Addr} {vs : List V} {ds : List D} (e : G a = some (.lst vs)) (r : RepL K G ds vs) : WalkD K (Ite K a) G (enumD ds) := by
  have hl := r.length
  have hle : (enumD ds).length = ds.length := by simp [enumD]
  refine ⟨fun i H G' hi l1 l2 => ?_, fun H G' l1 l2 => ?_, fun i H G' x H' hi l1 l2 y => ?_⟩
  · rw [hle, hl] at hi
    exact ⟨vs, vs[i], SqL.of (l2.get (l1.get e)), List.getElem?_eq_getElem hi⟩
  · exact ⟨vs, SqL.of (l2.get (l1.get e)), by rw [hle, hl]; exact Nat.le_refl _⟩
  · rw [hle] at hi
    obtain ⟨T, v, rfl, nT, rfl, hv⟩ := y
    have e1 := hv vs (SqL.of (l2.get (l1.get e)))
    obtain ⟨dd, h1, h2⟩ := r.getV e1
    have s := StepP.made (o := .tup [.int (i : Nat), v]) l2 nT
    refine ⟨.tup [.int i, dd], _, ?_, s, .tup (.inl (.inl upd_same)) (.cons (.int _) (.cons (h2.mono (l1.trans s.le)) .nil))⟩
    rw [List.getElem?_eq_getElem hi] at h1
    injection h1 with h1
    simp [enumD, hi, List.getD, h1]
def zipD (ds es : List D) : List D := (ds.zip es).map fun p => D.tup [p.1, p.2]
theorem walkD_zip {a b : Addr} {vs us : List V} {ds es : List D} (e : G a = some (.lst vs)) (r : RepL K G ds vs) (e' : G b = some (.lst us)) (r' : RepL K G es us) : WalkD K (Itz K a b) G (zipD ds es) := by
  have hl := r.length
  have hl' := r'.length
  have hle : (zipD ds es).length = min ds.length es.length := by simp [zipD]
  refine ⟨fun i H G' hi l1 l2 => ?_, fun H G' l1 l2 => ?_, fun i H G' x H' hi l1 l2 y => ?_⟩
  · rw [hle] at hi
    exact ⟨vs, us, vs[i]'(by omega), us[i]'(by omega), SqL.of (l2.get (l1.get e)), SqL.of (l2.get (l1.get e')), List.getElem?_eq_getElem _, List.getElem?_eq_getElem _⟩
  · exact ⟨vs, us, SqL.of (l2.get (l1.get e)), SqL.of (l2.get (l1.get e')), by rw [hle]; omega⟩
  · rw [hle] at hi
    obtain ⟨T, v, u, rfl, nT, rfl, hv, hu⟩ := y
    obtain ⟨dd, h1, h2⟩ := r.getV (hv vs (SqL.of (l2.get (l1.get e))))
    obtain ⟨de, h3, h4⟩ := r'.getV (hu us (SqL.of (l2.get (l1.get e'))))
    have s := StepP.made (o := .tup [v, u]) l2 nT
    refine ⟨.tup [dd, de], _, ?_, s, .tup (.inl (.inl upd_same)) (.cons (h2.mono (l1.trans s.le)) (.cons (h4.mono (l1.trans s.le)) .nil))⟩
    rw [zipD, List.getElem?_map, (List.getElem?_zip_eq_some (z := (dd, de))).mpr ⟨h1, h3⟩]
    rfl
theorem walkD_zipT {a b : Addr} {vs us : List V} {ds es : List D} (e : SqT K G a vs) (r : RepL K G ds vs) (e' : SqT K G b us) (r' : RepL K G es us) : WalkD K (RZ.ItzT K a b) G (zipD ds es) := by
  have hl := r.length
  have hl' := r'.length
  have hle : (zipD ds es).length = min ds.length es.length := by simp [zipD]
  refine ⟨fun i H G' hi l1 l2 => ?_, fun H G' l1 l2 => ?_, fun i H G' x H' hi l1 l2 y => ?_⟩
  · rw [hle] at hi
    exact ⟨vs, us, vs[i]'(by omega), us[i]'(by omega), l2.sqT (l1.sqT e), l2.sqT (l1.sqT e'), List.getElem?_eq_getElem _, List.getElem?_eq_getElem _⟩
  · exact ⟨vs, us, l2.sqT (l1.sqT e), l2.sqT (l1.sqT e'), by rw [hle]; omega⟩
  · rw [hle] at hi
    obtain ⟨T, v, u, rfl, nT, rfl, hv, hu⟩ := y
    obtain ⟨dd, h1, h2⟩ := r.getV (hv vs (l2.sqT (l1.sqT e)))
    obtain ⟨de, h3, h4⟩ := r'.getV (hu us (l2.sqT (l1.sqT e')))
    have s := StepP.made (o := .tup [v, u]) l2 nT
    refine ⟨.tup [dd, de], _, ?_, s, .tup (.inl (.inl upd_same)) (.cons (h2.mono (l1.trans s.le)) (.cons (h4.mono (l1.trans s.le)) .nil))⟩
    rw [zipD, List.getElem?_map, (List.getElem?_zip_eq_some (z := (dd, de))).mpr ⟨h1, h3⟩]
    rfl
end
def iKy (δ : DE) : DI := fun x ρ n q => δ x ρ n fun d n1 => match d with
  | .dct kvs => q (kvs.map fun kv => keyOf kv.1) n1
  | _ => False
def iIt (δ : DE) : DI := fun x ρ n q => δ x ρ n fun d n1 => match d with
  | .dct kvs => q (kvs.map fun kv => D.tup [keyOf kv.1, kv.2]) n1
  | _ => False
def iEn (δ : DA) : DI := fun x ρ n q => δ x ρ n fun ds n1 => match ds with
  | [.lst es] => q (enumD es) n1
  | _ => False
def iZp (δ : DA) : DI := fun x ρ n q => δ x ρ n fun ds n1 => match ds with
  | [.lst a, .lst b] => q (zipD a b) n1
  | [.tup a, .tup b] => q (zipD a b) n1
  | _ => False
section
variable {X : Cx} {W : WX} {tg e a b c : Expr} {δ : DE} {α' : DA} {p pos tpos apos cpos : Pos} {elts : List Expr} {kk : Nat}
theorem pid_keys (h : PD X W e δ) : PID X W tg e (iKy δ) := by
  obtain ⟨t, pe, h⟩ := h
  refine ⟨_, pi_keys pe, fun B σ H ρ n G α R x q hK RB hx hd k => ?_⟩
  refine h B σ H ρ n G α _ x _ hK RB hx hd fun v H1 G1 d n1 s1 j1 r1 h1 => ?_
  cases d with
  | dct kvs =>
    cases r1 with
    | dct e r => exact ⟨_, _, rfl, .inl ⟨_, s1.hh.get e, k _ H1 G1 _ n1 s1 j1 (walkD_keys e r) h1⟩⟩
  | _ => exact h1.elim
theorem pid_items (h : PD X W e δ) (hbase : attributeBase e "items" X.env (eval e X.env) = eval e X.env := by rfl) (hline : (apos.endLine == cpos.line) = true := by rfl) : PID X W (.Tuple elts kk tpos) (.Call (.Attribute e "items" apos) [] [] cpos) (iIt δ) := by
  obtain ⟨t, pe, h⟩ := h
  refine ⟨_, pi_items pe hbase hline, fun B σ H ρ n G α R x q hK RB hx hd k => ?_⟩
  refine h B σ H ρ n G α _ x _ hK RB hx hd fun v H1 G1 d n1 s1 j1 r1 h1 => ?_
  cases d with
  | dct kvs =>
    cases r1 with
    | dct e r => exact ⟨_, _, _, rfl, s1.hh.get e, k _ H1 G1 _ n1 s1 j1 (walkD_items e r) h1⟩
  | _ => exact h1.elim
theorem pid_enum (hg : Gl X "enumerate") (hm : X.mg "enumerate" = none) (ha : PAD X W [e] α') (hs : starEach [e] X.env = [(false, eval e X.env)] := by rfl) : PID X W (.Tuple elts kk tpos) (.Call (.Name "enumerate" p) [e] [] pos) (iEn α') := by
  obtain ⟨t, pa, h⟩ := ha
  refine ⟨_, pi_enum hg hm pa hs, fun B σ H ρ n G α R x q hK RB hx hd k => ?_⟩
  refine h B σ H ρ n G α _ x _ hK RB hx hd fun vs H1 G1 ds n1 s1 j1 r1 h1 => ?_
  split at h1
  · cases r1 with
    | cons r t =>
      cases t
      cases r with
      | lst e r => exact ⟨_, _, rfl, SqL.of (s1.hh.get e), k _ H1 G1 _ n1 s1 j1 (walkD_enum e r) h1⟩
  · exact h1.elim
theorem pid_zip (hg : Gl X "zip") (hm : X.mg "zip" = none) (ha : PAD X W [a, b] α') (hs : starEach [a, b] X.env = (false, eval a X.env) :: starEach [b] X.env := by rfl) (hpl : (backTo pos (starEach [b] X.env)).any (·.1) = false := by rfl) : PID X W (.Tuple elts kk tpos) (.Call (.Name "zip" p) [a, b] [] pos) (iZp α') := by
  obtain ⟨t, pa, h⟩ := ha
  refine ⟨_, RZ.pi_zipA hg hm pa hs hpl, fun B σ H ρ n G α R x q hK RB hx hd k => ?_⟩
  refine h B σ H ρ n G α _ x _ hK RB hx hd fun vs H1 G1 ds n1 s1 j1 r1 h1 => ?_
  split at h1
  · cases r1 with
    | cons r t =>
      cases t with
      | cons r' t =>
        cases t
        cases r with
        | lst e r =>
          cases r' with
          | lst e' r' => exact ⟨_, _, _, _, rfl, .inl ⟨SqL.of (s1.hh.get e), SqL.of (s1.hh.get e'), k _ H1 G1 _ n1 s1 j1 (walkD_zip e r e' r') h1⟩⟩
  · cases r1 with
    | cons r t =>
      cases t with
      | cons r' t =>
        cases t
        cases r with
        | tup e r =>
          cases r' with
          | tup e' r' => exact ⟨_, _, _, _, rfl, .inr ⟨s1.hh.sqT e, s1.hh.sqT e', k _ H1 G1 _ n1 s1 j1 (walkD_zipT e r e' r') h1⟩⟩
  · exact h1.elim
theorem pid_r3 (hg : Gl X "range") (hm : X.mg "range" = none) (ha : PAB X W [a, b, c] α') (hs : starEach [a, b, c] X.env = (false, eval a X.env) :: starEach [b, c] X.env := by rfl) (hpl : (backTo pos (starEach [b, c] X.env)).any (·.1) = false := by rfl) : PID X W tg (.Call (.Name "range" p) [a, b, c] [] pos) (iR3 α') := by
  obtain ⟨t, pa, h⟩ := ha
  refine ⟨_, pi_range3 hg hm pa hs hpl, fun B σ H ρ n G α R x q hK RB hx hd k => ?_⟩
  refine h B σ H ρ n G α _ x _ hK RB hx hd fun vs H1 G1 ds n1 s1 j1 r1 h1 => ?_
  split at h1
  · rename_i i j c
    obtain ⟨rfl, hb, h1⟩ := h1
    cases r1 with
    | cons r t =>
      cases t with
      | cons r' t =>
        cases t with
        | cons r'' t =>
          cases t
          exact ⟨i, j, -1, _, by rw [r.int, r'.int, r''.int], RgC.neg hb.1 hb.2.1 hb.2.2.1 hb.2.2.2, k _ H1 G1 _ n1 s1 j1 (walkD_rangeC i (-1) _) h1⟩
  · exact h1.elim
end

/-! ### list(d.items()) -/
def tListItemsR (te : TE) : TE := fun σ H Q => te σ H fun x H1 => ∃ d kvs, x = .ref d ∧ Rd H1 d (.dK kvs) ∧ ∀ (H' : Hp) (S : Addr) (as : List Addr), (∀ b o, H1 b = some o → H' b = some o) → H1 S = none → (∀ t ∈ as, H1 t = none) → S ∉ as → H' S = some (.lst (as.map V.ref)) → Paired (fun (t : Addr) (q : Key × V) => H' t = some (.tup [kV q.1, q.2])) as kvs → Q (.ref S) H'
section
variable {X : Cx} {W : WX} {e : Expr} {te : TE} {p apos cpos pos : Pos} {δ : DE}
open LiI in
theorem pe_listItemsR (hc : X.calm = true) (he : PE X e te) (hg : Gl X "list") (hm : X.mg "list" = none) (hv : bootBuiltins "list" = some (.type "list")) (hbase : attributeBase e "items" X.env (eval e X.env) = eval e X.env := by rfl) (hline : (apos.endLine == cpos.line) = true := by rfl)
    (hs : starEach [.Call (.Attribute e "items" apos) [] [] cpos] X.env = (false, eval (.Call (.Attribute e "items" apos) [] [] cpos) X.env) :: starEach [] X.env := by rfl) :
    PE X (.Call (.Name "list" p) [.Call (.Attribute e "items" apos) [] [] cpos] [] pos) (tListItemsR te) := by
  refine ⟨fun pins s σ H Q I hq => ?_⟩
  refine wpAny_Call_Name_kw (ld_blt I hg hm hv ?_)
  refine PyProof.Rows.callWith_type1 ?_ hs rfl
  rw [hs]
  show wpAny _ _ (spliced ((false, eval (.Call (.Attribute e "items" apos) [] [] cpos) X.env) :: backTo pos (starEach [] X.env))) _ _ s
  refine Calls.spliced_cons ?_
  refine wpAny_Call_method (T := "dict") (id := "dict.items") hbase rfl hline F.plainAttrs_dict F.slot_dict_items F.type_dict_items (thn (he.run pins s σ H _ I hq) fun u s1 ⟨x, H1, I1, rx, d, kvs, ex, hd, q⟩ => ?_)
  subst ex
  obtain rfl : u = Value.ref d := rx
  obtain ⟨hz, hs0, vs, kv, hdo⟩ := dk_rd I1.hok hd
  obtain ⟨ep, hat⟩ := hdo.dictAt
  have lk : kvs.length = vs.length := Paired.length kv
  have I2 : Inv X pins σ H1 { s1 with heap := s1.heap.push { cls := .type "dict_items", data := .fields #[.ref d] } } := I1.kept (t' := s1.toks) fun b ob q => Heap.get?_push_of_some _ q
  refine ⟨hdo.typeIs, hdo.mapOf.noDict, ?_⟩
  show wpAny _ _ (callWith cpos (.builtin "dict.items") [.ref d] [] []) _ X.xe s1
  refine method_meetsIn F.slot_dict_items F.entry_dict_items rfl (PySem.evalArgs_none ⟨rfl, hdo.typeIs, F.args_dict_items_1 _, _, meets_dict_items (mixKind X.prog X.w) d hs0, ⟨vs, hdo⟩, ?_⟩)
  refine Calls.spliced_nil ?_
  refine PySem.W.kdx_call (knd := mixKind X.prog X.w) (kvs := vs) (ep := ep) (I1.ok.hd hc) ⟨_, Heap.get?_push_size _ rfl, rfl, rfl⟩ (hat.push _) (by omega) fun h' tk acc c as hk hS hl hG hacc => ?_
  obtain ⟨H', k1, k2, k3, k4, k5, k6, J⟩ := items_laid (tk := tk) I2 hz kv hk hS hl hG hacc
  exact ⟨.ref _, H', J, rfl, q H' _ as k1 k2 k3 k4 k5 k6⟩
def itemsD (kvs : List (Key × D)) : List D := kvs.map fun kv => D.tup [keyOf kv.1, kv.2]
def dItems (δ : DE) : DE := fun x ρ n q => δ x ρ n fun d n1 => match d with
  | .dct kvs => q (.lst (itemsD kvs)) n1
  | _ => False
/-- the things at as, taken into G -/
def takeG (G H' : Hp) (as : List Addr) : Hp := fun b => if b ∈ as then H' b else G b
theorem pd_listItems (hc : X.calm = true) (he : PB X W e δ) (hg : Gl X "list") (hm : X.mg "list" = none) (hbase : attributeBase e "items" X.env (eval e X.env) = eval e X.env := by rfl) (hline : (apos.endLine == cpos.line) = true := by rfl)
    (hs : starEach [.Call (.Attribute e "items" apos) [] [] cpos] X.env = (false, eval (.Call (.Attribute e "items" apos) [] [] cpos) X.env) :: starEach [] X.env := by rfl) :
    PD X W (.Call (.Name "list" p) [.Call (.Attribute e "items" apos) [] [] cpos] [] pos) (dItems δ) := by
  obtain ⟨t, pe, h⟩ := he
  refine ⟨_, pe_listItemsR hc pe hg hm (by decide +kernel) hbase hline hs, fun B σ H ρ n G α Q x q hK R hx hd k => ?_⟩
  refine h B σ H ρ n G α _ x _ hK R hx hd fun v H1 G1 d n1 s1 j1 r1 h1 => ?_
  cases d with
  | dct kvs =>
    obtain ⟨a, ws, rfl, hrd, rk⟩ := r1.dct s1.hh
    refine ⟨a, ws, rfl, hrd, fun H' S as k1 k2 k3 k4 k5 k6 => ?_⟩
    have gS : G1 S = none := by
      cases q : G1 S with
      | none => rfl
      | some u => have := s1.hh.get q; rw [k2] at this; cases this
    have gas : ∀ t ∈ as, G1 t = none := fun t ht => by
      cases q : G1 t with
      | none => rfl
      | some u => have := s1.hh.get q; rw [k3 t ht] at this; cases this
    have s2 : StepP H1 G1 H' (takeG G1 H' (S :: as)) := by
      refine ⟨k1, fun b o e => ⟨o, ?_, rfl⟩, fun b o e => ⟨o, ?_, rfl⟩, fun b e => ?_⟩
      · unfold takeG
        rw [if_neg]
        · exact e
        · intro z
          rcases List.mem_cons.mp z with z | z
          · rw [z, gS] at e; cases e
          · rw [gas b z] at e; cases e
      · unfold takeG at e
        split at e
        · exact e
        · exact k1 b o (s1.hh.get e)
      · by_cases z : b ∈ S :: as
        · rcases List.mem_cons.mp z with z | z
          · exact .inr (z ▸ k2)
          · exact .inr (k3 b z)
        · unfold takeG at e
          rw [if_neg z] at e
          exact .inl e
    have rl : ∀ {as' : List Addr} {ws : List (Key × V)} {kvs : List (Key × D)}, (∀ b ∈ as', b ∈ S :: as) → Paired (fun (t : Addr) (q : Key × V) => H' t = some (.tup [kV q.1, q.2])) as' ws → RepK X.K G1 kvs ws → RepL X.K (takeG G1 H' (S :: as)) (itemsD kvs) (as'.map V.ref) := by
      intro as' ws kvs hin pr
      induction pr generalizing kvs with
      | nil => intro r; cases r; exact .nil
      | @cons t q ts qs h1 t1 ih =>
        intro r
        cases r with
        | cons r1 r2 =>
          refine .cons (.tup (.inl (.inl ?_)) (.cons (keyOf_rep _) (.cons (r1.mono s2.le) .nil))) (ih (fun b hb => hin b (List.mem_cons_of_mem _ hb)) r2)
          unfold takeG
          rw [if_pos (hin t (List.mem_cons_self ..))]
          exact h1
    refine k _ H' _ _ n1 (s1.trans (s2.step j1)) (s2.J j1) (.lst (vs := as.map V.ref) ?_ (rl (fun b hb => List.mem_cons_of_mem _ hb) k6 rk)) h1
    unfold takeG
    rw [if_pos (List.mem_cons_self ..)]
    exact k5
  | _ => exact h1.elim
end

/-! ### {k: v, ..} -/
abbrev DKV := DX → Env → Nat → (List (Key × D) → Nat → Prop) → Prop
def EKV (K : PySem.W.Frag) (W : WX) (trs : List (TE × TE)) (δ : DKV) : Prop :=
  ∀ (B : Bs) (σ : St) (H : Hp) (ρ : Env) (n : Nat) (G : Hp) (α : Nat → Addr) (Q : List (V × V) → Hp → Prop) (x : DX) (q : List (Key × D) → Nat → Prop), B.K = K → RelB B σ H ρ n G α → XL B W σ H G x → δ x ρ n q →
    (∀ ws H' G' kvs n', Step B.W H G H' G' → B.W.J n' H' → RepK K G' kvs ws → q kvs n' → Q (ws.map fun kv => (kV kv.1, kv.2)) H') → tPairs trs σ H Q
def PKV (X : Cx) (W : WX) (pos : Pos) (ks : List (Option Expr)) (vs : List Expr) (δ : DKV) : Prop := ∃ trs, PPs X pos ks vs trs ∧ EKV X.K W trs δ
def kv0 : DKV := fun _ _ n q => q [] n
def kvC (a b : DE) (r : DKV) : DKV := fun x ρ n q => a x ρ n fun k n1 => b x ρ n1 fun d n2 => opt (keyD k) fun j => r x ρ n2 fun kvs n3 => q ((j, d) :: kvs) n3
def dDisp (r : DKV) : DE := fun x ρ n q => r x ρ n fun kvs n1 => kvs.length ≤ 15 ∧ q (.dct (mergeD [] kvs)) n1
section
variable {X : Cx} {W : WX} {pos : Pos} {k v : Expr} {ks : List (Option Expr)} {vs : List Expr} {a b : DE} {r : DKV}
theorem pkv_nil : PKV X W pos [] [] kv0 := ⟨_, pps_nil, fun B σ H ρ n G α Q x q hK R hx hd k => k [] H G [] n (.refl _ R.le) R.J .nil hd⟩
theorem pkv_cons (hk : PD X W k a) (hv : PD X W v b) (hr : PKV X W pos ks vs r) : PKV X W pos (some k :: ks) (v :: vs) (kvC a b r) := by
  obtain ⟨ta, pa, ea⟩ := hk
  obtain ⟨tb, pb, eb⟩ := hv
  obtain ⟨tr, pr, er⟩ := hr
  refine ⟨_, pps_cons pa pb pr, fun B σ H ρ n G α Q x q hK R hx hd kk => ?_⟩
  refine ea B σ H ρ n G α _ x _ hK R hx hd fun v1 H1 G1 d1 n1 s1 j1 r1 h1 => ?_
  have R1 := R.step s1 j1
  refine eb B σ H1 ρ n1 G1 α _ x _ hK R1 (hx.step s1) h1 fun v2 H2 G2 d2 n2 s2 j2 r2 h2 => ?_
  have R2 := R1.step s2 j2
  obtain ⟨j, ej, h2⟩ := opt_some h2
  refine er B σ H2 ρ n2 G2 α _ x _ hK R2 ((hx.step s1).step s2) h2 fun ws H3 G3 kvs n3 s3 j3 r3 h3 => ?_
  have ev := keyD_rep ej (W := B.W) (H := H1) (.inl r1)
  have z := kk ((j, v2) :: ws) H3 G3 ((j, d2) :: kvs) n3 (s1.trans (s2.trans s3)) j3 (.cons (r2.mono s3.le) r3) h3
  rw [ev]
  exact z
theorem pf_disp (h : PKV X W pos ks vs r) (hall : ks.all (·.isSome) = true := by rfl) (hl : ks.length = vs.length := by rfl) (h0 : ks ≠ [] := by intro z; cases z) (h15 : ks.length ≤ 15 := by decide) : PF X W (.Dict ks vs pos) (dDisp r) := by
  obtain ⟨trs, p, e⟩ := h
  refine ⟨_, pe_disp p hall hl h0 h15, fun B σ H ρ n G α Q x q hK R hx hd k => ?_⟩
  intro p0 np
  have s0 := StepP.laid (o := .dK []) R.le np
  have nr : ¬ B.W.rg p0 := fun z => B.W.there n H p0 R.J z np
  have g0 : G p0 = none := by
    cases q : G p0 with
    | none => rfl
    | some u => have := R.le.get q; rw [np] at this; cases this
  have R0 := R.step (s0.step R.J) (s0.J R.J)
  refine e B σ _ ρ n G α _ x _ hK R0 (hx.step (s0.step R.J)) hd fun ws H2 G2 kvs n2 s2 j2 r2 h2 => ?_
  have hp2 := s2.fr p0 _ upd_same nr
  have gp2 := s2.keepD (a := p0) (o := .dK []) upd_same g0
  refine ⟨hp2, ws, rfl, by rw [← r2.length]; exact h2.1, ?_⟩
  refine k p0 _ G2 (.dct (mergeD [] kvs)) n2 (((s0.step R.J).trans s2).updD np gp2) (B.W.stable _ _ _ (fun a r => upd_ne (fun z : a = p0 => nr (z ▸ r))) (fun a e q => (upd_ne fun z : a = p0 => by rw [z, hp2] at q; cases q).trans q) j2) np gp2 nr ⟨_, upd_same, r2.merge .nil⟩ h2.2
end

/-! ### xs.extend(e) -/
def dExt (i : Nat) (δ : DE) : DS := fun E ρ n => match ρ[i]? with
  | some (some (.own (.lst ds))) => δ (E.xx ρ) ρ n fun d n1 => (match d with
    | .lst es => ds.length + es.length ≤ 16777216 ∧ E.nx (ρ.set i (some (.own (.lst (ds ++ es))))) n1
    | _ => False)
  | _ => False
section
variable {X : Cx} {W : WX} {e : Expr} {δ : DE} {pos pos' apos cpos : Pos} {x : Str}
theorem ps_extD (i : Nat) (he : PD X W e δ) (hN : X.N[i]? = some x := by rfl) (hv : Vis X.env.scope x := by first | exact Or.inl rfl | exact Or.inr (Or.inl rfl) | exact Or.inr (Or.inr rfl)) (hd : (x == ("__debug__" : Str)) = false := by decide)
    (hcd : (x == ("__classdict__" : Str)) = false := by decide) (hst : starEach [e] X.env = [(false, eval e X.env)] := by rfl)
    (hbase : attributeBase (.Name x pos') "extend" X.env (eval (.Name x pos') X.env) = eval (.Name x pos') X.env := by rfl)
    (hfew : ((backTo cpos (starEach [e] X.env)).all (fun x => !x.1) && (backToKw cpos (keywordEach [] X.env)).all (fun x => x.1.isSome)
      && decide ([e].length + ([] : List Keyword).length + (if ([] : List Keyword).isEmpty then 0 else 1) < 30)) = true := by rfl)
    (hline : (apos.endLine == cpos.line) = true := by rfl) (hplain : (backTo cpos (starEach [] X.env)).any (·.1) = false := by rfl)
    (hsw : swapsWith (.Call (.Attribute (.Name x pos') "extend" apos) [e] [] cpos) none pos.line X.env = pure false := by rfl) : PSD X W (.Expr (.Call (.Attribute (.Name x pos') "extend" apos) [e] [] cpos) pos) (dExt i δ) := by
  obtain ⟨t, p, h⟩ := he
  refine ⟨_, ps_expr (pe_bm PySem.F.plainAttrs_list PySem.F.slot_list_extend PySem.F.type_list_extend mt_extend (pe_var hN hv hd hcd) (pa_cons p pa_nil hst) hbase hfew hline hst hplain) hsw, fun B σ H ρ n G α D E hK R L hd => ?_⟩
  unfold dExt at hd
  split at hd
  · rename_i ds eo
    obtain ⟨e1, hg, h0, nr, vs, hH, rl⟩ := R.own i _ eo
    refine ⟨_, e1, .inl ⟨rfl, _, SqL.of hH⟩, ?_⟩
    refine h B σ H ρ n G α _ _ _ hK R (L.xl R) hd fun v H' G' d n' s j r hq => ?_
    have R' := R.step s j
    obtain ⟨_, hg', _, _, vs', hH', rl'⟩ := R'.own i _ eo
    cases d with
    | lst es =>
      cases r with
      | @lst b _ us e2 r2 =>
        refine ⟨α i, b, vs', us, rfl, rfl, hH', s.hh.get e2, by rw [sizeLine_eq, ← rl'.length, ← r2.length]; exact hq.1, ?_⟩
        exact L.nx σ _ _ n' G' α (R'.write (d' := .lst (ds ++ es)) (o := .lst (vs' ++ us)) eo ⟨_, upd_same, rl'.append (hK ▸ r2)⟩) hq.2
    | _ => exact hq.elim
  · exact hd.elim
end

/-! ### a, b = .. with new objects -/
abbrev DSl := DX → Env → Nat → (Sl → Nat → Prop) → Prop
def SlRep (K : PySem.W.Frag) (W : Wd) (H0 G H : Hp) : Sl → V → Prop
  | .val d, v => Rep K G d v
  | .own d, v => ∃ a, v = .ref a ∧ H0 a = none ∧ G a = none ∧ ¬ W.rg a ∧ OwnAt K G H a d
theorem SlRep.step {K : PySem.W.Frag} {W : Wd} {H0 G H G' H' : Hp} {sl : Sl} {v : V} (r : SlRep K W H0 G H sl v) (s : Step W H G H' G') : SlRep K W H0 G' H' sl v := by
  cases sl with
  | val d => exact Rep.mono s.le r
  | own d =>
    obtain ⟨a, e, h0, g, nr, o⟩ := r
    obtain ⟨u, q⟩ := o.there
    exact ⟨a, e, h0, s.keepD q g, nr, o.mono s.le fun o q => s.fr _ o q nr⟩
def ES (K : PySem.W.Frag) (W : WX) (t : TE) (δ : DSl) : Prop :=
  ∀ (B : Bs) (σ : St) (H : Hp) (ρ : Env) (n : Nat) (G : Hp) (α : Nat → Addr) (Q : VK) (x : DX) (q : Sl → Nat → Prop), B.K = K → RelB B σ H ρ n G α → XL B W σ H G x → δ x ρ n q →
    (∀ v H' G' sl n', Step B.W H G H' G' → B.W.J n' H' → SlRep K B.W H G' H' sl v → q sl n' → Q v H') → t σ H Q
def PSl (X : Cx) (W : WX) (e : Expr) (δ : DSl) : Prop := ∃ t, PE X e t ∧ ES X.K W t δ
def slV (δ : DE) : DSl := fun x ρ n q => δ x ρ n fun d n1 => q (.val d) n1
def slO (δ : DE) : DSl := fun x ρ n q => δ x ρ n fun d n1 => q (.own d) n1
section
variable {X : Cx} {W : WX} {a b c e : Expr} {δ : DE} {δ1 δ2 δ3 : DSl} {pos : Pos} {x y z : Str}
theorem PD.sl (h : PD X W e δ) : PSl X W e (slV δ) := by
  obtain ⟨t, p, h⟩ := h
  exact ⟨t, p, fun B σ H ρ n G α Q x q hK R hx hd k => h B σ H ρ n G α Q x _ hK R hx hd fun v H' G' d n' s j r hq => k v H' G' (.val d) n' s j r hq⟩
theorem PF.sl (h : PF X W e δ) : PSl X W e (slO δ) := by
  obtain ⟨t, p, h⟩ := h
  exact ⟨t, p, fun B σ H ρ n G α Q x q hK R hx hd k => h B σ H ρ n G α Q x _ hK R hx hd fun v H' G' d n' s j np ng nr o hq => k _ H' G' (.own d) n' s j ⟨_, rfl, np, ng, nr, o⟩ hq⟩
theorem RelB.setSl {B : Bs} {σ : St} {H H1 : Hp} {ρ : Env} {n : Nat} {G : Hp} {α : Nat → Addr} {sl : Sl} {v : V} (R : RelB B σ H ρ n G α) (i : Nat) (i0 : i ≠ 0) (r : SlRep B.K B.W H1 G H sl v) (h0 : ∀ a, H1 a = none → ¬ B.W.rg a → B.H0 a = none) (ho : ∀ j e, ρ[j]? = some (some (.own e)) → ∃ o, H1 (α j) = some o) :
    ∃ α', RelB B (σ.set i (some v)) H (ρ.set i (some sl)) n G α' ∧ (∀ j e, (ρ.set i (some sl))[j]? = some (some (.own e)) → (∃ o, H (α' j) = some o)) := by
  have fin : ∀ {α' : Nat → Addr}, RelB B (σ.set i (some v)) H (ρ.set i (some sl)) n G α' → (∀ j e, (ρ.set i (some sl))[j]? = some (some (.own e)) → (∃ o, H (α' j) = some o)) := fun R' j e hj => (R'.own j e hj).2.2.2.2.there
  cases sl with
  | val d =>
    have R' := R.set i r
    exact ⟨α, R', fin R'⟩
  | own d =>
    obtain ⟨a, rfl, n0, g, nr, o⟩ := r
    have R' := R.setOwn i i0 (a := a) (d := d) (fun j e _ hj z => by
      obtain ⟨o', q⟩ := ho j e hj
      rw [z, n0] at q; cases q) g (h0 a n0 nr) nr o
    exact ⟨_, R', fin R'⟩
def dPar2 (i j : Nat) (a b : DSl) : DS := fun E ρ n => a (E.xx ρ) ρ n fun u n1 => b (E.xx ρ) ρ n1 fun v n2 => E.nx ((ρ.set i (some u)).set j (some v)) n2
theorem h0_of {B : Bs} {σ : St} {H : Hp} {ρ : Env} {n : Nat} {G : Hp} {α : Nat → Addr} (R : RelB B σ H ρ n G α) {a : Addr} (e : H a = none) (nr : ¬ B.W.rg a) : B.H0 a = none := by
  cases q : B.H0 a with
  | none => rfl
  | some u => have := R.st.fr a u q nr; rw [e] at this; cases this
theorem RelB.par2 {B : Bs} {σ : St} {H H1 H2 : Hp} {ρ : Env} {n n1 n2 : Nat} {G G1 G2 : Hp} {α : Nat → Addr} {u1 u2 : Sl} {v1 v2 : V} (i j : Nat) (i0 : i ≠ 0) (j0 : j ≠ 0) (R : RelB B σ H ρ n G α) (R1 : RelB B σ H1 ρ n1 G1 α) (R2 : RelB B σ H2 ρ n2 G2 α) (s2 : Step B.W H1 G1 H2 G2) (r1 : SlRep B.K B.W H G1 H1 u1 v1) (r2 : SlRep B.K B.W H1 G2 H2 u2 v2) :
    ∃ α2, RelB B ((σ.set i (some v1)).set j (some v2)) H2 ((ρ.set i (some u1)).set j (some u2)) n2 G2 α2 := by
  obtain ⟨α1, R3, o3⟩ := R2.setSl i i0 (r1.step s2) (fun a e nr => h0_of R e nr) fun k e hk => (R.own k e hk).2.2.2.2.there
  obtain ⟨α2, R4, _⟩ := R3.setSl (H1 := H1) j j0 r2 (fun a e nr => h0_of R1 e nr) fun k e hk => by
    -- what stood at slot k before the second part
    rw [List.getElem?_set] at hk
    by_cases z : i = k
    · subst z
      rw [if_pos rfl] at hk
      split at hk
      · injection hk with hk; injection hk with hk
        subst hk
        obtain ⟨a1, e1, _, _, _, o1⟩ := r1
        have := (R3.own i e (by rw [List.getElem?_set, if_pos rfl, if_pos (by assumption)])).1
        rw [List.getElem?_set, if_pos rfl] at this
        split at this
        · injection this with this; injection this with this
          rw [e1] at this
          injection this with this
          rw [← this]
          exact o1.there
        · cases this
      · cases hk
    · rw [if_neg z] at hk
      have h3 := (R3.own k e (by rw [List.getElem?_set, if_neg z]; exact hk)).1
      rw [List.getElem?_set, if_neg z] at h3
      have h4 := (R1.own k e hk)
      rw [h4.1] at h3
      injection h3 with h3; injection h3 with h3; injection h3 with h3
      rw [← h3]
      exact h4.2.2.2.2.there
  exact ⟨α2, R4⟩
theorem ps_par2 (i j : Nat) {px py pt : Pos} {kt k2 pt2} (hc : X.calm = true) (hN : X.N.Nodup) (h1 : PSl X W a δ1) (h2 : PSl X W b δ2) (hi : X.N[i]? = some x := by rfl) (hj : X.N[j]? = some y := by rfl) (hij : i ≠ j := by decide) (i0 : i ≠ 0 := by decide) (j0 : j ≠ 0 := by decide)
    (hx : X.env.scope.names.lookup x = some .local := by rfl) (hy : X.env.scope.names.lookup y = some .local := by rfl)
    (hst : starEach [a, b] X.env = (false, eval a X.env) :: starEach [b] X.env := by rfl) (hst2 : starEach [b] X.env = [(false, eval b X.env)] := by rfl)
    (hw : swappedStores [.Tuple [.Name x px, .Name y py] kt pt] (.Tuple [a, b] k2 pt2) X.env = pure (some [x, y]) := by rfl)
    (hs : swapsWithSole [.Tuple [.Name x px, .Name y py] kt pt] (.Tuple [a, b] k2 pt2) pos.line X.env = pure false := by rfl) :
    PSD X W (.Assign [.Tuple [.Name x px, .Name y py] kt pt] (.Tuple [a, b] k2 pt2) pos) (dPar2 i j δ1 δ2) := by
  obtain ⟨ta, pa, ea⟩ := h1
  obtain ⟨tb, pb, eb⟩ := h2
  refine ⟨_, ps_par hc hN hi hj hij hx hy (pa_cons pa (pa_cons pb pa_nil hst2) hst) hw hs, fun B σ H ρ n G α D E hK R L hd => ?_⟩
  refine ea B σ H ρ n G α _ _ _ hK R (L.xl R) hd fun v1 H1 G1 u1 n1 s1 j1 r1 h1 => ?_
  have R1 := R.step s1 j1
  refine eb B σ H1 ρ n1 G1 α _ _ _ hK R1 (L.xl R1) h1 fun v2 H2 G2 u2 n2 s2 j2 r2 h2 => ?_
  have R2 := R1.step s2 j2
  rw [← hK] at r1 r2
  refine ⟨v1, v2, rfl, ?_⟩
  obtain ⟨α2, R4⟩ := RelB.par2 i j i0 j0 R R1 R2 s2 r1 r2
  exact L.nx _ H2 _ n2 G2 α2 R4 h2
/-- the same by way of a tuple (a name that a comprehension uses) -/
theorem ps_par2T (i j : Nat) {px py pt : Pos} {kt k2 pt2} (hc : X.calm = true) (hN : X.N.Nodup) (h1 : PSl X W a δ1) (h2 : PSl X W b δ2) (hi : X.N[i]? = some x := by rfl) (hj : X.N[j]? = some y := by rfl) (i0 : i ≠ 0 := by decide) (j0 : j ≠ 0 := by decide)
    (hx : Loc X.env.scope x := by first | exact Or.inl rfl | exact Or.inr rfl) (hy : Loc X.env.scope y := by first | exact Or.inl rfl | exact Or.inr rfl) (hfx : X.fn x = true ∨ X.env.scope.names.lookup x = some .local := by first | exact .inl rfl | exact .inr rfl) (hfy : X.fn y = true ∨ X.env.scope.names.lookup y = some .local := by first | exact .inl rfl | exact .inr rfl)
    (hst : starEach [a, b] X.env = (false, eval a X.env) :: starEach [b] X.env := by rfl) (hst2 : starEach [b] X.env = [(false, eval b X.env)] := by rfl)
    (hw : swappedStores [.Tuple [.Name x px, .Name y py] kt pt] (.Tuple [a, b] k2 pt2) X.env = pure none := by rfl)
    (hs : swapsWithSole [.Tuple [.Name x px, .Name y py] kt pt] (.Tuple [a, b] k2 pt2) pos.line X.env = pure false := by rfl)
    (ha1 : (assignEach [.Tuple [.Name x px, .Name y py] kt pt] X.env).map (·.2) = [assign (.Tuple [.Name x px, .Name y py] kt pt) X.env] := by rfl)
    (hs1 : (assignEach [.Name x px, .Name y py] X.env).map (·.2) = assign (.Name x px) X.env :: (assignEach [.Name y py] X.env).map (·.2) := by rfl) (hs2 : (assignEach [.Name y py] X.env).map (·.2) = assign (.Name y py) X.env :: (assignEach [] X.env).map (·.2) := by rfl)
    (hn : (assignEach [.Name x px, .Name y py] X.env).length = 2 := by rfl) (hsi : (assignEach [.Name x px, .Name y py] X.env).findIdx? (·.1) = none := by rfl) :
    PSD X W (.Assign [.Tuple [.Name x px, .Name y py] kt pt] (.Tuple [a, b] k2 pt2) pos) (dPar2 i j δ1 δ2) := by
  obtain ⟨ta, pa, ea⟩ := h1
  obtain ⟨tb, pb, eb⟩ := h2
  refine ⟨_, ps_asg (pe_tup (pa_cons pa (pa_cons pb pa_nil hst2) hst)) (pg_tup hc (pgs_cons (pg_name hN hi hx hfx) (pgs_cons (pg_name hN hj hy hfy) pgs_nil hs2) hs1) hn hsi) hs hw ha1, fun B σ H ρ n G α D E hK R L hd => ?_⟩
  refine ea B σ H ρ n G α _ _ _ hK R (L.xl R) hd fun v1 H1 G1 u1 n1 s1 j1 r1 h1 => ?_
  have R1 := R.step s1 j1
  refine eb B σ H1 ρ n1 G1 α _ _ _ hK R1 (L.xl R1) h1 fun v2 H2 G2 u2 n2 s2 j2 r2 h2 => ?_
  have R2 := R1.step s2 j2
  rw [← hK] at r1 r2
  obtain ⟨α2, R4⟩ := RelB.par2 i j i0 j0 R R1 R2 s2 r1 r2
  refine ⟨by show 2 ≤ sizeLine; decide, fun p np => ?_⟩
  have s3 := StepP.laid (o := .tup [v1, v2]) R4.le np
  exact ⟨p, [v1, v2], rfl, .inl (.inl upd_same), rfl, v1, [v2], rfl, v2, [], rfl, rfl, L.nx _ _ _ n2 G2 α2 (R4.step (s3.step R4.J) (s3.J R4.J)) h2⟩
end

def dNeverE : DE := fun _ _ _ _ => False
theorem pd_never {X : Cx} {W : WX} {e : Expr} : PD X W e dNeverE := ⟨fun _ _ _ => False, ⟨fun _ _ _ _ _ _ h => h.elim⟩, fun _ _ _ _ _ _ _ _ _ _ _ _ _ h => h.elim⟩
end DL

end

/-! DLe -/
section
set_option autoImplicit false
/-! DLe: odds and ends. -/
namespace DL
open PySem PySem.Spec L2
theorem takes0 {X : Cx} : Takes X W0 := fun _ _ ⟨_, _, _, _, _, _, _, _, _, _, _, _, _, _, _, _, w⟩ => w.elim
/-- a law's end; what is raised is told by the world -/
theorem walk_ofW {l : PySem.W.OpenLaw} {n k : Nat} {q : Program} {loose : List Str} {XP : (Str → Option Value) → Heap → Prop} {YP : World → Heap → Prop} {d : DefRec} {CX : World → CXT} {x : Str}
    (hn : l.most = some n) (hn2 : n ≤ sizeLine) (hdf : d.params.defaults = []) (hr : Room k callerA)
    (F : ∀ (w : World) (mg : Str → Option Value) (fa : Addr) (h : Heap), YP w h → h.Ns mainGlobals mg → mg d.name = some (.ref fa) →
      ∃ (K : PySem.W.Frag) (fd : FuncData) (sp : Sp), K.In h ∧ (∀ (s : Shared) (u : Value), BindsTo s fd ⟨[u], []⟩ [(x, u)]) ∧
        (∀ (H : Hp) (a : Addr) (ns : List Int), ns.length ≤ n → SqL K H a (ns.map V.int) → sp [.ref a] H (fun v _ => v = .bl true) fun _ _ _ => False) ∧
        ∀ base : Heap, K.In base → base.Ns mainGlobals mg → FnOk l.prog w K mg base (CX w) k fa fd [x] sp)
    (hCX : ∀ (w : World) (H : Hp) (s : Shared) (e : Value) (s' : Shared), CX w [] H s (fun _ _ _ => False) e s' → False) :
    PySem.W.WalkO q loose XP YP l.row.toRowW d [] (fun f vs => PySem.call f vs) := by
  refine Att.attach_call hn hdf fun w s₀ s₁ mg mb fa o pm cd doc a vs ns G Y ho hd hcd hmg hobj hints hlen hg => ?_
  obtain ⟨K, fd, sp, KX, hb, hsp, hF⟩ := F w mg fa _ Y G.T.g hmg
  exact law_call KX G.T.g G.T.b G.T.builtins G.T.nolimit hg hobj hints (Nat.le_trans hlen hn2) hr hF hb (fun H hO hS => hsp H a ns hlen hS) fun H e s' => hCX w H s₁ e s'
end DL

end

/-! DLf -/
section
set_option autoImplicit false
/-! DLf: exceptions of the text: their classes, their making, raise. -/
namespace DL
open PySem PySem.Spec PyProof.Rows L2
/-! ### what the top says of an exception's class -/
def oexB (K : PySem.W.Frag) (C : Addr) : Bool := match K.lookup C with
  | some ⟨.type "type", _, .cls cd, sl⟩ => (match cd.mro, sl.toList with
    | .ref C' :: bm, [_, _, _, _, some (.builtin n), _] => C' == C && (n == "ValueError.__new__" && (!cd.hasDel && (cd.hasDict && PySem.HandSPX.refsVE bm)))
    | _, _ => false)
  | _ => false
theorem oexB_ok {K : PySem.W.Frag} {C : Addr} (q : oexB K C = true) : ∃ nm qn N bs bm sn sub ab col dd k0 k1 k2 k3 k5, K.lookup C = some (excClassObj nm qn C N bs bm true sn sub ab col dd k0 k1 k2 k3 k5 "ValueError.__new__") ∧ PySem.HandSPX.refsVE bm = true := by
  unfold oexB at q
  split at q
  · rename_i dd cd sl ho
    split at q
    · rename_i C' bm k0 k1 k2 k3 n k5 hm hs
      simp only [Bool.and_eq_true, beq_iff_eq, Bool.not_eq_true'] at q
      obtain ⟨rfl, rfl, hdel, hdc, hr⟩ := q
      obtain ⟨nm, bs, mro, ns, qn, hd, sn, sub, ab, col, del⟩ := cd
      dsimp only at hm hdel hdc
      subst hm hdel hdc
      have e : sl = #[k0, k1, k2, k3, some (.builtin "ValueError.__new__"), k5] := by
        obtain ⟨l⟩ := sl
        have hs' : l = _ := hs
        rw [hs']
      subst e
      exact ⟨nm, qn, ns, bs, bm, sn, sub, ab, col, dd, k0, k1, k2, k3, k5, ho, hr⟩
    · cases q
  · cases q
/-- the class c, its __init__ -/
structure XC (K : PySem.W.Frag) (c : Str) : Prop where
  oex : OexC K (ca K c)
  ini : PySem.W.findIn K (.ref (ca K c)) "__init__" = some (some (.ref (He.ma K (ca K c) "__init__")))
  fn : PySem.W.typeIn K (.ref (He.ma K (ca K c) "__init__")) = some (.type "function")
def excB (c : Str) (K : PySem.W.Frag) : Bool := oexB K (ca K c) && (He.eqO (PySem.W.findIn K (.ref (ca K c)) "__setattr__") (some (some (.builtin "object.__setattr__"))) && (decide (PySem.W.subIn K (.ref (ca K c)) (.type "BaseException") = some true) &&
  (decide (PySem.W.typeIn K (.ref (ca K c)) = some (.type "type")) && (PySem.W.keepIn K (.ref (ca K c)) && (He.eqO (PySem.W.findIn K (.ref (ca K c)) "__init__") (some (some (.ref (He.ma K (ca K c) "__init__")))) && decide (PySem.W.typeIn K (.ref (He.ma K (ca K c) "__init__")) = some (.type "function")))))))
theorem excB_ok {K : PySem.W.Frag} {c : Str} (h : excB c K = true) : XC K c := by
  obtain ⟨h1, h⟩ := He.ba h
  obtain ⟨h2, h⟩ := He.ba h
  obtain ⟨h3, h⟩ := He.ba h
  obtain ⟨h4, h⟩ := He.ba h
  obtain ⟨h5, h⟩ := He.ba h
  obtain ⟨h6, h7⟩ := He.ba h
  exact ⟨⟨oexB_ok h1, He.eqO_ok h2, of_decide_eq_true h3, of_decide_eq_true h4, h5⟩, He.eqO_ok h6, of_decide_eq_true h7⟩
/-- the base class b, whose __init__ is that of ValueError -/
structure XBase (K : PySem.W.Frag) (b : Str) : Prop where
  rd : PySem.W.readsIn K (ca K b) (.type "type") = true
  fc : PySem.W.findCls K (.ref (ca K b)) (.type "type") "__init__" = some (.val (.builtin "ValueError.__init__"))
  ga : PySem.W.specialIn K (.ref (ca K b)) "__getattribute__" = some (some (.builtin "type.__getattribute__"))
def seB (b : Str) (K : PySem.W.Frag) : Bool := PySem.W.readsIn K (ca K b) (.type "type") && ((match PySem.W.findCls K (.ref (ca K b)) (.type "type") "__init__" with
  | some (.val (.builtin n)) => n == "ValueError.__init__"
  | _ => false) && He.eqO (PySem.W.specialIn K (.ref (ca K b)) "__getattribute__") (some (some (.builtin "type.__getattribute__"))))
theorem seB_ok {K : PySem.W.Frag} {b : Str} (h : seB b K = true) : XBase K b := by
  obtain ⟨h1, h⟩ := He.ba h
  obtain ⟨h2, h3⟩ := He.ba h
  refine ⟨h1, ?_, He.eqO_ok h3⟩
  split at h2
  · rename_i n e
    rw [e, beq_iff_eq.mp h2]
  · cases h2

/-! ### b.__init__(self, ..) -/
section
variable {X : Cx} {e : Expr} {es : List Expr} {ta : TA} {p1 p2 pos : Pos} {b : Str}
theorem pe_seinit {pl : Sem Bool} (B : XBase X.K b) (hg : Gl X b) (hm : X.mg b = some (.ref (ca X.K b))) (ha : PA X (e :: es) ta) (hdb : (b == ("__debug__" : Str)) = false := by decide)
    (hc : eval (.Call (.Attribute (.Name b p1) "__init__" p2) (e :: es) [] pos) X.env = (do
      let ov ← eval (.Name b p1) X.env
      standAt p2.atName
      let (f, first) ← holding [ov] (getMethod ov "__init__" pl)
      callWith pos f first (backTo pos (starEach (e :: es) X.env)) (backToKw pos (keywordEach [] X.env))) := by rfl)
    (he : starEach (e :: es) X.env = (false, eval e X.env) :: starEach es X.env := by rfl) (hpl : (backTo pos (starEach es X.env)).any (·.1) = false := by rfl) :
    PE X (.Call (.Attribute (.Name b p1) "__init__" p2) (e :: es) [] pos) (tVeI X.K ta) := by
  refine ⟨fun pins s σ H Q I h => ?_⟩
  refine PySem.W.methodCall_KW (ld_glob I hg hm ?_ hdb) hc
  refine PySem.W.method_cls I.kIn B.ga (PySem.W.cls_value I.kIn B.rd B.fc (by decide +kernel) ?_)
  show wpAny _ _ (callWith pos (Value.builtin "ValueError.__init__") [] (backTo pos (starEach (e :: es) X.env)) []) _ _ _
  refine PyProof.Rows.callWith_method1 (thn (ha.run pos pins _ σ H _ (I.tok _) h) fun us s1 q => ?_) he hpl
  obtain ⟨vs, H1, I1, r1, a, C, ws, ev, hl, T, ea, q⟩ := q
  subst ev
  cases r1 with
  | @cons _ u0 _ ur ra rt =>
    obtain rfl : u0 = Value.ref a := ra
    exact oinit_ok T I1 ea (by rw [← Paired.length rt, sizeLine_eq]; omega) fun s' J => ⟨.non, H1, J, rfl, q⟩
end

/-! ### what such an __init__ does -/
/-- def __init__(self, f): b.__init__(self, text); self.f = f -/
def spXF (K : PySem.W.Frag) (c f : Str) : Sp := fun vs H Q _ => ∃ (a : Addr) (v : V), vs = [.ref a, v] ∧ H a = some (exo a (ca K c) none) ∧ ∀ dx, H dx = none → dx ≠ a → Q .non (upd (upd H dx (exd dx [(f, v)])) a (exo a (ca K c) (some dx)))
/-- def __init__(self): b.__init__(self, text) -/
def spX0 (K : PySem.W.Frag) (c : Str) : Sp := fun vs H Q _ => ∃ a : Addr, vs = [.ref a] ∧ H a = some (exo a (ca K c) none) ∧ Q .non H
structure Xg (P : Program) (w : World) (K : PySem.W.Frag) (mg : Str → Option Value) (base : Heap) (c : Str) (sp : Sp) (m : Nat) : Prop where
  xc : XC K c
  gl : mg c = some (.ref (ca K c))
  ex : ∃ (fd : FuncData) (ps : List Str), ps.length = m ∧ FnOk P w K mg base (L2.CX P w) 1 (He.ma K (ca K c) "__init__") fd ps sp ∧ Binds K fd ps []
theorem passes0 {X : Cx} : Passes (L2.CX X.prog X.w) X (fun _ _ _ => False) := fun _ _ _ _ _ _ _ ⟨_, _, _, _, _, _, _, _, _, _, _, _, z⟩ => z.elim

/-! ### raise c(e) -/
def dRaise (c f : Str) (a : DA) : DS := fun E ρ n => a (E.xx ρ) ρ n fun ds n1 => match ds with
  | [d] => E.ex (c, [(f, d)]) ρ n1
  | _ => False
section
variable {X : Cx} {W : WX} {c f : Str} {e : Expr} {α' : DA} {p pos pos' : Pos}
theorem ps_raiseD (S : Xg X.prog X.w X.K X.mg X.base c (spXF X.K c f) 2) (hr : Room 2 X.A) (hc : X.calm = true) (tk : Takes X W) (hg : Gl X c) (ha : PAD X W [e] α') (hdb : (c == ("__debug__" : Str)) = false := by decide)
    (he : starEach [e] X.env = (false, eval e X.env) :: starEach [] X.env := by rfl) (hpl : (backTo pos (starEach [] X.env)).any (·.1) = false := by rfl) : PSD X W (.Raise (some (.Call (.Name c p) [e] [] pos)) none pos') (dRaise c f α') := by
  obtain ⟨t, pa, ea⟩ := ha
  obtain ⟨fd, ps, hl, hF, hb⟩ := S.ex
  refine ⟨_, ps_raise hc tk (pmk_oex S.xc.oex S.xc.ini S.xc.fn hF hr hb .nil passes0 hg S.gl pa hdb he hpl), fun B σ H ρ n G α D E hK R L hd => ?_⟩
  refine ea B σ H ρ n G α _ _ _ hK R (L.xl R) hd fun vs H1 G1 ds n1 s1 j1 r1 h1 => ?_
  have R1 := R.step s1 j1
  split at h1
  · cases r1 with
    | @cons d v _ _ r r' =>
      cases r'
      refine ⟨by show 1 ≤ 1000; decide, fun a na => ⟨a, v, rfl, upd_same, fun dx nd ne => ⟨rfl, dx, [(f, v)], upd_same, ?_, ?_, ?_⟩⟩⟩
      · rw [upd_ne ne, upd_same]
      · rw [upd_ne ne] at nd; exact nd
      · rw [upd_ne ne] at nd
        have e3 : upd (del (upd (upd (upd H1 a (exo a (ca X.K c) none)) dx (exd dx [(f, v)])) a (exo a (ca X.K c) (some dx))) a) dx (.xd [(f, v)]) = upd H1 dx (.xd [(f, v)]) := by
          funext b
          by_cases h1 : b = dx
          · rw [h1, upd_same, upd_same]
          · rw [upd_ne h1, upd_ne h1]
            by_cases h2 : b = a
            · rw [h2, del_same, na]
            · rw [del_ne h2, upd_ne h2, upd_ne h1, upd_ne h2]
        rw [e3]
        have s2 := StepP.laid (o := .xd [(f, v)]) R1.le nd
        exact L.ex _ (some dx) σ _ ρ n1 G1 α (c, [(f, _)]) (R1.step (s2.step j1) (s2.J j1)) ⟨by rw [hK], _, upd_same, .cons (hK ▸ r) .nil⟩ h1
  · exact h1.elim
end

/-! ### raise c() -/
section
variable {X : Cx}
/-- c() is made: the exception is let go, it has no dict -/
theorem mk_endN {pins : List (Addr × Obj)} {σ : L2.St} {H1 H2 : Hp} {Q : XK} {hp hp2 h2 : Heap} {g1 g2 : Array GenState} {d1 d2 : Drawn} {t1 t2 : Nat} {os1 os2 : OsState} {a C : Addr} (T : Raises X (.ref C)) (I1 : Inv X pins σ H1 ⟨hp, g1, d1, t1, os1⟩)
    (ha : hp.objs.size ≤ a) (k : ∀ b o, hp.get? b = some o → hp2.get? b = some o) (un : Un (frs X.stack) [] (upd H1 a (exo a C none)) H2 hp2 h2) (hok : HOk X.prog X.w H2 h2) (ho : os2 = os1) (hb : AllBare g2)
    (ea : H2 a = some (exo a C none)) (q : Q (.ref C) none (del H2 a)) : MkP X pins σ Q (.ref a) ⟨h2, g2, d2, t2, os2⟩ := by
  obtain ⟨t0, hoe⟩ := exo_at hok ea
  have hn : H1 a = none := I1.hok.fresh ha
  obtain ⟨G, g1', g2'⟩ := restrict h2 fun b => decide (b ≠ a)
  have gk : ∀ b, b ≠ a → G.get? b = h2.get? b := fun b hb => g1' b (decide_eq_true hb)
  have ge : G.get? a = none := g2' a (by simp)
  have nha : ∀ {b : Addr} {o : Obj}, hp.get? b = some o → b ≠ a := fun {b o} z => Nat.ne_of_lt (Nat.lt_of_lt_of_le (Heap.lt_size z) ha)
  have up : ∀ {b : Addr}, b ≠ a → H1 b = none → upd H1 a (exo a C none) b = none := fun {b} hb n => by rw [upd_ne hb]; exact n
  have U : Un (frs X.stack) [] H1 (del H2 a) hp G := {
    keep := fun b o z n hf hx => by rw [gk b (nha z)]; exact un.keep b o (k b o z) (up (nha z) n) hf hx
    slot := fun b o z n hf hx => by rw [gk b (nha z)]; exact un.slot b o (k b o z) (up (nha z) n) hf hx
    free := fun b o z n hx => by rw [del_ne (nha z)]; exact un.free b o (k b o z) (up (nha z) n) hx
    there := fun b o z hx => by rw [gk b (nha z)]; exact un.there b o (k b o z) hx
    tups := fun b xs z => by rw [del_ne (ne_of_none z hn)]; exact un.tups b xs (by rw [upd_ne (ne_of_none z hn)]; exact z)
    frzs := fun b o v z => by rw [del_ne (ne_of_none z hn)]; exact un.frzs b o v (by rw [upd_ne (ne_of_none z hn)]; exact z)
    tbls := fun b ps z => by rw [del_ne (ne_of_none z hn)]; exact un.tbls b ps (by rw [upd_ne (ne_of_none z hn)]; exact z) }
  have hok3 : HOk X.prog X.w (del H2 a) G := fun b o z => by
    have hba : b ≠ a := fun e => by rw [e, del_same] at z; cases z
    rw [del_ne hba] at z
    have noa : ∀ {c : Addr}, H2 c = some (.own b) → c ≠ a := fun {c} hc => at_ne ea hc exo_own
    refine (hok b o z).stay (fun c v hc y => ?_) (fun c hc => by rw [del_ne (noa hc)]; exact hc) (fun c xs hc => by rw [del_ne (at_ne ea hc exo_tup)]; exact hc)
    have hca : c ≠ a := by
      rcases hc with hc | hc
      · rw [hc]; exact hba
      · exact noa hc
    rw [gk c hca]
    exact y
  have J : Inv X pins σ (del H2 a) ⟨G, g2, d2, t2, os2⟩ := I1.call' (ch := []) ho U hok3 hb (fun b z => absurd z (by simp))
  refine ⟨a, _, _, ⟨G, g2, d2, t2, os2⟩, _, .ref C, none, rfl, J, fun b o z => ?_, ge, hoe, ⟨rfl, rfl⟩, rfl, rfl, del_same, rfl, hb, T, q⟩
  by_cases hba : b = a
  · rw [hba, ge] at z; cases z
  · exact (gk b hba).symm.trans z
def tMkN (C : Addr) (sp : Sp) : L2.St → Hp → XK → Prop := fun _ H Q => ∀ a, H a = none → sp [.ref a] (upd H a (exo a C none)) (fun v H2 => v = .non ∧ H2 a = some (exo a C none) ∧ Q (.ref C) none (del H2 a)) (fun _ _ _ => False)
theorem pmk_oex0 {CX : CXT} {x : Str} {C fI : Addr} {k : Nat} {fd : FuncData} {ps : List Str} {sp : Sp} {p pos : Pos} (T : OexC X.K C) (iC : PySem.W.findIn X.K (.ref C) "__init__" = some (some (.ref fI))) (tI : PySem.W.typeIn X.K (.ref fI) = some (.type "function"))
    (F1 : FnOk X.prog X.w X.K X.mg X.base CX k fI fd ps sp) (hr : Room (k + 1) X.A) (hb : Binds X.K fd ps []) (hx : Passes CX X (fun _ _ _ => False)) (hg : Gl X x) (hm : X.mg x = some (.ref C))
    (hdb : (x == ("__debug__" : Str)) = false := by decide) : PMk X (.Call (.Name x p) [] [] pos) (tMkN C sp) := by
  intro pins s σ H Q I h
  obtain ⟨nm, q, N, bs, bm, sn, sub, ab, col, dd, k0, k1, k2, k3, k5, hC, hbm⟩ := T.cls
  refine wpAny_Call_Name_kw (ld_glob I hg hm ?_ hdb)
  refine PySem.W.callWith_K0 I.kIn T.kC ?_
  show wpAny _ _ (call (.ref C) []) _ _ _
  obtain ⟨hp, g, dr, tk, os⟩ := s
  have hsz : hp.objs.size ≤ hp.objs.size + 1 := Nat.le_succ _
  have hq := h (hp.objs.size + 1) (I.hok.fresh hsz)
  have kk : ∀ b o, hp.get? b = some o → ((hp.push (PySem.W.kdv_tup [])).push (PySem.HandSPX.excO C hp.objs.size)).get? b = some o := fun b o e => Heap.get?_push_of_some _ (Heap.get?_push_of_some _ e)
  have hget : ((hp.push (PySem.W.kdv_tup [])).push (PySem.HandSPX.excO C hp.objs.size)).get? (hp.objs.size + 1) = some (PySem.HandSPX.excO C hp.objs.size) := by heap_get
  have I2 : Inv X pins σ (upd H (hp.objs.size + 1) (exo (hp.objs.size + 1) C none)) ⟨(hp.push (PySem.W.kdv_tup [])).push (PySem.HandSPX.excO C hp.objs.size), g, dr, tk, os⟩ :=
    I.laid (t' := tk) (a := hp.objs.size + 1) (o := exo (hp.objs.size + 1) C none) (h' := (hp.push (PySem.W.kdv_tup [])).push (PySem.HandSPX.excO C hp.objs.size)) kk hsz (exo_ok hget)
  have r2 : Vals [V.ref (hp.objs.size + 1)] [Value.ref (hp.objs.size + 1)] := .cons rfl .nil
  have hl : ([Value.ref (hp.objs.size + 1)] ++ []).length = ps.length := by
    have e := F1.len _ _ _ _ hq
    exact e
  refine wpAny_call (PySem.HandSPX.call_own F.excBase_ValueError (fun Y => PySem.HandSPX.refsVE_contains Y bm hbm) (I.kIn _ _ hC) (PySem.W.looks_findIn I.kIn iC) (fun self => PySem.W.bind_fn I.kIn self tI) (Nat.zero_le _)
    (codeAny_mono (F1.run _ X.stack _ _ ⟨[Value.ref (hp.objs.size + 1)], []⟩ [Value.ref (hp.objs.size + 1)] _ _ (fun _ _ _ => False) (hr.make C [] []) (I2.env0.make C [] []) (hb _ [Value.ref (hp.objs.size + 1)] I2.kIn hl) r2 hq) fun r s' hq' => ?_))
  cases r with
  | error er => exact hx pins σ _ _ er s' I2 hq'
  | ok fl =>
    cases fl with
    | ret u =>
      obtain ⟨v, H2, os2, bare2, un2, hok2, rv, ev, ea, q2⟩ := hq'
      subst ev
      obtain ⟨h2, g2, d2, t2, os'⟩ := s'
      exact ⟨rv, mk_endN (raises_own T.exC T.tyC) I hsz kk un2 hok2 os2 bare2 ea q2⟩
    | next => exact False.elim hq'
    | brk => exact False.elim hq'
    | cont => exact False.elim hq'
def dRaise0 (c : Str) : DS := fun E ρ n => E.ex (c, []) ρ n
theorem ps_raise0 {W : WX} {c : Str} {p pos pos' : Pos} (S : Xg X.prog X.w X.K X.mg X.base c (spX0 X.K c) 1) (hr : Room 2 X.A) (hc : X.calm = true) (tk : Takes X W) (hg : Gl X c) (hdb : (c == ("__debug__" : Str)) = false := by decide) : PSD X W (.Raise (some (.Call (.Name c p) [] [] pos)) none pos') (dRaise0 c) := by
  obtain ⟨fd, ps, hl, hF, hb⟩ := S.ex
  refine ⟨_, ps_raise hc tk (pmk_oex0 S.xc.oex S.xc.ini S.xc.fn hF hr hb passes0 hg S.gl hdb), fun B σ H ρ n G α D E hK R L hd => ?_⟩
  intro a na
  refine ⟨a, rfl, upd_same, rfl, upd_same, ?_⟩
  have e3 : del (upd H a (exo a (ca X.K c) none)) a = H := by
    funext b
    by_cases h2 : b = a
    · rw [h2, del_same, na]
    · rw [del_ne h2, upd_ne h2]
  rw [e3]
  exact L.ex _ none σ H ρ n G α (c, []) R ⟨by rw [hK], rfl⟩ hd
end
end DL

end

/-! DLg -/
section
set_option autoImplicit false
/-! DLg: try .. except. -/
namespace DL
open PySem PySem.Spec L2
/-- the weakest reading of statements that have the heap-free reading b -/
def sOf (K : PySem.W.Frag) (W : WX) (b : DS) : TS := fun D σ H => ∃ (B : Bs) (ρ : Env) (n : Nat) (G : Hp) (α : Nat → Addr) (E : DEnds), B.K = K ∧ RelB B σ H ρ n G α ∧ Lk B W D E ∧ b E ρ n
theorem sd_sOf {K : PySem.W.Frag} {W : WX} {b : DS} : SD K W (sOf K W b) b := fun B σ H ρ n G α D E hK R L h => ⟨B, ρ, n, G, α, E, hK, R, L, h⟩
theorem PSsD.pss {X : Cx} {W : WX} {sts : List Stmt} {b : DS} (h : PSsD X W sts b) : PSs X sts (sOf X.K W b) := by
  obtain ⟨t, p, h⟩ := h
  refine ⟨fun pins s σ H D I hw => ?_⟩
  obtain ⟨B, ρ, n, G, α, E, hK, R, L, hb⟩ := hw
  exact p.run pins s σ H D I (h B σ H ρ n G α D E hK R L hb)
/-- which exception class is of which -/
def xsB (XS : List Str) (sub : Str → Str → Bool) (K : PySem.W.Frag) : Bool := XS.all fun c => XS.all fun c' => decide (PySem.W.exmOne K (.ref (ca K c)) (.ref (ca K c')) = some (sub c c'))
theorem xsB_ok {XS : List Str} {sub : Str → Str → Bool} {K : PySem.W.Frag} (h : xsB XS sub K = true) : ∀ c ∈ XS, ∀ c' ∈ XS, PySem.W.exmOne K (.ref (ca K c)) (.ref (ca K c')) = some (sub c c') := fun c hc c' hc' =>
  of_decide_eq_true (List.all_eq_true.mp (List.all_eq_true.mp h c hc) c' hc')
/-- try: b except c: s (s raises nothing) -/
def dTry (XS : List Str) (sub : Str → Str → Bool) (c : Str) (b s : DS) : DS := fun E ρ n => b { E with ex := fun e ρ' n' => e.1 ∈ XS ∧ if sub e.1 c = true then s { E with ex := fun _ _ _ => False } ρ' n' else E.ex e ρ' n' } ρ n
section
variable {X : Cx} {W : WX} {c : Str} {body suite : List Stmt} {b₀ : Stmt} {np pos pos' : Pos} {b s : DS} {XS : List Str} {sub : Str → Str → Bool}
theorem ps_tryD (hx : ∀ c ∈ XS, ∀ c' ∈ XS, PySem.W.exmOne X.K (.ref (ca X.K c)) (.ref (ca X.K c')) = some (sub c c')) (hcx : c ∈ XS) (hs : X.stack = X.env :: X.outer) (hf : X.env.frame = some X.env.locals) (hc : Names X c (.ref (ca X.K c))) (tk : Takes X W)
    (hb : ∀ (W' : WX) (pn : List (Addr × Obj)) (xe : Value → Shared → Prop), Takes (X.tr pn xe) W' → PassesOwn (model X.prog X.w) X.A X.env xe → PSsD (X.tr pn xe) W' body b)
    (hsu : ∀ (a : Addr) (oe : Obj) (cls : Value) (d : Option Addr) (pn : List (Addr × Obj)), PSsD (X.suite a ((a, oe) :: pn)) W0 (b₀ :: suite) s) :
    PSD X W (.Try body [.ExceptHandler (some (.Name c np)) none (b₀ :: suite) pos'] [] [] pos) (dTry XS sub c b s) := by
  refine ⟨_, ps_try_only (tb := fun W' => sOf X.K W' b) (ts := fun _ _ _ => sOf X.K W0 s) hs hf hc tk (fun W' pn xe t p => (hb W' pn xe t p).pss) (fun a oe cls d pn _ _ => (hsu a oe cls d pn).pss), fun B σ H ρ n G α D E hK R L hd => ?_⟩
  refine ⟨B, ρ, n, G, α, { E with ex := fun e ρ' n' => e.1 ∈ XS ∧ if sub e.1 c = true then s { E with ex := fun _ _ _ => False } ρ' n' else E.ex e ρ' n' }, hK, R, ⟨L.nx, L.rt, L.bk, L.ct, fun cc dd σ' H' ρ' n' G' α' e R' r h' => ?_, L.w, L.ro⟩, hd⟩
  obtain ⟨hm, h'⟩ := h'
  obtain ⟨ec, rr⟩ := r
  subst ec
  refine ⟨sub e.1 c, by rw [hK]; exact hx _ hm _ hcx, fun hb a na => ?_, fun hb => ?_⟩
  · rw [if_pos hb] at h'
    exact ⟨B, ρ', n', G', α', { E with ex := fun _ _ _ => False }, hK, R', ⟨L.nx, L.rt, L.bk, L.ct, fun _ _ _ _ _ _ _ _ _ _ _ z => z, L.w, L.ro⟩, h'⟩
  · rw [if_neg (by rw [hb]; exact Bool.false_ne_true)] at h'
    exact L.ex _ dd σ' H' ρ' n' G' α' e R' ⟨rfl, rr⟩ h'
end
end DL

end

/-! DLh -/
section
set_option autoImplicit false
/-! DLh: == of instances, their truth, o[i]. -/
namespace DL
open PySem PySem.Spec L2
/-! ### a == b, a an instance of the class c -/
def eqB (CS : List Str) (c : Str) (K : PySem.W.Frag) : Bool := (tysN.all fun T => PySem.W.notFirst K (ca K c) (.type T)) && CS.all fun c' => PySem.W.notFirst K (ca K c) (.ref (ca K c'))
theorem eqB_ok {CS : List Str} {c : Str} {K : PySem.W.Frag} (h : eqB CS c K = true) {d : D} {t : Ty} (e : tyD d = some t) (hc : ∀ c', t = .own c' → c' ∈ CS) : PySem.W.notFirst K (ca K c) (t.val K) = true := by
  obtain ⟨h1, h2⟩ := He.ba h
  cases t with
  | b n => exact List.all_eq_true.mp h1 n (tyD_mem e)
  | own c' => exact List.all_eq_true.mp h2 c' (hc c' rfl)
section
variable {X : Cx} {W : WX} {k : Nat} {f C : Addr} {fd : FuncData} {ps : List Str} {sp : Sp} {E : L2.St → XK} {a b : Expr} {ta tb : TE} {pos : Pos} {m c : Str}
def tEqO (K : PySem.W.Frag) (C : Addr) (sp : Sp) (E : L2.St → XK) (ta tb : TE) : TE := fun σ H Q => ta σ H fun x H1 => tb σ H1 fun y H2 => ∃ a dx fs t, x = .ref a ∧ H2 a = some (.ins C dx fs) ∧ TyX K H2 y t ∧ PySem.W.notFirst K C t = true ∧ sp [x, y] H2 Q (E σ)
theorem pe_eqO {CX : CXT} (hm : Meth X.K C "__eq__" f) (F : FnOk X.prog X.w X.K X.mg X.base CX k f fd ps sp) (hr : Room k X.A) (hb : Binds X.K fd ps []) (hx : ∀ σ, PassesAt CX X σ (E σ)) (ha : PE X a ta) (hb' : PE X b tb) : PE X (.Compare a [.Eq] [b] pos) (tEqO X.K C sp E ta tb) := by
  refine ⟨fun pins s σ H Q I h => ?_⟩
  refine wpAny_Compare1 (binT ha hb' I h fun v u s2 x y H2 I2 rx ry q => ?_) (nomark _)
  obtain ⟨p, dx, fs, t, ex, ea, ty, hn, hsp⟩ := q
  subst ex
  obtain rfl : v = Value.ref p := rx
  obtain ⟨mA, J, _⟩ := ins_get I2.hok ea
  obtain ⟨od, J, _⟩ := J.look
  obtain ⟨P, kx, hP, _⟩ := kit_of I2 ry ty
  obtain ⟨mm, hF⟩ := I2.fr
  show wpAny _ _ (richCompare .Eq (.ref p) u) _ _ _
  refine PySem.W.cmp_K (op := .Eq) (tb := t) hr.units0 hF I2.ok.mod.kin J (kx.ty _ _ I2.kIn hP) hn hm.at_ hm.fn ?_
  refine wpAny_mono (run_fnSD (us := [.ref p, u]) (vs := [.ref p, y]) (dvs := []) (ds := []) (Q := Q) F hr hb .nil (hx σ) I2 (.cons rfl (.cons ry .nil)) hsp) (fun w s' z => ?_) fun _ _ h => h
  obtain ⟨z', H', I', rz, qz⟩ := z
  exact SlX.cmpback rz ⟨z', H', I', rz, qz⟩
end
def dEqO (CS : List Str) (c : Str) (F : DF) (a b : DE) : DE := fun x ρ n q => a x ρ n fun u n1 => b x ρ n1 fun v n2 => (∃ fs, u = .obj c fs) ∧ opt (tyD v) fun t => (∀ c', t = .own c' → c' ∈ CS) ∧ F x.w [u, v] n2 q x.ex
section
variable {X : Cx} {W : WX} {k : Nat} {F : DF} {c : Str} {a b : Expr} {δa δb : DE} {pos : Pos} {CS : List Str}
theorem pd_eqO (hcs : ∀ c ∈ CS, TyF X.K c) (hq : eqB CS c X.K = true) (S : Mg X.prog X.w X.K X.mg X.base c "__eq__" k 2 F []) (hr : Room k X.A) (tk : Takes X W) (ha : PD X W a δa) (hb : PD X W b δb) : PD X W (.Compare a [.Eq] [b] pos) (dEqO CS c F δa δb) := by
  obtain ⟨ta, pa, ea⟩ := ha
  obtain ⟨tb, pb, eb⟩ := hb
  obtain ⟨f, fd, ps, ds, dvs, hF, hm, hbd, hd, hdv⟩ := S.ex
  have ev : dvs = [] := by
    have z := (hdv (fun _ => none)).length
    exact List.length_eq_zero_iff.mp z.symm
  subst ev
  cases hd
  refine ⟨_, pe_eqO hm hF hr hbd (fun σ => passAt tk σ) pa pb, fun B σ H ρ n G α Q x q hK R hx h kk => ?_⟩
  refine ea B σ H ρ n G α _ x _ hK R hx h fun v1 H1 G1 d1 n1 s1 j1 r1 h1 => ?_
  have R1 := R.step s1 j1
  refine eb B σ H1 ρ n1 G1 α _ x _ hK R1 (hx.step s1) h1 fun v2 H2 G2 d2 n2 s2 j2 r2 h2 => ?_
  have R2 := R1.step s2 j2
  obtain ⟨⟨fs, e1⟩, h2⟩ := h2
  obtain ⟨t, et, hc, h2⟩ := opt_some h2
  subst e1
  have r1' := r1.mono s2.le
  have rr := r1'
  cases rr with
  | obj e r =>
    rw [hx.1] at h2
    have hx2 := (hx.step s1).step s2
    exact ⟨_, _, _, _, rfl, s2.hh.get e, RepB.tyX (W := B.W) s2.hh (.inl r2) et (fun c' ec => hcs c' (hc c' ec)), eqB_ok hq et hc, B.W, n2, G2, _, q, x.ex, s2.hh, R2.rg, j2, .cons r1' (.cons r2 .nil), rfl, h2, fun v H' G' d n' s j r hq => kk v H' G' d n' ((s1.trans s2).trans s) j r hq, fun cc dd H' G' e n' s j r hq => hx2.2 cc dd H' G' e n' s j (hK ▸ r) hq⟩
end
end DL
namespace DL
open PySem PySem.Spec L2
/-! ### an instance as a test, by its __bool__ -/
section
variable {X : Cx} {W : WX} {k : Nat} {f C : Addr} {fd : FuncData} {ps : List Str} {sp : Sp} {E : L2.St → XK} {e : Expr} {te : TE} {c : Str} {F : DF} {δ : DE}
def tTruO (C : Addr) (sp : Sp) (E : L2.St → XK) (te : TE) : TT := fun σ H Q => te σ H fun x H1 => ∃ a dx fs, x = .ref a ∧ H1 a = some (.ins C dx fs) ∧ sp [x] H1 (fun v H2 => ∃ b, v = .bl b ∧ Q b H2) (E σ)
theorem pt_truO0 {CX : CXT} (hm : Meth X.K C "__bool__" f) (F : FnOk X.prog X.w X.K X.mg X.base CX k f fd ps sp) (hr : Room k X.A) (hb : Binds X.K fd ps []) (hx : ∀ σ, PassesAt CX X σ (E σ)) (h : PE X e te)
    (he : ∀ whole, isTrue e X.env whole = (do let v ← whole; standAt e.pos; holding [v] (truthy v)) := by intro _; rfl) : PT X e (tTruO C sp E te) := by
  refine ⟨fun pins s σ H Q I hw => ?_⟩
  rw [he]
  refine wpAny_bind (thn (h.run pins s σ H _ I hw) fun v s1 ⟨x, H1, I1, rx, p, dx, fs, ex, ea, hsp⟩ => wpAny_bind (wpAny_standAt (wpAny_holding ?_)))
  subst ex
  obtain rfl : v = Value.ref p := rx
  obtain ⟨mA, J, _⟩ := ins_get I1.hok ea
  obtain ⟨od, J, _⟩ := J.look
  obtain ⟨mm, hF⟩ := I1.fr
  refine PySem.W.truthy_K hF I1.ok.mod.kin J hm.at_ hm.fn ?_
  refine wpAny_mono (run_fnSD (us := [.ref p]) (vs := [.ref p]) (dvs := []) (ds := []) F hr hb .nil (hx σ) I1 (.cons rfl .nil) hsp) (fun w s' z => ?_) fun _ _ h => h
  obtain ⟨z', H', I', rz, b, ez, qz⟩ := z
  subst ez
  obtain rfl : w = Value.bool b := rz
  exact ⟨H', I', qz⟩
def dTruO (c : Str) (F : DF) (δ : DE) : DT := fun x ρ n q => δ x ρ n fun u n1 => (∃ fs, u = .obj c fs) ∧ F x.w [u] n1 (fun d n2 => match d with
  | .bl b => q b n2
  | _ => False) x.ex
theorem pt_truO (S : Mg X.prog X.w X.K X.mg X.base c "__bool__" k 1 F []) (hr : Room k X.A) (tk : Takes X W) (h : PD X W e δ) (he : ∀ whole, isTrue e X.env whole = (do let v ← whole; standAt e.pos; holding [v] (truthy v)) := by intro _; rfl) : PTD X W e (dTruO c F δ) := by
  obtain ⟨t, p, ee⟩ := h
  obtain ⟨f, fd, ps, ds, dvs, hF, hm, hbd, hd, hdv⟩ := S.ex
  have ev : dvs = [] := by
    have z := (hdv (fun _ => none)).length
    exact List.length_eq_zero_iff.mp z.symm
  subst ev
  cases hd
  refine ⟨_, pt_truO0 hm hF hr hbd (fun σ => passAt tk σ) p he, fun B σ H ρ n G α Q x q hK R hx hd kk => ?_⟩
  refine ee B σ H ρ n G α _ x _ hK R hx hd fun v1 H1 G1 d1 n1 s1 j1 r1 h1 => ?_
  have R1 := R.step s1 j1
  obtain ⟨⟨fs, e1⟩, h1⟩ := h1
  subst e1
  rw [hx.1] at h1
  have rr := r1
  cases rr with
  | obj e r =>
    refine ⟨_, _, _, rfl, s1.hh.get e, B.W, n1, G1, _, _, x.ex, s1.hh, R1.rg, j1, .cons r1 .nil, rfl, h1, fun v H' G' d n' s j r hq => ?_, fun cc dd H' G' e n' s j r hq => (hx.step s1).2 cc dd H' G' e n' s j (hK ▸ r) hq⟩
    cases d with
    | bl b => cases r; exact ⟨b, rfl, kk b H' G' n' (s1.trans s) j hq⟩
    | _ => exact hq.elim
end
end DL
namespace DL
open PySem PySem.Spec L2
/-! ### o[i] by __getitem__ -/
def getB (c : Str) (K : PySem.W.Frag) : Bool := match PySem.W.findIn K (.ref (ca K c)) "__getitem__" with
  | some (some (.ref f)) => PySem.W.fnIn K f
  | _ => false
theorem getB_ok {c : Str} {K : PySem.W.Frag} {f : Addr} (h : getB c K = true) (m : Meth K (ca K c) "__getitem__" f) : PySem.W.fnIn K f = true := by
  unfold getB at h
  rw [m.at_] at h
  exact h
section
variable {X : Cx} {W : WX} {k : Nat} {f C : Addr} {fd : FuncData} {ps : List Str} {sp : Sp} {E : L2.St → XK} {a b : Expr} {ta tb : TE} {c : Str} {F : DF} {δa δb : DE} {pos : Pos}
def tGetO (C : Addr) (sp : Sp) (E : L2.St → XK) (ta tb : TE) : TE := fun σ H Q => ta σ H fun x H1 => tb σ H1 fun y H2 => ∃ a dx fs, x = .ref a ∧ H2 a = some (.ins C dx fs) ∧ sp [x, y] H2 Q (E σ)
theorem pe_getO {CX : CXT} (hm : Meth X.K C "__getitem__" f) (hfn : PySem.W.fnIn X.K f = true) (F : FnOk X.prog X.w X.K X.mg X.base CX k f fd ps sp) (hr : Room (k + 1) X.A) (hb : Binds X.K fd ps []) (hx : ∀ σ, PassesAt CX X σ (E σ)) (ha : PE X a ta) (hb' : PE X b tb) (hs : ∀ o i, subscripted b true o i = runValue (.builtin "lifetime.subscript" ⟨[o, i], []⟩)) : PE X (.Subscript a b pos) (tGetO C sp E ta tb) := by
  refine ⟨fun pins s σ H Q I h => ?_⟩
  refine PyProof.Rows.Subscript_ (binT ha hb' I h fun v u s2 x y H2 I2 rx ry q => ?_)
  obtain ⟨p, dx, fs, ex, ea, hsp⟩ := q
  subst ex
  obtain rfl : v = Value.ref p := rx
  obtain ⟨mA, J, _⟩ := ins_get I2.hok ea
  obtain ⟨od, J, _⟩ := J.look
  obtain ⟨mm, hF⟩ := I2.fr
  refine PySem.W.sub_K hF I2.ok.mod.kin J hm.at_ hfn hm.fn ?_ (hs _ _)
  have r2 : Vals [V.ref p, y] [Value.ref p, u] := .cons rfl (.cons ry .nil)
  have hl : ([Value.ref p, u] ++ []).length = ps.length := by
    have e := r2.length
    rw [F.len _ _ _ _ hsp] at e
    exact e.symm
  refine wpAny_call (codeAny_mono (F.run _ X.stack _ _ ⟨[.ref p, u], []⟩ [.ref p, u] _ _ (E σ) hr.in1 I2.env0.in1 (hb _ [.ref p, u] I2.kIn hl) r2 hsp) fun r s' hq' => ?_)
  cases r with
  | error e => exact hx σ pins _ _ e s' I2 hq'
  | ok fl =>
    cases fl with
    | ret u => exact I2.after hq'
    | next => exact False.elim hq'
    | brk => exact False.elim hq'
    | cont => exact False.elim hq'
def dGetO (c : Str) (F : DF) (a b : DE) : DE := fun x ρ n q => a x ρ n fun u n1 => b x ρ n1 fun v n2 => (∃ fs, u = .obj c fs) ∧ F x.w [u, v] n2 q x.ex
theorem pd_getO (hg : getB c X.K = true) (S : Mg X.prog X.w X.K X.mg X.base c "__getitem__" k 2 F []) (hr : Room (k + 1) X.A) (tk : Takes X W) (ha : PD X W a δa) (hb : PD X W b δb) (hs : ∀ o i, subscripted b true o i = runValue (.builtin "lifetime.subscript" ⟨[o, i], []⟩) := by intro _ _; with_unfolding_all rfl) : PD X W (.Subscript a b pos) (dGetO c F δa δb) := by
  obtain ⟨ta, pa, ea⟩ := ha
  obtain ⟨tb, pb, eb⟩ := hb
  obtain ⟨f, fd, ps, ds, dvs, hF, hm, hbd, hd, hdv⟩ := S.ex
  have ev : dvs = [] := by
    have z := (hdv (fun _ => none)).length
    exact List.length_eq_zero_iff.mp z.symm
  subst ev
  cases hd
  refine ⟨_, pe_getO hm (getB_ok hg hm) hF hr hbd (fun σ => passAt tk σ) pa pb hs, fun B σ H ρ n G α Q x q hK R hx h kk => ?_⟩
  refine ea B σ H ρ n G α _ x _ hK R hx h fun v1 H1 G1 d1 n1 s1 j1 r1 h1 => ?_
  have R1 := R.step s1 j1
  refine eb B σ H1 ρ n1 G1 α _ x _ hK R1 (hx.step s1) h1 fun v2 H2 G2 d2 n2 s2 j2 r2 h2 => ?_
  have R2 := R1.step s2 j2
  obtain ⟨⟨fs, e1⟩, h2⟩ := h2
  subst e1
  have r1' := r1.mono s2.le
  have rr := r1'
  cases rr with
  | obj e r =>
    rw [hx.1] at h2
    have hx2 := (hx.step s1).step s2
    exact ⟨_, _, _, rfl, s2.hh.get e, B.W, n2, G2, _, q, x.ex, s2.hh, R2.rg, j2, .cons r1' (.cons r2 .nil), rfl, h2, fun v H' G' d n' s j r hq => kk v H' G' d n' ((s1.trans s2).trans s) j r hq, fun cc dd H' G' e n' s j r hq => hx2.2 cc dd H' G' e n' s j (hK ▸ r) hq⟩
end
end DL
namespace DL
open PySem PySem.Spec L2
/-! ### -o by __neg__ -/
section
variable {X : Cx} {W : WX} {k : Nat} {f C : Addr} {fd : FuncData} {ps : List Str} {sp : Sp} {E : L2.St → XK} {a : Expr} {ta : TE} {c : Str} {F : DF} {δa : DE} {pos : Pos}
def tNegO (C : Addr) (sp : Sp) (E : L2.St → XK) (ta : TE) : TE := fun σ H Q => ta σ H fun x H1 => ∃ a dx fs, x = .ref a ∧ H1 a = some (.ins C dx fs) ∧ sp [x] H1 Q (E σ)
theorem pe_negO {CX : CXT} (hm : Meth X.K C "__neg__" f) (F : FnOk X.prog X.w X.K X.mg X.base CX k f fd ps sp) (hr : Room k X.A) (hb : Binds X.K fd ps []) (hx : ∀ σ, PassesAt CX X σ (E σ)) (ha : PE X a ta) : PE X (.UnaryOp .USub a pos) (tNegO C sp E ta) := by
  refine ⟨fun pins s σ H Q I h => ?_⟩
  refine wpAny_UnaryOp (thn (ha.run pins s σ H _ I h) fun v s1 ⟨x, H1, I1, rx, p, dx, fs, ex, ea, hsp⟩ => ?_)
  subst ex
  obtain rfl : v = Value.ref p := rx
  obtain ⟨mA, J, _⟩ := ins_get I1.hok ea
  obtain ⟨od, J, _⟩ := J.look
  unfold unaryOp
  refine wpAny_holding ?_
  show wpAny _ _ (callSpecial? (.ref p) "__neg__" >>= _) _ _ _
  refine wpAny_bind (PySem.W.special_fn I1.kIn J hm.at_ (beq_iff_eq.mp hm.fn) ?_)
  refine wpAny_mono (run_fnSD (us := [.ref p]) (vs := [.ref p]) (dvs := []) (ds := []) (Q := Q) F hr hb .nil (hx σ) I1 (.cons rfl .nil) hsp) (fun w s' z => wpAny_pure z) fun _ _ h => h
def dNegO (c : Str) (F : DF) (a : DE) : DE := fun x ρ n q => a x ρ n fun u n1 => (∃ fs, u = .obj c fs) ∧ F x.w [u] n1 q x.ex
theorem pd_negO (S : Mg X.prog X.w X.K X.mg X.base c "__neg__" k 1 F []) (hr : Room k X.A) (tk : Takes X W) (ha : PD X W a δa) : PD X W (.UnaryOp .USub a pos) (dNegO c F δa) := by
  obtain ⟨ta, pa, ea⟩ := ha
  obtain ⟨f, fd, ps, ds, dvs, hF, hm, hbd, hd, hdv⟩ := S.ex
  have ev : dvs = [] := by
    have z := (hdv (fun _ => none)).length
    exact List.length_eq_zero_iff.mp z.symm
  subst ev
  cases hd
  refine ⟨_, pe_negO hm hF hr hbd (fun σ => passAt tk σ) pa, fun B σ H ρ n G α Q x q hK R hx h kk => ?_⟩
  refine ea B σ H ρ n G α _ x _ hK R hx h fun v1 H1 G1 d1 n1 s1 j1 r1 h1 => ?_
  have R1 := R.step s1 j1
  obtain ⟨⟨fs, e1⟩, h1⟩ := h1
  subst e1
  have rr := r1
  cases rr with
  | obj e r =>
    rw [hx.1] at h1
    exact ⟨_, _, _, rfl, s1.hh.get e, B.W, n1, G1, _, q, x.ex, s1.hh, R1.rg, j1, .cons r1 .nil, rfl, h1, fun v H' G' d n' s j r hq => kk v H' G' d n' (s1.trans s) j r hq, fun cc dd H' G' e n' s j r hq => (hx.step s1).2 cc dd H' G' e n' s j (hK ▸ r) hq⟩
end
end DL

end

/-! DLi -/
section
set_option autoImplicit false
/-! DLi: a != b of instances, n * o, not o, bool(o), list(range ..), list(enumerate ..), [.., *d]. -/
namespace DL
open PySem PySem.Spec L2
/-! ### from a reading to a promise -/
theorem spW_intro {K : PySem.W.Frag} {B : Bs} {W : WX} {σ : L2.St} {H G : Hp} {ρ : Env} {α : Nat → Addr} {n m : Nat} {ds : List D} {vs : List V} {F : DF} {q : DQ} {x : DX} {Q : VK} (hK : B.K = K) (R : RelB B σ H ρ n G α) (hx : XL B W σ H G x) (r : RepL K G ds vs) (hl : ds.length = m) (hF : F x.w ds n q x.ex)
    (kk : ∀ v H' G' d n', Step B.W H G H' G' → B.W.J n' H' → Rep K G' d v → q d n' → Q v H') : spW K m F vs H Q (fun c d H' => W c d σ H') := by
  rw [hx.1] at hF
  exact ⟨B.W, n, G, ds, q, x.ex, R.le, R.rg, R.J, r, hl, hF, kk, fun cc dd H' G' e n' s j r hq => hx.2 cc dd H' G' e n' s j (hK ▸ r) hq⟩
/-- a method without defaults -/
theorem Mg.get {P : Program} {w : World} {K : PySem.W.Frag} {mg : Str → Option Value} {base : Heap} {c x : Str} {k m : Nat} {F : DF} (S : Mg P w K mg base c x k m F []) : ∃ f fd ps, FnOk P w K mg base (L2.CX P w) k f fd ps (spW K m F) ∧ Meth K (ca K c) x f ∧ Binds K fd ps [] := by
  obtain ⟨f, fd, ps, ds, dvs, hF, hm, hbd, hd, hdv⟩ := S.ex
  have ev : dvs = [] := by
    have z := (hdv (fun _ => none)).length
    exact List.length_eq_zero_iff.mp z.symm
  subst ev
  cases hd
  exact ⟨f, fd, ps, hF, hm, hbd⟩
/-- a def run one frame of the machine further in -/
theorem run_in1 {X : Cx} {CX : CXT} {k : Nat} {f : Addr} {fd : FuncData} {ps : List Str} {sp : Sp} {E : XK} {Q : VK} {us : List Value} {vs : List V} {pins : List (Addr × Obj)} {σ : L2.St} {H : Hp} {s : Shared} (F : FnOk X.prog X.w X.K X.mg X.base CX k f fd ps sp) (hr : Room (k + 1) X.A) (hb : Binds X.K fd ps []) (hx : PassesAt CX X σ E) (I : Inv X pins σ H s) (r : Vals vs us) (hsp : sp vs H Q E) :
    wpAny (model X.prog X.w) X.A.in1 (call (.ref f) us) (EP X pins σ Q) X.xe s := by
  have hl : (us ++ []).length = ps.length := by
    have e := r.length
    rw [F.len _ _ _ _ hsp] at e
    simpa using e.symm
  refine wpAny_call (codeAny_mono (F.run _ X.stack _ _ ⟨us, []⟩ us _ _ E hr.in1 I.env0.in1 (by
    have z := hb _ us I.kIn hl
    simpa using z) r hsp) fun r s' hq' => ?_)
  cases r with
  | error e => exact hx pins _ _ e s' I hq'
  | ok fl =>
    cases fl with
    | ret u => exact I.after hq'
    | next => exact False.elim hq'
    | brk => exact False.elim hq'
    | cont => exact False.elim hq'

/-! ### a != b, a an instance of the class c without __ne__ -/
def neB (CS : List Str) (c : Str) (K : PySem.W.Frag) : Bool := eqB CS c K && (decide (PySem.W.findIn K (.ref (ca K c)) "__ne__" = some (some (.builtin "object.__ne__"))) && decide (PySem.W.subIn K (.ref (ca K c)) (.type "object") = some true))
section
variable {prog : Program} {w : World} {A : Around} {E : Value → Shared → Prop} {s : Shared} {K : PySem.W.Frag} {x C f : Addr} {ox : Obj} {od : Option Obj} {b : Value}
open PySem.W
theorem objNe_K {Q : Fin → Shared → Prop} (X : K.In s.heap) (I : InstAt s.heap x ox C od) (hs : findIn K (.ref C) "__eq__" = some (some (.ref f))) (hf : isFn K (.ref f) = true) (hu : A.units < cLine)
    (hcall : wpAny (model prog w) A (call (.ref f) [.ref x, b]) (fun v s' => ∃ k, v = .bool k ∧ Q (.done (.ret (.bool (!k)))) s') E s) :
    wpAny (model prog w) A (Builtin.«object.__ne__» ⟨[.ref x, b], []⟩) Q E s := by
  unfold Builtin.«object.__ne__»
  repeat (first
    | with_reducible refine wpAny_cRoomFor hu ?_
    | (refine wpAny_bind (m := callSpecialIfBound? (.ref x) (Str.ofString "__eq__") [b])
        (ifBound_K X I hs hf (wpAny_mono hcall (fun r s' hr => by
          obtain ⟨k, rfl, hq⟩ := hr
          repeat (first | exact hq | exact wpAny_pure hq | exact wpAny_truthy_bool hq | (refine wpAny_bind (m := truthy (.bool _)) (wpAny_truthy_bool ?_)) | wp_step)) fun _ _ e => e)))
    | wp_step)
theorem isi_obj_K {Q : Bool → Shared → Prop} (X : K.In s.heap) (I : InstAt s.heap x ox C od) (hsb : subIn K (.ref C) (.type "object") = some true) (q : Q true s) : wpAny (model prog w) A (isInstance (.ref x) (.type "object")) Q E s := by
  unfold isInstance
  exact wpAny_bind (I.type.here ((looks_subIn X hsb).here q))
theorem checkNe_K {rest : List Value} {Q : Unit → Shared → Prop} (X : K.In s.heap) (I : InstAt s.heap x ox C od) (hsb : subIn K (.ref C) (.type "object") = some true) (ha : argsOk "object.__ne__" ⟨.ref x :: rest, []⟩) (hq : Q () s) : wpAny (model prog w) A (checkBuiltinCall "object.__ne__" ⟨.ref x :: rest, []⟩) Q E s := by
  simp only [checkBuiltinCall, F.cmpKind_ne, F.cmpSplit_ne]
  refine wpAny_bind (isi_obj_K X I hsb ?_)
  simp only [Bool.not_true, Bool.false_eq_true, if_false]
  cases hsig : Manifest.signature? "object.__ne__" with
  | none => exact wpAny_pure hq
  | some sig =>
    simp only [argsOk, hsig] at ha
    have h2 : Bind.checkArgs "object.__ne__" sig ⟨.ref x :: rest, []⟩ = pure () := ha
    show wpAny _ A (Bind.checkArgs "object.__ne__" sig ⟨.ref x :: rest, []⟩) Q E _
    rw [h2]; exact wpAny_pure hq
theorem ifBoundB_K {M : Model} {name : Str} {id : String} {args : List Value} {Q : Option Value → Shared → Prop} (X : K.In s.heap) (I : InstAt s.heap x ox C od) (hs : findIn K (.ref C) name = some (some (.builtin id))) (hb : ∀ self, bindSpecial (.builtin id) self = pure (.builtin id, [self]))
    (h : wpAny M A (call (.builtin id) (.ref x :: args)) (fun v => Q (some v)) E s) : wpAny M A (callSpecialIfBound? (.ref x) name args) Q E s := by
  simp only [callSpecialIfBound?, bindSpecialIfBound?]
  refine wpAny_holding (wpAny_bind (wpAny_bind (wpAny_bind (I.type.here ((looks_findIn X hs).here ?_)))))
  simp only [hb]
  refine wpAny_bind (wpAny_askSetting (wpAny_ite ?_))
  have fin : wpAny M A (call (.builtin id) ([.ref x] ++ args) >>= fun v => pure (some v)) Q E s := wpAny_bind (wpAny_mono h (fun v s' h' => wpAny_pure h') fun _ _ h' => h')
  split
  · exact wpAny_bind (wpAny_pure (wpAny_pure fin))
  · exact wpAny_tryCatch (wpAny_bind (wpAny_pure (wpAny_pure fin)))
theorem ne_K {tb : Value} {h₀ : Heap} {L : List Addr} {m : Nat} {Q : Value → Shared → Prop} (hu : A.units + 1 < cLine) (X : K.In s.heap) (I : InstAt s.heap x ox C od) (hb : Looks (model prog w) s.heap (typeOf b) tb) (hn : notFirst K C tb = true)
    (hs : findIn K (.ref C) "__eq__" = some (some (.ref f))) (hf : isFn K (.ref f) = true) (hne : findIn K (.ref C) "__ne__" = some (some (.builtin "object.__ne__"))) (hsb : subIn K (.ref C) (.type "object") = some true)
    (h : wpAny (model prog w) A.in1 (call (.ref f) [.ref x, b]) (fun v s' => ∃ k, v = .bool k ∧ Q (.bool (!k)) s') E s) : wpAny (model prog w) A (richCompare .NotEq (.ref x) b) Q E s := by
  have one : wpAny (model prog w) A (tryCompare (.ref x) "__ne__" b) (fun r s' => ∃ v, r = some v ∧ Q v s') E s := by
    unfold tryCompare
    refine wpAny_bind (ifBoundB_K X I hne F.cmp_object.ne.bind (wpAny_call (codeAny_call_builtin F.cmp_object.ne.plain F.cmpEntry_ne (checkNe_K X I hsb (F.cmpArgs_ne _ _) (objNe_K (A := A.in1) X I hs hf hu (wpAny_mono h (fun v s' hv => ?_) fun _ _ e => e))))))
    obtain ⟨k, rfl, hq⟩ := hv
    exact ⟨k, rfl, wpAny_pure ⟨_, rfl, hq⟩⟩
  unfold richCompare
  simp only [oneThing_ref]
  refine wpAny_holding (wpAny_bind (wpAny_cRoomFor (Nat.lt_of_succ_lt hu) ?_))
  rw [cmpInfo_NotEq]
  dsimp only
  refine wpAny_bind (I.type.here (wpAny_bind (hb.here ?_)))
  split
  · rename_i q
    have e : subIn K tb (.ref C) = some false := by
      rcases Bool.or_eq_true_iff.mp hn with e | e
      · rw [beq_iff_eq.mp e] at q; simp at q
      · exact beq_iff_eq.mp e
    refine wpAny_bind ((looks_subIn X e).here ?_)
    simp only [Bool.false_eq_true, if_false]
    refine wpAny_bind (wpAny_mono one (fun r s' z => ?_) fun _ _ e => e)
    obtain ⟨v, rfl, hq⟩ := z
    exact wpAny_pure hq
  · refine wpAny_bind (wpAny_pure ?_)
    simp only [Bool.false_eq_true, if_false]
    refine wpAny_bind (wpAny_mono one (fun r s' z => ?_) fun _ _ e => e)
    obtain ⟨v, rfl, hq⟩ := z
    exact wpAny_pure hq
end
end DL
namespace DL
open PySem PySem.Spec L2
section
variable {X : Cx} {W : WX} {k : Nat} {f C : Addr} {fd : FuncData} {ps : List Str} {sp : Sp} {E : L2.St → XK} {a b : Expr} {ta tb : TE} {pos : Pos} {m c : Str}
def tNeO (K : PySem.W.Frag) (C : Addr) (sp : Sp) (E : L2.St → XK) (ta tb : TE) : TE := fun σ H Q => ta σ H fun x H1 => tb σ H1 fun y H2 => ∃ a dx fs t, x = .ref a ∧ H2 a = some (.ins C dx fs) ∧ TyX K H2 y t ∧ PySem.W.notFirst K C t = true ∧ sp [x, y] H2 (fun v H3 => ∃ k, v = .bl k ∧ Q (.bl (!k)) H3) (E σ)
theorem pe_neO {CX : CXT} (hm : Meth X.K C "__eq__" f) (hne : PySem.W.findIn X.K (.ref C) "__ne__" = some (some (.builtin "object.__ne__"))) (hsb : PySem.W.subIn X.K (.ref C) (.type "object") = some true) (F : FnOk X.prog X.w X.K X.mg X.base CX k f fd ps sp) (hr : Room (k + 1) X.A) (hb : Binds X.K fd ps []) (hx : ∀ σ, PassesAt CX X σ (E σ)) (ha : PE X a ta) (hb' : PE X b tb) : PE X (.Compare a [.NotEq] [b] pos) (tNeO X.K C sp E ta tb) := by
  refine ⟨fun pins s σ H Q I h => ?_⟩
  refine wpAny_Compare1 (binT ha hb' I h fun v u s2 x y H2 I2 rx ry q => ?_) (nomark _)
  obtain ⟨p, dx, fs, t, ex, ea, ty, hn, hsp⟩ := q
  subst ex
  obtain rfl : v = Value.ref p := rx
  obtain ⟨mA, J, _⟩ := ins_get I2.hok ea
  obtain ⟨od, J, _⟩ := J.look
  obtain ⟨P, kx, hP, _⟩ := kit_of I2 ry ty
  show wpAny _ _ (richCompare .NotEq (.ref p) u) _ _ _
  refine ne_K (tb := t) (h₀ := X.base) (L := []) (m := 0) (by have := hr.units; omega) I2.kIn J (kx.ty _ _ I2.kIn hP) hn hm.at_ hm.fn hne hsb ?_
  refine wpAny_mono (run_in1 (us := [.ref p, u]) (vs := [.ref p, y]) F hr hb (hx σ) I2 (.cons rfl (.cons ry .nil)) hsp) (fun w s' z => ?_) fun _ _ h => h
  obtain ⟨z', H', I', rz, k, ek, qz⟩ := z
  subst ek
  obtain rfl : w = Value.bool k := rz
  exact ⟨k, rfl, .bl (!k), H', I', rfl, qz⟩
end
def dNeO (CS : List Str) (c : Str) (F : DF) (a b : DE) : DE := fun x ρ n q => a x ρ n fun u n1 => b x ρ n1 fun v n2 => (∃ fs, u = .obj c fs) ∧ opt (tyD v) fun t => (∀ c', t = .own c' → c' ∈ CS) ∧ F x.w [u, v] n2 (bd fun k n3 => q (.bl (!k)) n3) x.ex
section
variable {X : Cx} {W : WX} {k : Nat} {F : DF} {c : Str} {a b : Expr} {δa δb : DE} {pos : Pos} {CS : List Str}
theorem pd_neO (hcs : ∀ c ∈ CS, TyF X.K c) (hq : neB CS c X.K = true) (S : Mg X.prog X.w X.K X.mg X.base c "__eq__" k 2 F []) (hr : Room (k + 1) X.A) (tk : Takes X W) (ha : PD X W a δa) (hb : PD X W b δb) : PD X W (.Compare a [.NotEq] [b] pos) (dNeO CS c F δa δb) := by
  obtain ⟨ta, pa, ea⟩ := ha
  obtain ⟨tb, pb, eb⟩ := hb
  obtain ⟨f, fd, ps, hF, hm, hbd⟩ := S.get
  obtain ⟨hq, hq2⟩ := He.ba hq
  obtain ⟨hq2, hq3⟩ := He.ba hq2
  refine ⟨_, pe_neO hm (of_decide_eq_true hq2) (of_decide_eq_true hq3) hF hr hbd (fun σ => passAt tk σ) pa pb, fun B σ H ρ n G α Q x q hK R hx h kk => ?_⟩
  refine ea B σ H ρ n G α _ x _ hK R hx h fun v1 H1 G1 d1 n1 s1 j1 r1 h1 => ?_
  have R1 := R.step s1 j1
  refine eb B σ H1 ρ n1 G1 α _ x _ hK R1 (hx.step s1) h1 fun v2 H2 G2 d2 n2 s2 j2 r2 h2 => ?_
  have R2 := R1.step s2 j2
  obtain ⟨⟨fs, e1⟩, h2⟩ := h2
  obtain ⟨t, et, hc, h2⟩ := opt_some h2
  subst e1
  have r1' := r1.mono s2.le
  have rr := r1'
  cases rr with
  | obj e r =>
    refine ⟨_, _, _, _, rfl, s2.hh.get e, RepB.tyX (W := B.W) s2.hh (.inl r2) et (fun c' ec => hcs c' (hc c' ec)), eqB_ok hq et hc, ?_⟩
    refine spW_intro hK R2 ((hx.step s1).step s2) (.cons r1' (.cons r2 .nil)) rfl h2 fun v H' G' d n' s j r hq => ?_
    cases d with
    | bl b => cases r; exact ⟨b, rfl, kk _ H' G' _ n' ((s1.trans s2).trans s) j (.bl _) hq⟩
    | _ => exact hq.elim
end

/-! ### not o, bool(o) -/
section
variable {X : Cx} {W : WX} {k : Nat} {f C : Addr} {fd : FuncData} {ps : List Str} {sp : Sp} {E : L2.St → XK} {e : Expr} {te : TE} {c : Str} {F : DF} {δ : DE} {pos p : Pos}
theorem tru_own {CX : CXT} (hm : Meth X.K C "__bool__" f) (F : FnOk X.prog X.w X.K X.mg X.base CX k f fd ps sp) (hr : Room k X.A) (hb : Binds X.K fd ps []) (hx : ∀ σ, PassesAt CX X σ (E σ)) {pins : List (Addr × Obj)} {σ : L2.St} {H1 : Hp} {s1 : Shared} (I1 : Inv X pins σ H1 s1) {p dx : Addr} {fs : List (Str × V)} (ea : H1 p = some (.ins C dx fs)) {Q : Bool → Hp → Prop} (hsp : sp [.ref p] H1 (fun v H2 => ∃ b, v = .bl b ∧ Q b H2) (E σ)) :
    wpAny (model X.prog X.w) X.A (truthy (.ref p)) (fun b s' => ∃ H', Inv X pins σ H' s' ∧ Q b H') X.xe s1 := by
  obtain ⟨mA, J, _⟩ := ins_get I1.hok ea
  obtain ⟨od, J, _⟩ := J.look
  obtain ⟨mm, hF⟩ := I1.fr
  refine PySem.W.truthy_K hF I1.ok.mod.kin J hm.at_ hm.fn ?_
  refine wpAny_mono (run_fnSD (us := [.ref p]) (vs := [.ref p]) (dvs := []) (ds := []) F hr hb .nil (hx σ) I1 (.cons rfl .nil) hsp) (fun w s' z => ?_) fun _ _ h => h
  obtain ⟨z', H', I', rz, b, ez, qz⟩ := z
  subst ez
  obtain rfl : w = Value.bool b := rz
  exact ⟨H', I', qz⟩
def tNotO (C : Addr) (sp : Sp) (E : L2.St → XK) (te : TE) : TE := fun σ H Q => te σ H fun x H1 => ∃ a dx fs, x = .ref a ∧ H1 a = some (.ins C dx fs) ∧ sp [x] H1 (fun v H2 => ∃ b, v = .bl b ∧ Q (.bl (!b)) H2) (E σ)
theorem pe_notO {CX : CXT} (hm : Meth X.K C "__bool__" f) (F : FnOk X.prog X.w X.K X.mg X.base CX k f fd ps sp) (hr : Room k X.A) (hb : Binds X.K fd ps []) (hx : ∀ σ, PassesAt CX X σ (E σ)) (h : PE X e te) : PE X (.UnaryOp .Not e pos) (tNotO C sp E te) := by
  refine ⟨fun pins s σ H Q I hw => ?_⟩
  refine PyProof.Rows.UnaryOp_ (thn (h.run pins s σ H _ I hw) fun v s1 ⟨x, H1, I1, rx, p, dx, fs, ex, ea, hsp⟩ => ?_)
  subst ex
  obtain rfl : v = Value.ref p := rx
  refine PyProof.Rows.not_of (wpAny_mono (tru_own (Q := fun b H2 => Q (.bl (!b)) H2) hm F hr hb hx I1 ea hsp) (fun b s' z => ?_) fun _ _ h => h)
  obtain ⟨H', I', q⟩ := z
  exact ⟨.bl (!b), H', I', rfl, q⟩
def dNotO (c : Str) (F : DF) (δ : DE) : DE := fun x ρ n q => δ x ρ n fun u n1 => (∃ fs, u = .obj c fs) ∧ F x.w [u] n1 (bd fun b n2 => q (.bl (!b)) n2) x.ex
theorem pd_notO (S : Mg X.prog X.w X.K X.mg X.base c "__bool__" k 1 F []) (hr : Room k X.A) (tk : Takes X W) (h : PD X W e δ) : PD X W (.UnaryOp .Not e pos) (dNotO c F δ) := by
  obtain ⟨t, p, ee⟩ := h
  obtain ⟨f, fd, ps, hF, hm, hbd⟩ := S.get
  refine ⟨_, pe_notO hm hF hr hbd (fun σ => passAt tk σ) p, fun B σ H ρ n G α Q x q hK R hx hd kk => ?_⟩
  refine ee B σ H ρ n G α _ x _ hK R hx hd fun v1 H1 G1 d1 n1 s1 j1 r1 h1 => ?_
  obtain ⟨⟨fs, e1⟩, h1⟩ := h1
  subst e1
  have rr := r1
  cases rr with
  | obj e r =>
    refine ⟨_, _, _, rfl, s1.hh.get e, spW_intro hK (R.step s1 j1) (hx.step s1) (.cons r1 .nil) rfl h1 fun v H' G' d n' s j r hq => ?_⟩
    cases d with
    | bl b => cases r; exact ⟨b, rfl, kk _ H' G' _ n' (s1.trans s) j (.bl _) hq⟩
    | _ => exact hq.elim
end
end DL
namespace DL
open PySem PySem.Spec PySem.W
/-! ### n * o by __rmul__ -/
section
variable {prog : Program} {w : World} {A : Around} {E : Value → Shared → Prop} {s : Shared} {K : Frag} {x C f g dx : Addr} {od : Option Obj}
theorem int_mul_inst (n : Int) (t : Tok) {Q : Value → Shared → Prop} (I : InstAt s.heap x (instObj C dx) C od) (q : Q .notImplemented s) : wpAny (model prog w) A (call (.builtin "int.__mul__") [.int n t, .ref x]) Q E s := by
  refine wpAny_call (codeAny_call_builtin F.slot_int_mul.plain F.entry_int_mul (F.slot_int_mul.check _ _ _ _ _ _ _ _ (typeIs_int s n t) (F.args_int_mul_2 _ _) ?_))
  have h := I.at_
  obtain ⟨hp, gg, d, tk, os⟩ := s
  wp_walk using AutoSeq1.wpAny_loadPart' h, wpAny_load' h
  exact q
theorem bin1_rint {nm idl : String} {n : Int} {t : Tok} {Q : Option Value → Shared → Prop} (X : K.In s.heap) (I : InstAt s.heap x (instObj C dx) C od) (hc : mro2 K C = true) (hs : findIn K (.ref C) (PySem.dunder nm) = some (some (.ref f))) (hr : findIn K (.ref C) (dunderR nm) = some (some (.ref g))) (hg : isFn K (.ref g) = true)
    (hsub : subIn K (.ref C) (.type "int") = some false) (hfi : fillsNumberSlot (.type "int") nm = pure true) (hl : Slot "int" (PySem.dunder nm) idl)
    (hd : ∀ Q : Value → Shared → Prop, Q .notImplemented s → wpAny (model prog w) A (call (.builtin idl) [.int n t, .ref x]) Q E s)
    (h : wpAny (model prog w) A (call (.ref g) [.ref x, .int n t]) (fun v s' => v ≠ .notImplemented ∧ Q (some v) s') E s) : wpAny (model prog w) A (binaryOp1 nm (.int n t) (.ref x)) Q E s := by
  obtain ⟨cd, hcd, hm⟩ := any_some hc
  have hm := of_decide_eq_true hm
  simp only [binaryOp1]
  refine wpAny_bind (wpAny_typeOf (typeIs_int s n t) (wpAny_bind (I.type.here (wpAny_bind (wpAny_of_eq hfi ?_)))))
  have hne : (Value.type "int" == Value.ref C) = false := by simp
  simp only [hne, Bool.false_eq_true, if_false]
  refine wpAny_bind ((fills_K X hcd hm hs).here ?_)
  simp only [Bool.and_self, if_true, ite_true]
  refine wpAny_bind ((looks_subIn X hsub).here ?_)
  have hpy : numberSlotInPython (.type "int") nm = pure false := rfl
  simp only [Bool.false_eq_true, if_false, pure_bind, Bool.not_false, Bool.and_self, if_true, hpy]
  refine wpAny_bind (wpAny_tryMethod_declines (typeIs_int s n t) hl (hd _ ⟨rfl, ?_⟩))
  dsimp only
  unfold tryMethod
  refine wpAny_bind (wpAny_bind (special_fn X I hr (beq_iff_eq.mp hg) (wpAny_mono h (fun v s' hv => ?_) fun _ _ e => e)))
  obtain ⟨hv, hq⟩ := hv
  cases v <;> first | exact (hv rfl).elim | exact wpAny_pure (wpAny_bind (wpAny_rule (wpAny_pure hq)))
end
def ropB (c : Str) (K : Frag) : Bool := mro2 K (ca K c) && (decide (subIn K (.ref (ca K c)) (.type "int") = some false) && (match findIn K (.ref (ca K c)) (PySem.dunder "mul") with
  | some (some (.ref _)) => true
  | _ => false))
end DL
namespace DL
open PySem PySem.Spec L2
section
variable {X : Cx} {W : WX} {k : Nat} {f : Addr} {fd : FuncData} {ps : List Str} {sp : Sp} {E : L2.St → XK} {a b : Expr} {ta tb : TE} {c : Str} {F : DF} {δa δb : DE} {pos : Pos}
def tRmulO (C : Addr) (sp : Sp) (E : L2.St → XK) (ta tb : TE) : TE := fun σ H Q => ta σ H fun x H1 => tb σ H1 fun y H2 => ∃ i a dx fs, x = .int i ∧ y = .ref a ∧ H2 a = some (.ins C dx fs) ∧ sp [y, x] H2 Q (E σ)
theorem pe_rmulO {CX : CXT} (hq : ropB c X.K = true) (hm : Meth X.K (ca X.K c) "__rmul__" f) (F : FnOk X.prog X.w X.K X.mg X.base CX k f fd ps sp) (hr : Room k X.A) (hb : Binds X.K fd ps []) (hx : ∀ σ, PassesAt CX X σ (E σ)) (ha : PE X a ta) (hb' : PE X b tb) : PE X (.BinOp a .Mult b pos) (tRmulO (ca X.K c) sp E ta tb) := by
  obtain ⟨h1, hq⟩ := He.ba hq
  obtain ⟨h2, h3⟩ := He.ba hq
  have h3 : ∃ g, PySem.W.findIn X.K (.ref (ca X.K c)) (PySem.dunder "mul") = some (some (.ref g)) := by
    split at h3
    · exact ⟨_, by assumption⟩
    · cases h3
  obtain ⟨g, h3⟩ := h3
  refine ⟨fun pins s σ H Q I h => ?_⟩
  refine wpAny_BinOp (bin ha hb' I h fun v u s2 x y H2 I2 rx ry q => ?_)
  obtain ⟨i, p, dx, fs, ex, ey, ea, hsp⟩ := q
  subst ex ey
  obtain ⟨t, rfl⟩ := rx
  obtain rfl : u = Value.ref p := ry
  obtain ⟨mA, J, _⟩ := ins_get I2.hok ea
  obtain ⟨od, J, _⟩ := J.look
  refine binop_of1 (bin1_rint (idl := "int.__mul__") I2.kIn J h1 h3 hm.at_ hm.fn (of_decide_eq_true h2) PySem.F.fills_int_mul PySem.F.slot_int_mul (fun Q q => int_mul_inst i t J q) ?_)
  exact wpAny_mono (run_fnSD (us := [.ref p, .int i t]) (vs := [.ref p, .int i]) (dvs := []) (ds := []) (Q := Q) F hr hb .nil (hx σ) I2 (.cons rfl (.cons ⟨t, rfl⟩ .nil)) hsp) (fun z s' h => ⟨EP.notNI h, z, rfl, h⟩) fun _ _ h => h
def dRmulO (c : Str) (F : DF) (a b : DE) : DE := fun x ρ n q => a x ρ n fun u n1 => b x ρ n1 fun v n2 => (∃ i, u = .int i) ∧ (∃ fs, v = .obj c fs) ∧ F x.w [v, u] n2 q x.ex
theorem pd_rmulO (hq : ropB c X.K = true) (S : Mg X.prog X.w X.K X.mg X.base c "__rmul__" k 2 F []) (hr : Room k X.A) (tk : Takes X W) (ha : PD X W a δa) (hb : PD X W b δb) : PD X W (.BinOp a .Mult b pos) (dRmulO c F δa δb) := by
  obtain ⟨ta, pa, ea⟩ := ha
  obtain ⟨tb, pb, eb⟩ := hb
  obtain ⟨f, fd, ps, hF, hm, hbd⟩ := S.get
  refine ⟨_, pe_rmulO hq hm hF hr hbd (fun σ => passAt tk σ) pa pb, fun B σ H ρ n G α Q x q hK R hx h kk => ?_⟩
  refine ea B σ H ρ n G α _ x _ hK R hx h fun v1 H1 G1 d1 n1 s1 j1 r1 h1 => ?_
  have R1 := R.step s1 j1
  refine eb B σ H1 ρ n1 G1 α _ x _ hK R1 (hx.step s1) h1 fun v2 H2 G2 d2 n2 s2 j2 r2 h2 => ?_
  obtain ⟨⟨i, e1⟩, ⟨fs, e2⟩, h2⟩ := h2
  subst e1 e2
  cases r1
  have rr := r2
  cases rr with
  | obj e r => exact ⟨i, _, _, _, rfl, rfl, s2.hh.get e, spW_intro hK (R1.step s2 j2) ((hx.step s1).step s2) (.cons r2 (.cons (.int i) .nil)) rfl h2 fun v H' G' d n' s j r hq => kk v H' G' d n' ((s1.trans s2).trans s) j r hq⟩
end
end DL

end

/-! DLj -/
section
set_option autoImplicit false
/-! DLj: list(enumerate(xs)), list(zip(xs, ys)), list(range ..), [.., *d]. -/
namespace DL
open PySem PySem.Spec PySem.W PyProof.Rows L2
/-- an iterator that hands out new pairs, while at d a list is being filled -/
structure TSrc (prog : Program) (w : World) (A : Around) (I d : Addr) (wr : List Addr) (qs : List (V × V)) (St : Nat → Heap → Prop) : Prop where
  off : d ∉ wr
  frame : ∀ i h h', St i h → (∀ b o, b ≠ d → h.get? b = some o → h'.get? b = some o) → St i h'
  item : ∀ i (s : Shared) (Q : Option Value → Shared → Prop) (E : Value → Shared → Prop) (q : V × V), qs[i]? = some q → St i s.heap → d < s.heap.objs.size →
    (∀ k v h' tk, RelV q.1 k → RelV q.2 v → h'.get? s.heap.objs.size = some { cls := .type "tuple", data := .seq #[k, v] } → h'.objs.size = s.heap.objs.size + 1 → St (i + 1) h' → (∀ b o, b ∉ wr → s.heap.get? b = some o → h'.get? b = some o) → Q (some (.ref s.heap.objs.size)) { s with heap := h', toks := tk }) → wpAny (model prog w) A (pyNext (.ref I)) Q E s
  done : ∀ (s : Shared) (Q : Option Value → Shared → Prop) (E : Value → Shared → Prop), St qs.length s.heap →
    (∀ h' tk, (∀ b o, b ∉ wr → s.heap.get? b = some o → h'.get? b = some o) → Q none { s with heap := h', toks := tk }) → wpAny (model prog w) A (pyNext (.ref I)) Q E s
/-- the pairs handed out so far -/
structure TOut (qs : List (V × V)) (lo : Addr) (h : Heap) (as : List Addr) : Prop where
  rise : as.Pairwise (· < ·)
  above : ∀ a ∈ as, lo ≤ a
  pairs : ∀ (j : Nat) (a : Addr), as[j]? = some a → ∃ q k v, qs[j]? = some q ∧ RelV q.1 k ∧ RelV q.2 v ∧ h.get? a = some { cls := .type "tuple", data := .seq #[k, v] }
theorem TOut.there {qs : List (V × V)} {lo : Addr} {h : Heap} {as : List Addr} (g : TOut qs lo h as) {a : Addr} (ha : a ∈ as) : a < h.objs.size := by
  obtain ⟨j, hj⟩ := List.mem_iff_getElem?.mp ha
  obtain ⟨_, _, _, _, _, _, e⟩ := g.pairs j a hj
  exact Heap.lt_size e
section
variable {prog : Program} {w : World} {A : Around} {s : Shared} {R : Result → Shared → Prop} {qs : List (V × V)} {S I lo : Addr} {wr : List Addr} {St : Nat → Heap → Prop}
theorem tup_loop (T : TSrc prog w A.in1 I S wr qs St) (hlo : ∀ b ∈ wr, b < lo) (hSlo : S < lo) (hn : qs.length ≤ sizeLine) (res : Value) {h₁ : Heap}
    (hR : ∀ h' tk acc c as, (∀ b o, b ≠ S → b ∉ wr → h₁.get? b = some o → h'.get? b = some o) → h'.get? S = some { cls := .type "list", dict := none, data := .seq acc c, slots := #[] } → as.length = qs.length → TOut qs lo h' as → acc.toList = as.map Value.ref → R (.ok (.ret res)) { s with heap := h', toks := tk }) :
    ∀ (k i : Nat) (h : Heap) (tk c : Nat) (acc : Array Value) (as : List Addr), qs.length - i = k → i ≤ qs.length → St i h → (∀ b o, b ≠ S → b ∉ wr → h₁.get? b = some o → h.get? b = some o) →
      h.get? S = some { cls := .type "list", dict := none, data := .seq acc c, slots := #[] } → acc.toList = as.map Value.ref → as.length = i → TOut qs lo h as → lo ≤ h.objs.size →
      codeAny (model prog w) A (.builtin "list.extend.loop" ⟨[.ref S, .ref I, res], []⟩) R { s with heap := h, toks := tk } := by
  intro k
  induction k with
  | zero =>
    intro i h tk c acc as hk hi hst hkeep hS hacc hal hG hIs
    obtain rfl : i = qs.length := by omega
    refine codeAny_builtin PySem.F.entry_extend_loop ?_
    rw [Around.under_plainId PySem.F.plain_extend_loop _]
    show wpAny _ A.in1 (pyNext (.ref I) >>= _) _ _ _
    refine wpAny_bind (T.done { s with heap := h, toks := tk } _ _ hst fun h' tk' he => ?_)
    refine wpAny_pure (hR h' tk' acc c as (fun b o h1 h2 e => he b o h2 (hkeep b o h1 h2 e)) (he S _ T.off hS) hal ⟨hG.rise, hG.above, fun j a hj => ?_⟩ hacc)
    obtain ⟨q, k, v, e1, e2, e3, e4⟩ := hG.pairs j a hj
    exact ⟨q, k, v, e1, e2, e3, he a _ (fun z => absurd (hlo a z) (Nat.not_lt.mpr (hG.above a (List.mem_of_getElem? hj)))) e4⟩
  | succ k ih =>
    intro i h tk c acc as hk hi hst hkeep hS hacc hal hG hIs
    have hlt : i < qs.length := by omega
    obtain ⟨q, hx⟩ : ∃ q, qs[i]? = some q := ⟨qs[i], List.getElem?_eq_getElem hlt⟩
    have hsz : acc.size = i := by rw [← Array.length_toList, hacc, List.length_map, hal]
    refine codeAny_builtin PySem.F.entry_extend_loop ?_
    rw [Around.under_plainId PySem.F.plain_extend_loop _]
    show wpAny _ A.in1 (pyNext (.ref I) >>= _) _ _ _
    refine wpAny_bind (T.item i { s with heap := h, toks := tk } _ _ q hx hst (Heap.lt_size hS) fun k' v' h' tk' r1 r2 ht hz hst' hkp => ?_)
    dsimp only at ht hz hkp ⊢
    have hS' := hkp S _ T.off hS
    have up : ∀ b o, b ≠ S → h'.get? b = some o → (h'.update S (Obj.mapSeq (·.push (Value.ref h.objs.size)))).get? b = some o := fun b o hb e => (Heap.get?_update_other _ _ (Ne.symm hb)).trans e
    have hSl : S < h.objs.size := Heap.lt_size hS
    show wpAny _ A.in1 (updateSeq S (·.push (Value.ref h.objs.size)) >>= _) _ _ _
    refine wpAny_bind ?_
    refine wpAny_updateSeq hS' rfl (wpAny_pure ⟨plainId_quiet PySem.F.plain_extend_loop _, ih (i + 1) _ tk' _ (acc.push (Value.ref h.objs.size)) (as ++ [h.objs.size]) (by omega) hlt (T.frame _ _ _ hst' fun b o hb e => up b o hb e)
      (fun b o h1 h2 e => up b o h1 (hkp b o h2 (hkeep b o h1 h2 e))) (Heap.get?_update_self _ hS' rfl) (by rw [Array.toList_push, hacc, List.map_append]; rfl) (by rw [List.length_append, hal]; rfl) ⟨?_, ?_, ?_⟩ ?_⟩) (by rw [hsz]; omega) (by show (acc.push (Value.ref h.objs.size)).size ≤ sizeLine + 1; rw [Array.size_push, hsz]; omega)
    · refine List.pairwise_append.mpr ⟨hG.rise, List.pairwise_singleton _ _, fun a ha b hb => ?_⟩
      rw [List.mem_singleton.mp hb]
      exact hG.there ha
    · intro a ha
      rcases List.mem_append.mp ha with ha | ha
      · exact hG.above a ha
      · rw [List.mem_singleton.mp ha]; exact hIs
    · intro j b hj
      rcases Nat.lt_trichotomy j as.length with h1 | h1 | h1
      · rw [List.getElem?_append_left h1] at hj
        obtain ⟨q', k'', x', e1, e2, e3, e4⟩ := hG.pairs j b hj
        have hb := hG.above b (List.mem_of_getElem? hj)
        exact ⟨q', k'', x', e1, e2, e3, up b _ (Nat.ne_of_gt (Nat.lt_of_lt_of_le hSlo hb)) (hkp b _ (fun z => absurd (hlo b z) (Nat.not_lt.mpr hb)) e4)⟩
      · subst h1
        have hb : h.objs.size = b := by simpa using hj
        subst hb
        exact ⟨q, k', v', by rw [hal]; exact hx, r1, r2, up _ _ (Nat.ne_of_gt hSl) ht⟩
      · have hnone : (as ++ [h.objs.size])[j]? = none := List.getElem?_eq_none (by rw [List.length_append, List.length_singleton]; omega)
        rw [hnone] at hj; cases hj
    · have e : (h'.update S (Obj.mapSeq (·.push (Value.ref h.objs.size)))).get? h.objs.size = _ := up _ _ (Nat.ne_of_gt hSl) ht
      exact Nat.le_trans hIs (Nat.le_of_lt (Heap.lt_size e))
end
/-- what list() may be called with: no length is told ahead -/
structure TArg (prog : Program) (w : World) (A : Around) (T : String) (a : Addr) (fp wr : List Addr) (qs : List (V × V)) (OK : Heap → Prop) : Prop where
  type : ∀ s : Shared, OK s.heap → s.TypeIs (.ref a) T
  nl : (Value.type T == Value.type "list") = false
  nt : (Value.type T == Value.type "tuple") = false
  len : typeLookup (.type T) "__len__" = pure none
  hint : typeLookup (.type T) "__length_hint__" = pure none
  mem : a ∈ fp
  sub : ∀ b ∈ wr, b ∈ fp
  keep : ∀ h h', OK h → (∀ b o, b ∈ fp → h.get? b = some o → h'.get? b = some o) → OK h'
  there : ∀ h, OK h → ∀ b ∈ fp, ∃ o, h.get? b = some o
  iter : ∀ (s : Shared) (d : Addr) (Q : Value → Shared → Prop) (E : Value → Shared → Prop), OK s.heap → d < s.heap.objs.size → d ∉ fp →
    (∀ St, TSrc prog w A a d wr qs St → St 0 s.heap → Q (.ref a) s) → wpAny (model prog w) A (pyIter (.ref a)) Q E s
section
variable {prog : Program} {w : World} {A : Around} {E : Value → Shared → Prop} {s : Shared} {T : String} {a : Addr} {fp wr : List Addr} {qs : List (V × V)} {OK : Heap → Prop}
theorem tup_hint (P : TArg prog w A T a fp wr qs OK) (ok : OK s.heap) {Q : Bool → Shared → Prop} (h : Q true s) : wpAny (model prog w) A (Builtin.List.listLengthHint (.ref a)) Q E s := by
  unfold Builtin.List.listLengthHint
  refine wpAny_bind (wpAny_specialOf (P.type s ok) P.len ?_)
  refine wpAny_ite_split (fun hab => absurd hab (by decide)) (fun _ => ?_)
  refine wpAny_ite_split (fun hab => absurd hab (by decide)) (fun _ => ?_)
  refine wpAny_bind (wpAny_specialOf (P.type s ok) P.hint ?_)
  exact wpAny_pure h
theorem tup_extend {R : Result → Shared → Prop} (P : TArg prog w A.in1 T a fp wr qs OK) (ok : OK s.heap) (S : Addr) (hSf : S ∉ fp) (res : Value) (c₀ : Nat) (hS : s.heap.get? S = some { cls := .type "list", data := .seq #[] c₀ }) (hn : qs.length ≤ sizeLine)
    (hR : ∀ h' tk acc c as, (∀ b o, b ≠ S → b ∉ wr → s.heap.get? b = some o → h'.get? b = some o) → h'.get? S = some { cls := .type "list", dict := none, data := .seq acc c, slots := #[] } → as.length = qs.length → TOut qs s.heap.objs.size h' as → acc.toList = as.map Value.ref → R (.ok (.ret res)) { s with heap := h', toks := tk }) :
    wpAny (model prog w) A.in1 (Builtin.List.listExtendWith (.ref S) (.ref a) res)
      (fun fin s' => match fin with | .done f => R (.ok f) s' | .again c' => c'.quiet = true ∧ codeAny (model prog w) A c' R s') (fun e s' => R (.error e) s') s := by
  have hSI : S < s.heap.objs.size := Heap.lt_size hS
  unfold Builtin.List.listExtendWith
  refine wpAny_bind (wpAny_typeOf (P.type s ok) ?_)
  have h1 : Builtin.List.listSameRef (.ref S) (.ref a) = false := by
    have : S ≠ a := fun z => hSf (z ▸ P.mem)
    simp [Builtin.List.listSameRef, this]
  simp only [h1, P.nl, P.nt, Bool.or_false, Bool.false_eq_true, if_false]
  refine wpAny_bind (P.iter s S _ _ ok hSI hSf fun St TT st => ?_)
  have hlo : ∀ b ∈ wr, b < s.heap.objs.size := fun b hb => by
    obtain ⟨o, ho⟩ := P.there _ ok b (P.sub b hb)
    exact Heap.lt_size ho
  have key : ∀ (h : Heap) (c₁ tk : Nat), (∀ b o, b ≠ S → s.heap.get? b = some o → h.get? b = some o) → h.objs.size = s.heap.objs.size →
      h.get? S = some { cls := .type "list", data := .seq #[] c₁ } → codeAny (model prog w) A (.builtin "list.extend.loop" ⟨[.ref S, .ref a, res], []⟩) R { s with heap := h, toks := tk } := by
    intro h c₁ tk hk hsz hS₁
    exact tup_loop (s := s) (h₁ := s.heap) TT hlo hSI hn res (fun h' tk' acc c as hk' hS' hl hG hacc => hR h' tk' acc c as (fun b o hb hf e => hk' b o hb hf e) hS' hl hG hacc) qs.length 0 h tk c₁ #[] [] (Nat.sub_zero _) (Nat.zero_le _) (TT.frame _ _ _ st fun b o hb e => hk b o hb e) (fun b o hb _ e => hk b o hb e) hS₁ rfl rfl
      ⟨List.Pairwise.nil, (fun _ ha => nomatch ha), (fun j a hj => by simp at hj)⟩ (by rw [hsz]; exact Nat.le_refl _)
  refine wpAny_bind (wpAny_holding (tup_hint P ok ?_))
  refine wpAny_ite_split (fun _ => ?_) (fun z => absurd rfl z)
  refine wpAny_bind (wpAny_rule ?_)
  refine wpAny_bind ?_
  show wpAny _ _ (updateSeq S (·.push .none) >>= fun _ => updateSeq S (·.pop)) _ _ _
  refine wpAny_bind (wpAny_updateSeq hS rfl ?_)
  have hS₂ := Heap.get?_update_self (Obj.mapSeq (·.push Value.none)) hS rfl
  refine wpAny_updateSeq (hz := by seq_fits) hS₂ rfl ?_
  have hS₃ := Heap.get?_update_self (Obj.mapSeq (·.pop)) hS₂ rfl
  refine wpAny_pure ⟨plainId_quiet PySem.F.plain_extend_loop _, key _ _ _ (fun b o hb e => ?_) ?_ hS₃⟩
  · exact (Heap.get?_update_other _ _ (Ne.symm hb)).trans ((Heap.get?_update_other _ _ (Ne.symm hb)).trans e)
  · simp
theorem TOut.low {lo lo' : Addr} {h : Heap} {as : List Addr} (g : TOut qs lo h as) (hl : lo' ≤ lo) : TOut qs lo' h as := ⟨g.rise, fun a ha => Nat.le_trans hl (g.above a ha), g.pairs⟩
theorem tup_init {R : Result → Shared → Prop} (P : TArg prog w A.in1 T a fp wr qs OK) (ok : OK s.heap) (S : Addr) (hSf : S ∉ fp) (hS : s.heap.get? S = some { cls := .type "list", data := .seq #[] }) (hn : qs.length ≤ sizeLine)
    (hR : ∀ h' tk acc c as, (∀ b o, b ≠ S → b ∉ wr → s.heap.get? b = some o → h'.get? b = some o) → h'.get? S = some { cls := .type "list", dict := none, data := .seq acc c, slots := #[] } → as.length = qs.length → TOut qs s.heap.objs.size h' as → acc.toList = as.map Value.ref → R (.ok (.ret .none)) { s with heap := h', toks := tk }) :
    wpAny (model prog w) A.in1 (Builtin.«list.__init__» ⟨[.ref S, .ref a], []⟩)
      (fun fin s' => match fin with | .done f => R (.ok f) s' | .again c' => c'.quiet = true ∧ codeAny (model prog w) A c' R s') (fun e s' => R (.error e) s') s := by
  show wpAny _ _ (do let old ← Builtin.List.listItems (.ref S); Builtin.List.listUpdate (.ref S) (fun _ => #[]); letGo old.toList.reverse; Builtin.List.listExtendWith (.ref S) (.ref a) .none) _ _ s
  refine wpAny_bind ?_
  unfold Builtin.List.listItems
  refine wpAny_bind (wpAny_seqItems hS rfl (wpAny_pure ?_))
  show wpAny _ _ (updateSeq S (fun _ => #[]) >>= fun _ => letGo (#[] : Array Value).toList.reverse >>= fun _ => Builtin.List.listExtendWith (.ref S) (.ref a) .none) _ _ s
  refine wpAny_bind (wpAny_updateSeq hS rfl ?_)
  have hS₂ := Heap.get?_update_self (Obj.mapSeq (fun _ => (#[] : Array Value))) hS rfl
  have oth : ∀ b o, b ≠ S → s.heap.get? b = some o → (s.heap.update S (Obj.mapSeq (fun _ => (#[] : Array Value)))).get? b = some o :=
    fun b o hb e => (Heap.get?_update_other _ _ (Ne.symm hb)).trans e
  refine wpAny_bind (wpAny_letGo ?_)
  refine tup_extend P (P.keep _ _ ok fun b o hb e => oth b o (fun z => hSf (z ▸ hb)) e) S hSf .none _ hS₂ hn (fun h' tk acc c as hk hS' hl hG hacc => ?_)
  exact hR h' tk acc c as (fun b o hb hf e => hk b o hb hf (oth b o hb e)) hS' hl (hG.low (Nat.le_of_eq (by simp))) hacc
theorem tup_call {Q : Value → Shared → Prop} (P : TArg prog w A.in1.in1 T a fp wr qs OK) (ok : OK s.heap) (hn : qs.length ≤ sizeLine)
    (hQ : ∀ h' tk acc c as, (∀ b o, b ∉ wr → s.heap.get? b = some o → h'.get? b = some o) → h'.get? s.heap.objs.size = some { cls := .type "list", dict := none, data := .seq acc c, slots := #[] } → as.length = qs.length → TOut qs (s.heap.objs.size + 1) h' as →
      acc.toList = as.map Value.ref → Q (.ref s.heap.objs.size) { s with heap := h', toks := tk }) :
    wpAny (model prog w) A (call (.type "list") [.ref a]) Q E s := by
  refine callType_codes (Q₁ := fun obj s₁ => obj = .ref s.heap.objs.size ∧ s₁ = { s with heap := s.heap.push { cls := .type "list", data := .seq #[] } }) PySem.F.called_list (PySem.F.typeCall_list_1 _) PySem.F.entry_list_init
    (code_list_new _ ⟨rfl, rfl⟩) fun obj s₁ h₁ => ?_
  obtain ⟨rfl, rfl⟩ := h₁
  have hS : (s.heap.push { cls := .type "list", data := .seq #[] }).get? s.heap.objs.size = some { cls := .type "list", data := .seq #[] } := Heap.get?_push_size _ rfl
  have hSf : s.heap.objs.size ∉ fp := fun z => by
    obtain ⟨o, ho⟩ := P.there _ ok _ z
    exact Nat.lt_irrefl _ (Heap.lt_size ho)
  refine ⟨⟨_, hS, rfl⟩, PySem.F.args_list_init_2 _ _, tup_init P (P.keep _ _ ok fun b o _ e => Heap.get?_push_of_some _ e) _ hSf hS hn (fun h' tk acc c as hk hS' hl hG hacc => ?_)⟩
  exact ⟨rfl, hQ h' tk acc c as (fun b o hf e => hk b o (Nat.ne_of_lt (Heap.lt_size e)) hf (Heap.get?_push_of_some _ e)) hS' hl (hG.low (by simp)) hacc⟩
end
section
variable {prog : Program} {w : World} {A : Around}
/-- the pairs of enumerate -/
def enQ (xs : List V) : List (V × V) := (List.range xs.length).map fun i => (V.int (i : Nat), xs.getD i .non)
theorem enQ_get {xs : List V} {i : Nat} {q : V × V} (h : (enQ xs)[i]? = some q) : i < xs.length ∧ q.1 = .int (i : Nat) ∧ xs[i]? = some q.2 := by
  unfold enQ at h
  rw [List.getElem?_map] at h
  by_cases hi : i < xs.length
  · rw [List.getElem?_range hi] at h
    cases h
    exact ⟨hi, rfl, by simp [List.getD, hi]⟩
  · rw [List.getElem?_eq_none (by simpa using hi)] at h
    cases h
theorem TArg.enumerate (hA : A.handled = none) (e it l : Addr) (hei : e ≠ it) (hle : l ≠ e) (hli : l ≠ it) (xs : List V) (its : List Value) (r : Vals xs its) :
    TArg prog w A "enumerate" e [e, it, l] [e, it] (enQ xs) (fun h => (∃ old, IsEnum h e it 0 old) ∧ h.IsListIter it l 0 ∧ h.IsList l its.toArray) where
  type := fun s ok => let ⟨⟨_, he⟩, _⟩ := ok; ⟨_, he, rfl⟩
  nl := by decide
  nt := by decide
  len := by rw [typeLookup_type, builtinLookup_eq_fast]; kernel_rfl
  hint := by rw [typeLookup_type, builtinLookup_eq_fast]; kernel_rfl
  mem := List.mem_cons_self ..
  sub := fun b hb => by simp at hb ⊢; rcases hb with rfl | rfl <;> simp
  keep := fun h h' ok hk => by
    obtain ⟨⟨old, he⟩, hit, hl⟩ := ok
    exact ⟨⟨old, hk _ _ (by simp) he⟩, hit.at fun o x => hk _ o (by simp) x, hl.at fun o x => hk _ o (by simp) x⟩
  there := fun h ok b hb => by
    obtain ⟨⟨old, he⟩, ⟨o1, h1, _⟩, ⟨o2, h2, _⟩⟩ := ok
    simp only [List.mem_cons, List.not_mem_nil, or_false] at hb
    rcases hb with rfl | rfl | rfl
    all_goals first | exact ⟨_, he⟩ | exact ⟨_, h1⟩ | exact ⟨_, h2⟩
  iter := fun s d Q E ok hd hdf h => by
    obtain ⟨⟨old, he⟩, hit, hl⟩ := ok
    simp only [List.mem_cons, List.not_mem_nil, or_false, not_or] at hdf
    obtain ⟨de, dit, dl⟩ := hdf
    refine wpAny_pyIter_enum he (h (fun i h => h.IsListIter it l i ∧ h.IsList l its.toArray ∧ ((∃ old, IsEnum h e it i old) ∨ ∃ old T f oT, IsEnumHeld h e it i old T f ∧ h.get? T = some oT ∧ T ≠ e ∧ T ≠ it ∧ T ≠ d)) ?_
      ⟨hit, hl, .inl ⟨old, he⟩⟩)
    exact {
      off := fun hm => by
        simp only [List.mem_cons, List.not_mem_nil, or_false] at hm
        rcases hm with x | x
        · exact de x
        · exact dit x
      frame := fun i h₁ h₂ st hk => by
        obtain ⟨hit, hl, he⟩ := st
        refine ⟨hit.at fun o x => hk _ o (Ne.symm dit) x, hl.at fun o x => hk _ o (Ne.symm dl) x, ?_⟩
        rcases he with ⟨old, he⟩ | ⟨old, T, f, oT, he, hT, r1, r2, r3⟩
        · exact .inl ⟨old, hk _ _ (Ne.symm de) he⟩
        · exact .inr ⟨old, T, f, oT, hk _ _ (Ne.symm de) he, hk _ _ r3 hT, r1, r2, r3⟩
      item := fun i s₁ Q₁ E₁ q hq st hds hQ => by
        obtain ⟨hit, hl, he⟩ := st
        obtain ⟨hi, eq1, eq2⟩ := enQ_get hq
        obtain ⟨u, hu, ru⟩ := r.get eq2
        have ex : its.toArray[i]? = some u := by simpa using hu
        have ec : ((i + 1 : Nat) : Int) = (i : Int) + 1 := by omega
        have nit : s₁.heap.objs.size ≠ it := let ⟨_, x, _⟩ := hit; Nat.ne_of_gt (Heap.lt_size x)
        rcases he with ⟨old, he⟩ | ⟨old, T, f, oT, he, hT, r1, r2, r3⟩
        · refine wpAny_pyNext_enum_item he hit hl ex hei fun h' ho hit' hT hsz hk => ?_
          exact hQ _ _ h' (s₁.toks + 1) (by rw [eq1]; exact ⟨_, rfl⟩) ru hT hsz
            ⟨hit', hl.at fun o x => hk l o hle hli x, .inr ⟨_, s₁.heap.objs.size, false, _, (by rw [ec]; exact ho), hT, Nat.ne_of_gt (Heap.lt_size he), nit, Nat.ne_of_gt hds⟩⟩
            fun b o hb x => hk b o (fun y => hb (by simp [y])) (fun y => hb (by simp [y])) x
        · refine wpAny_pyNext_enum_item_held he hT r1 r2 hit hl ex hei fun h' ho hit' hT' hsz hk => ?_
          exact hQ _ _ h' (s₁.toks + 1) (by rw [eq1]; exact ⟨_, rfl⟩) ru hT' hsz
            ⟨hit', hl.at fun o x => hk l o hle hli x, .inr ⟨old, T, true, oT, (by rw [ec]; exact ho), hk _ _ r1 r2 hT, r1, r2, r3⟩⟩
            fun b o hb x => hk b o (fun y => hb (by simp [y])) (fun y => hb (by simp [y])) x
      done := fun s₁ Q₁ E₁ st hQ => by
        obtain ⟨hit, hl, he⟩ := st
        have hx : its.toArray[(enQ xs).length]? = none := by
          have := r.length
          simp [enQ]; omega
        rcases he with ⟨old, he⟩ | ⟨old, T, f, oT, he, hT, r1, r2, r3⟩
        · exact wpAny_pyNext_enum_end hA he hit hl hx fun h' hk => hQ h' s₁.toks fun b o hb x => hk b o (fun y => hb (by simp [y])) x
        · exact wpAny_pyNext_enum_end_held hA he hit hl hx fun h' hk => hQ h' s₁.toks fun b o hb x => hk b o (fun y => hb (by simp [y])) x }
theorem TArg.zip (hA : A.handled = none) (z TI TO i1 i2 l1 l2 : Addr) (D : ZipApart z TI TO i1 i2 l1 l2) (vs us : List V) (xs ys : List Value) (r1 : Vals vs xs) (r2 : Vals us ys) :
    TArg prog w A "zip" z [z, TI, TO, i1, i2, l1, l2] [z, TO, i1, i2] (vs.zip us)
      (fun h => IsZip h z TI TO .none ∧ IsPair h TI (.ref i1) (.ref i2) ∧ (∃ a b, IsPair h TO a b) ∧ h.IsListIter i1 l1 0 ∧ h.IsListIter i2 l2 0 ∧ h.IsList l1 xs.toArray ∧ h.IsList l2 ys.toArray) where
  type := fun s ok => ⟨_, ok.1, rfl⟩
  nl := by decide
  nt := by decide
  len := by rw [typeLookup_type, builtinLookup_eq_fast]; kernel_rfl
  hint := by rw [typeLookup_type, builtinLookup_eq_fast]; kernel_rfl
  mem := List.mem_cons_self ..
  sub := fun b hb => by simp at hb ⊢; rcases hb with rfl | rfl | rfl | rfl <;> simp
  keep := fun h h' ok hk => by
    obtain ⟨hz, hTI, ⟨a, b, hTO⟩, h1, h2, hl1, hl2⟩ := ok
    exact ⟨hk _ _ (by simp) hz, hk _ _ (by simp) hTI, ⟨a, b, hk _ _ (by simp) hTO⟩, h1.at fun o e => hk _ o (by simp) e, h2.at fun o e => hk _ o (by simp) e, hl1.at fun o e => hk _ o (by simp) e, hl2.at fun o e => hk _ o (by simp) e⟩
  there := fun h ok b hb => by
    obtain ⟨hz, hTI, ⟨a, c, hTO⟩, ⟨o1, h1, _⟩, ⟨o2, h2, _⟩, ⟨o3, hl1, _⟩, ⟨o4, hl2, _⟩⟩ := ok
    simp only [List.mem_cons, List.not_mem_nil, or_false] at hb
    rcases hb with rfl | rfl | rfl | rfl | rfl | rfl | rfl
    all_goals first | exact ⟨_, hz⟩ | exact ⟨_, hTI⟩ | exact ⟨_, hTO⟩ | exact ⟨_, h1⟩ | exact ⟨_, h2⟩ | exact ⟨_, hl1⟩ | exact ⟨_, hl2⟩
  iter := fun s d Q E ok hd hdf h => by
    obtain ⟨hz, hTI, ⟨a, b, hTO⟩, h1, h2, hl1, hl2⟩ := ok
    simp only [List.mem_cons, List.not_mem_nil, or_false, not_or] at hdf
    obtain ⟨dz, dTI, dTO, di1, di2, dl1, dl2⟩ := hdf
    refine wpAny_pyIter_zip hz (h (fun i h => IsPair h TI (.ref i1) (.ref i2) ∧ h.IsListIter i1 l1 i ∧ h.IsListIter i2 l2 i ∧ h.IsList l1 xs.toArray ∧ h.IsList l2 ys.toArray ∧
      ((IsZip h z TI TO .none ∧ ∃ a b, IsPair h TO a b) ∨ ∃ T f oT, IsZipHeld h z TI TO T f ∧ h.get? T = some oT ∧ T ≠ z ∧ T ≠ i1 ∧ T ≠ i2 ∧ T ≠ d)) ?_
      ⟨hTI, h1, h2, hl1, hl2, .inl ⟨hz, a, b, hTO⟩⟩)
    exact {
      off := fun hm => by
        simp only [List.mem_cons, List.not_mem_nil, or_false] at hm
        rcases hm with e | e | e | e
        · exact dz e
        · exact dTO e
        · exact di1 e
        · exact di2 e
      frame := fun i h₁ h₂ st hk => by
        obtain ⟨hTI, h1, h2, hl1, hl2, hz⟩ := st
        refine ⟨hk _ _ (Ne.symm dTI) hTI, h1.at fun o e => hk _ o (Ne.symm di1) e, h2.at fun o e => hk _ o (Ne.symm di2) e, hl1.at fun o e => hk _ o (Ne.symm dl1) e, hl2.at fun o e => hk _ o (Ne.symm dl2) e, ?_⟩
        rcases hz with ⟨hz, a, b, hTO⟩ | ⟨T, f, oT, hz, hT, r1, r2, r3, r4⟩
        · exact .inl ⟨hk _ _ (Ne.symm dz) hz, a, b, hk _ _ (Ne.symm dTO) hTO⟩
        · exact .inr ⟨T, f, oT, hk _ _ (Ne.symm dz) hz, hk _ _ r4 hT, r1, r2, r3, r4⟩
      item := fun i s₁ Q₁ E₁ q hq st hds hQ => by
        obtain ⟨hTI, h1, h2, hl1, hl2, hz⟩ := st
        rw [List.getElem?_zip_eq_some] at hq
        obtain ⟨u, hu, ru⟩ := r1.get hq.1
        obtain ⟨v, hv, rv⟩ := r2.get hq.2
        have ex : xs.toArray[i]? = some u := by simpa using hu
        have ey : ys.toArray[i]? = some v := by simpa using hv
        have lt : ∀ {c o}, s₁.heap.get? c = some o → s₁.heap.objs.size ≠ c := fun e => Nat.ne_of_gt (Heap.lt_size e)
        have n1 : s₁.heap.objs.size ≠ i1 := let ⟨_, e, _⟩ := h1; lt e
        have n2 : s₁.heap.objs.size ≠ i2 := let ⟨_, e, _⟩ := h2; lt e
        rcases hz with ⟨hz, a, b, hTO⟩ | ⟨T, f, oT, hz, hT, t1, t2, t3, t4⟩
        · refine wpAny_pyNext_zip_item D hz hTI hTO h1 h2 hl1 hl2 ex ey fun h' a1 a2 a3 a4 a5 a6 hk => ?_
          exact hQ _ _ h' s₁.toks ru rv a5 a6
            ⟨hk _ _ D.TIz D.TITO D.TIi1 D.TIi2 hTI, a3, a4, hl1.at fun o e => hk _ o D.l1z D.l1TO D.l1i1 D.l1i2 e, hl2.at fun o e => hk _ o D.l2z D.l2TO D.l2i1 D.l2i2 e,
              .inr ⟨s₁.heap.objs.size, false, _, a1, a5, lt hz, n1, n2, Nat.ne_of_gt hds⟩⟩
            fun c o hc e => hk c o (fun x => hc (by simp [x])) (fun x => hc (by simp [x])) (fun x => hc (by simp [x])) (fun x => hc (by simp [x])) e
        · refine wpAny_pyNext_zip_item_held D hz hT hTI h1 h2 hl1 hl2 ex ey fun h' a1 a3 a4 a5 a6 hk => ?_
          exact hQ _ _ h' s₁.toks ru rv a5 a6
            ⟨hk _ _ D.TIz D.TIi1 D.TIi2 hTI, a3, a4, hl1.at fun o e => hk _ o D.l1z D.l1i1 D.l1i2 e, hl2.at fun o e => hk _ o D.l2z D.l2i1 D.l2i2 e,
              .inr ⟨T, true, oT, a1, hk _ _ t1 t2 t3 hT, t1, t2, t3, t4⟩⟩
            fun c o hc e => hk c o (fun x => hc (by simp [x])) (fun x => hc (by simp [x])) (fun x => hc (by simp [x])) e
      done := fun s₁ Q₁ E₁ st hQ => by
        obtain ⟨hTI, h1, h2, hl1, hl2, hz⟩ := st
        have l1 := r1.length
        have l2 := r2.length
        have hend : xs.toArray[(vs.zip us).length]? = none ∨ ys.toArray[(vs.zip us).length]? = none := by
          rw [List.length_zip]
          rcases Nat.le_total vs.length us.length with h | h
          · refine .inl ?_
            rw [Nat.min_eq_left h]
            simp; omega
          · refine .inr ?_
            rw [Nat.min_eq_right h]
            simp; omega
        rcases hz with ⟨hz, a, b, hTO⟩ | ⟨T, f, oT, hz, hT, t1, t2, t3, t4⟩
        · exact wpAny_pyNext_zip_end hA D hz hTI hTO h1 h2 hl1 hl2 hend fun h' hk => hQ h' s₁.toks fun c o hc e => hk c o (fun x => hc (by simp [x])) (fun x => hc (by simp [x])) (fun x => hc (by simp [x])) (fun x => hc (by simp [x])) e
        · exact wpAny_pyNext_zip_end_held hA D hz hT hTI h1 h2 hl1 hl2 hend fun h' hk => hQ h' s₁.toks fun c o hc e => hk c o (fun x => hc (by simp [x])) (fun x => hc (by simp [x])) (fun x => hc (by simp [x])) e }
end
/-! ### the list of pairs in the abstract heap -/
def putP : Hp → List Addr → List (V × V) → Hp
  | H, a :: as, p :: kvs => putP (upd H a (.tup [p.1, p.2])) as kvs
  | H, _, _ => H
theorem putP_off {b : Addr} : ∀ (as : List Addr) (qs : List (V × V)) (H : Hp), b ∉ as → putP H as qs b = H b
  | [], _, _, _ => rfl
  | _ :: _, [], _, _ => rfl
  | a :: as, p :: qs, H, h => by
    show putP (upd H a (.tup [p.1, p.2])) as qs b = H b
    rw [putP_off as qs _ (fun z => h (List.mem_cons_of_mem _ z)), upd_ne (fun z => h (by rw [z]; exact List.mem_cons_self))]
theorem putP_at : ∀ (as : List Addr) (qs : List (V × V)) (H : Hp), as.length = qs.length → as.Nodup → Paired (fun (t : Addr) (p : V × V) => putP H as qs t = some (.tup [p.1, p.2])) as qs
  | [], [], _, _, _ => .nil
  | [], _ :: _, _, h, _ => by cases h
  | _ :: _, [], _, h, _ => by cases h
  | a :: as, p :: qs, H, h, hn => by
    have hn' := List.nodup_cons.mp hn
    have ih := putP_at as qs (upd H a (.tup [p.1, p.2])) (Nat.succ.inj h) hn'.2
    refine .cons ?_ ih
    show putP (upd H a (.tup [p.1, p.2])) as qs a = some (.tup [p.1, p.2])
    rw [putP_off as qs _ hn'.1, upd_same]
open LiI in
theorem pairs_laid {X : Cx} {pins : List (Addr × Obj)} {σ : L2.St} {H : Hp} {s s0 : Shared} {h' : Heap} {tk : Nat} {qs : List (V × V)} {acc : Array Value} {c : Nat} {as : List Addr} {fp : List Addr} (I0 : Inv X pins σ H s0) (h0 : s0.gens = s.gens ∧ s0.os = s.os) (hsz : s0.heap.objs.size ≤ s.heap.objs.size) (hz : qs.length ≤ sizeLine)
    (hk : ∀ b o, s0.heap.get? b = some o → h'.get? b = some o) (hS : h'.get? s.heap.objs.size = some { cls := .type "list", dict := none, data := .seq acc c, slots := #[] }) (hl : as.length = qs.length) (hG : TOut qs (s.heap.objs.size + 1) h' as) (hacc : acc.toList = as.map Value.ref) :
    ∃ H' : Hp, (∀ b o, H b = some o → H' b = some o) ∧ H s.heap.objs.size = none ∧ (∀ t ∈ as, H t = none) ∧ s.heap.objs.size ∉ as ∧ H' s.heap.objs.size = some (.lst (as.map V.ref)) ∧ Paired (fun (t : Addr) (q : V × V) => H' t = some (.tup [q.1, q.2])) as qs ∧ Inv X pins σ H' { s with heap := h', toks := tk } := by
  have hSn : s.heap.objs.size ∉ as := fun z => Nat.lt_irrefl _ (hG.above _ z)
  have nd : as.Nodup := List.Pairwise.imp (fun {a b} (h : a < b) => Nat.ne_of_lt h) hG.rise
  have new : ∀ t ∈ as, H t = none := fun t ht => I0.hok.fresh (Nat.le_trans hsz (Nat.le_of_succ_le (hG.above t ht)))
  have newS : H s.heap.objs.size = none := I0.hok.fresh hsz
  have atP := putP_at as qs (upd H s.heap.objs.size (.lst (as.map V.ref))) (by omega) nd
  have off : ∀ b, b ∉ as → b ≠ s.heap.objs.size → putP (upd H s.heap.objs.size (.lst (as.map V.ref))) as qs b = H b := fun b h1 h2 => by rw [putP_off as qs _ h1, upd_ne h2]
  have low : ∀ b o, s0.heap.get? b = some o → b ∉ as ∧ b ≠ s.heap.objs.size := fun b o e => ⟨fun z => absurd (Nat.lt_of_lt_of_le (Heap.lt_size e) hsz) (Nat.not_lt.mpr (Nat.le_of_succ_le (hG.above b z))), Nat.ne_of_lt (Nat.lt_of_lt_of_le (Heap.lt_size e) hsz)⟩
  have kp : ∀ b u, H b = some u → (putP (upd H s.heap.objs.size (.lst (as.map V.ref))) as qs) b = some u := fun b u e => by
    rw [off b (fun z => by rw [new b z] at e; cases e) (fun z => by rw [z, newS] at e; cases e)]
    exact e
  have eS : putP (upd H s.heap.objs.size (.lst (as.map V.ref))) as qs s.heap.objs.size = some (.lst (as.map V.ref)) := by rw [putP_off as qs _ hSn, upd_same]
  refine ⟨putP (upd H s.heap.objs.size (.lst (as.map V.ref))) as qs, kp, newS, new, hSn, eS, atP, ?_⟩
  have J : Inv X pins σ (putP (upd H s.heap.objs.size (.lst (as.map V.ref))) as qs) { s0 with heap := h', toks := tk, drawn := s.drawn } := by
    refine I0.call' (ch := []) rfl ⟨fun b o q _ _ _ => hk b o q, fun b o q _ _ _ => ⟨o.slots, hk b o q⟩, fun b o q n _ => ?_, fun b o q _ => ⟨o, hk b o q⟩, fun b xs q => kp b _ q, fun b o u q => kp b _ q, fun b ps q => ⟨#[], by rw [kp b _ q]; simp⟩⟩ (fun b u q => ?_) I0.bare fun b z => by simp at z
    · obtain ⟨z1, z2⟩ := low b o q
      rw [off b z1 z2]
      exact n
    · by_cases hb : b ∈ as
      · obtain ⟨j, pk, e1, e2, e3⟩ := paired_ix atP hb
        rw [e3] at q
        cases q
        obtain ⟨q, k, x, f1, f2, f3, f4⟩ := hG.pairs j b e1
        rw [e2] at f1
        cases f1
        exact ⟨by show 2 ≤ sizeLine; decide, [k, x], .cons f2 (.cons f3 .nil), ⟨_, f4, rfl, _, rfl⟩⟩
      · by_cases hb2 : b = s.heap.objs.size
        · rw [hb2] at q ⊢
          rw [eS] at q
          cases q
          refine ⟨by rw [List.length_map]; omega, acc.toList, c, by rw [hacc]; exact LiI.vals_refs as, ?_⟩
          rw [Array.toArray_toList]
          exact hS
        · rw [off b hb hb2] at q
          exact (I0.hok b u q).stay (fun d v _ y => hk d v y) (fun d y => kp d _ y) fun d xs y => kp d _ y
  obtain ⟨hp0, g0, d0, t0, os0⟩ := s0
  obtain ⟨hp, g, d, t, os⟩ := s
  obtain ⟨rfl, rfl⟩ := h0
  exact J

def rPairs (qs : List (V × V)) (H1 : Hp) (Q : VK) : Prop := ∀ (H' : Hp) (S : Addr) (as : List Addr), (∀ b o, H1 b = some o → H' b = some o) → H1 S = none → (∀ t ∈ as, H1 t = none) → S ∉ as → H' S = some (.lst (as.map V.ref)) → Paired (fun (t : Addr) (q : V × V) => H' t = some (.tup [q.1, q.2])) as qs → Q (.ref S) H'
section
variable {X : Cx} {e e2 : Expr} {ta : TA} {p p2 pos pos2 : Pos}
theorem pe_listEnum (hc : X.calm = true) (hgl : Gl X "list") (hml : X.mg "list" = none) (hg : Gl X "enumerate") (hm : X.mg "enumerate" = none) (ha : PA X [e] ta) (hs : starEach [e] X.env = [(false, eval e X.env)] := by rfl)
    (na : starEach [.Call (.Name "enumerate" p) [e] [] pos] X.env = (false, eval (.Call (.Name "enumerate" p) [e] [] pos) X.env) :: starEach [] X.env := by rfl) :
    PE X (.Call (.Name "list" p2) [.Call (.Name "enumerate" p) [e] [] pos] [] pos2) (fun σ H Q => ta σ H fun vs H1 => ∃ a xs, vs = [.ref a] ∧ SqL X.K H1 a xs ∧ rPairs (enQ xs) H1 Q) := by
  refine ⟨fun pins s σ H Q I h => ?_⟩
  refine Call_ (ld_blt I hgl hml boot_list (PyProof.Rows.callWith_type1 (args_cons ?_ na) na))
  refine Call_ (ld_blt I hg hm boot_enumerate (PyProof.Rows.callWith_type1 (thn (ha.run pos pins s σ H _ I h) fun us s1 ⟨vs, H1, I1, r1, q1⟩ => ?_) hs rfl))
  obtain ⟨a, xs, ex, hq, q⟩ := q1
  subst ex
  cases r1 with
  | cons r rr =>
    cases rr
    cases r
    obtain ⟨its, rv, p', hz⟩ := I1.list hq
    have la : a < s1.heap.objs.size := p'.lt
    refine call_enumerate_list p'.isList fun h' he hit hsz hk => args_nil ?_
    refine tup_call (s := { s1 with heap := h' }) (TArg.enumerate (A := X.A.in1.in1) (I1.ok.hd hc) (s1.heap.objs.size + 1) s1.heap.objs.size a (Nat.succ_ne_self _) (Nat.ne_of_lt (Nat.lt_succ_of_lt la)) (Nat.ne_of_lt la) xs its rv) ⟨⟨.none, he⟩, hit, p'.isList.at fun o x => hk a o x⟩ (by rw [enQ, List.length_map, List.length_range, rv.length]; have := hz; rw [← rv.length]; omega) fun h'' tk acc c as hk2 hS hl hG hacc => ?_
    obtain ⟨H', k1, k2, k3, k4, k5, k6, J⟩ := pairs_laid (s := { s1 with heap := h' }) (tk := tk) (fp := []) I1 ⟨rfl, rfl⟩ (by show s1.heap.objs.size ≤ h'.objs.size; rw [hsz]; omega) (by rw [enQ, List.length_map, List.length_range]; omega) (fun b o hb => hk2 b o (fun z => by
      have lb := Heap.lt_size hb
      simp only [List.mem_cons, List.not_mem_nil, or_false] at z
      rcases z with z | z
      · exact absurd (z ▸ lb) (Nat.not_lt.mpr (Nat.le_succ _))
      · exact absurd (z ▸ lb) (Nat.lt_irrefl _)) (hk b o hb)) hS hl hG hacc
    exact ⟨.ref _, H', J, rfl, q H' _ as k1 k2 k3 k4 k5 k6⟩
theorem pe_listZip (hc : X.calm = true) (hgl : Gl X "list") (hml : X.mg "list" = none) (hg : Gl X "zip") (hm : X.mg "zip" = none) (ha : PA X [e, e2] ta) (hs : starEach [e, e2] X.env = (false, eval e X.env) :: starEach [e2] X.env := by rfl) (hpl : (backTo pos (starEach [e2] X.env)).any (·.1) = false := by rfl)
    (na : starEach [.Call (.Name "zip" p) [e, e2] [] pos] X.env = (false, eval (.Call (.Name "zip" p) [e, e2] [] pos) X.env) :: starEach [] X.env := by rfl) :
    PE X (.Call (.Name "list" p2) [.Call (.Name "zip" p) [e, e2] [] pos] [] pos2) (fun σ H Q => ta σ H fun vs H1 => ∃ a b xs ys, vs = [.ref a, .ref b] ∧ SqL X.K H1 a xs ∧ SqL X.K H1 b ys ∧ rPairs (xs.zip ys) H1 Q) := by
  refine ⟨fun pins s σ H Q I h => ?_⟩
  refine Call_ (ld_blt I hgl hml boot_list (PyProof.Rows.callWith_type1 (args_cons ?_ na) na))
  refine Call_ (ld_blt I hg hm PyProof.Rows.boot_zip (PyProof.Rows.callWith_type1 (thn (ha.run pos pins s σ H _ I h) fun us s1 ⟨vs, H1, I1, r1, q1⟩ => ?_) hs hpl))
  obtain ⟨a, b, xs, ys, ex, hqx, hqy, q⟩ := q1
  subst ex
  cases r1 with
  | cons r rr =>
    cases rr with
    | cons r' rr =>
      cases rr
      cases r
      cases r'
      obtain ⟨its, rv, p1, hz1⟩ := I1.list hqx
      obtain ⟨its2, rv2, p2, _⟩ := I1.list hqy
      have la : a < s1.heap.objs.size := p1.lt
      have lb : b < s1.heap.objs.size := p2.lt
      refine call_zip_2 p1.isList p2.isList fun h' hz hTI hTO h1 h2 hsz hk => args_nil ?_
      have hzl : (xs.zip ys).length ≤ sizeLine := by rw [List.length_zip]; have := rv.length; omega
      refine tup_call (s := { s1 with heap := h' }) (TArg.zip (A := X.A.in1.in1) (I1.ok.hd hc) _ _ _ _ _ a b (PySem.W.ktu_apart s1.heap.objs.size a b la lb) xs ys its its2 rv rv2) ⟨hz, hTI, ⟨_, _, hTO⟩, h1, h2, p1.isList.at fun o x => hk a o x, p2.isList.at fun o x => hk b o x⟩ hzl fun h'' tk acc c as hk2 hS hl hG hacc => ?_
      obtain ⟨H', k1, k2, k3, k4, k5, k6, J⟩ := pairs_laid (s := { s1 with heap := h' }) (tk := tk) (fp := []) I1 ⟨rfl, rfl⟩ (by show s1.heap.objs.size ≤ h'.objs.size; rw [hsz]; omega) hzl (fun b o hb => hk2 b o (fun z => by
        have lb := Heap.lt_size hb
        simp only [List.mem_cons, List.not_mem_nil, or_false] at z
        rcases z with z | z | z | z
        · exact absurd (z ▸ lb) (Nat.not_lt.mpr (Nat.le_add_right _ _))
        · exact absurd (z ▸ lb) (Nat.not_lt.mpr (Nat.le_add_right _ _))
        · exact absurd (z ▸ lb) (Nat.lt_irrefl _)
        · exact absurd (z ▸ lb) (Nat.not_lt.mpr (Nat.le_add_right _ _))) (hk b o hb)) hS hl hG hacc
      exact ⟨.ref _, H', J, rfl, q H' _ as k1 k2 k3 k4 k5 k6⟩
end
/-! ### the rules on data -/
inductive RepPs (K : PySem.W.Frag) (G : Hp) : List (D × D) → List (V × V) → Prop where
  | nil : RepPs K G [] []
  | cons {d e : D} {v u : V} {ds : List (D × D)} {vs : List (V × V)} : Rep K G d v → Rep K G e u → RepPs K G ds vs → RepPs K G ((d, e) :: ds) ((v, u) :: vs)
theorem RepPs.mono {K : PySem.W.Frag} {G G' : Hp} (h : Le G G') : ∀ {ds : List (D × D)} {vs : List (V × V)}, RepPs K G ds vs → RepPs K G' ds vs
  | _, _, .nil => .nil
  | _, _, .cons r s t => .cons (r.mono h) (s.mono h) (RepPs.mono h t)
theorem RepPs.of_get {K : PySem.W.Frag} {G : Hp} : ∀ {ds : List (D × D)} {vs : List (V × V)}, ds.length = vs.length → (∀ (i : Nat) p q, ds[i]? = some p → vs[i]? = some q → Rep K G p.1 q.1 ∧ Rep K G p.2 q.2) → RepPs K G ds vs
  | [], [], _, _ => .nil
  | [], _ :: _, h, _ => by cases h
  | _ :: _, [], h, _ => by cases h
  | (a, b) :: ds, (u, v) :: vs, h, g => by
    obtain ⟨g1, g2⟩ := g 0 (a, b) (u, v) rfl rfl
    exact .cons g1 g2 (RepPs.of_get (Nat.succ.inj h) fun i p q h1 h2 => g (i + 1) p q h1 h2)
theorem repPs_zip {K : PySem.W.Frag} {G : Hp} : ∀ {ds es : List D} {vs us : List V}, RepL K G ds vs → RepL K G es us → RepPs K G (ds.zip es) (vs.zip us)
  | _, _, _, _, .nil, _ => by rw [List.zip_nil_left, List.zip_nil_left]; exact .nil
  | _, _, _, _, .cons _ _, .nil => by rw [List.zip_nil_right, List.zip_nil_right]; exact .nil
  | _, _, _, _, .cons r t, .cons r' t' => by rw [List.zip_cons_cons, List.zip_cons_cons]; exact .cons r r' (repPs_zip t t')
def enP (ds : List D) : List (D × D) := (List.range ds.length).map fun (i : Nat) => (D.int (i : Int), ds.getD i .non)
theorem enP_tup (ds : List D) : (enP ds).map (fun p => D.tup [p.1, p.2]) = enumD ds := by
  unfold enP enumD
  rw [List.map_map]
  rfl
theorem repPs_enum {K : PySem.W.Frag} {G : Hp} {ds : List D} {vs : List V} (r : RepL K G ds vs) : RepPs K G (enP ds) (enQ vs) := by
  refine RepPs.of_get (by simp [enP, enQ, r.length]) fun i p q h1 h2 => ?_
  obtain ⟨hi, e1, e2⟩ := enQ_get h2
  unfold enP at h1
  rw [List.getElem?_map, List.getElem?_range (by rw [r.length]; exact hi)] at h1
  cases h1
  obtain ⟨d, hd, rd⟩ := r.getV e2
  refine ⟨by rw [e1]; exact .int _, ?_⟩
  have e : ds.getD i .non = d := by simp [List.getD, hd]
  show Rep K G (ds.getD i .non) q.2
  rw [e]
  exact rd
theorem rPairs_of {K : PySem.W.Frag} {W : Wd} {H1 G1 : Hp} {n1 : Nat} {ps : List (D × D)} {qs : List (V × V)} {Q : VK} (le : Le G1 H1) (j1 : W.J n1 H1) (rk : RepPs K G1 ps qs)
    (k : ∀ S H' G', Step W H1 G1 H' G' → W.J n1 H' → Rep K G' (.lst (ps.map fun p => D.tup [p.1, p.2])) (.ref S) → Q (.ref S) H') : rPairs qs H1 Q := by
  intro H' S as k1 k2 k3 k4 k5 k6
  have gS : G1 S = none := by
    cases q : G1 S with
    | none => rfl
    | some u => have := le.get q; rw [k2] at this; cases this
  have gas : ∀ t ∈ as, G1 t = none := fun t ht => by
    cases q : G1 t with
    | none => rfl
    | some u => have := le.get q; rw [k3 t ht] at this; cases this
  have s2 : StepP H1 G1 H' (takeG G1 H' (S :: as)) := by
    refine ⟨k1, fun b o e => ⟨o, ?_, rfl⟩, fun b o e => ⟨o, ?_, rfl⟩, fun b e => ?_⟩
    · unfold takeG
      rw [if_neg]
      · exact e
      · intro z
        rcases List.mem_cons.mp z with z | z
        · rw [z, gS] at e; cases e
        · rw [gas b z] at e; cases e
    · unfold takeG at e
      split at e
      · exact e
      · exact k1 b o (le.get e)
    · by_cases z : b ∈ S :: as
      · rcases List.mem_cons.mp z with z | z
        · exact .inr (z ▸ k2)
        · exact .inr (k3 b z)
      · unfold takeG at e
        rw [if_neg z] at e
        exact .inl e
  have rl : ∀ {as' : List Addr} {qs : List (V × V)} {ps : List (D × D)}, (∀ b ∈ as', b ∈ S :: as) → Paired (fun (t : Addr) (q : V × V) => H' t = some (.tup [q.1, q.2])) as' qs → RepPs K G1 ps qs → RepL K (takeG G1 H' (S :: as)) (ps.map fun p => D.tup [p.1, p.2]) (as'.map V.ref) := by
    intro as' qs ps hin pr
    induction pr generalizing ps with
    | nil => intro r; cases r; exact .nil
    | @cons t q ts qs h1 t1 ih =>
      intro r
      cases r with
      | cons ra rb r2 =>
        refine .cons (.tup (.inl (.inl ?_)) (.cons (ra.mono s2.le) (.cons (rb.mono s2.le) .nil))) (ih (fun b hb => hin b (List.mem_cons_of_mem _ hb)) r2)
        unfold takeG
        rw [if_pos (hin t (List.mem_cons_self ..))]
        exact h1
  refine k S H' _ (s2.step j1) (s2.J j1) (.lst (vs := as.map V.ref) ?_ (rl (fun b hb => List.mem_cons_of_mem _ hb) k6 rk))
  unfold takeG
  rw [if_pos (List.mem_cons_self ..)]
  exact k5
def dLEn (δ : DA) : DE := fun x ρ n q => δ x ρ n fun ds n1 => match ds with
  | [.lst es] => q (.lst (enumD es)) n1
  | _ => False
def dLZp (δ : DA) : DE := fun x ρ n q => δ x ρ n fun ds n1 => match ds with
  | [.lst es, .lst fs] => q (.lst (zipD es fs)) n1
  | _ => False
section
variable {X : Cx} {W : WX} {e e2 : Expr} {α' : DA} {p p2 pos pos2 : Pos}
theorem pd_listEnumerate (hc : X.calm = true) (hgl : Gl X "list") (hml : X.mg "list" = none) (hg : Gl X "enumerate") (hm : X.mg "enumerate" = none) (ha : PAD X W [e] α') (hs : starEach [e] X.env = [(false, eval e X.env)] := by rfl)
    (na : starEach [.Call (.Name "enumerate" p) [e] [] pos] X.env = (false, eval (.Call (.Name "enumerate" p) [e] [] pos) X.env) :: starEach [] X.env := by rfl) :
    PD X W (.Call (.Name "list" p2) [.Call (.Name "enumerate" p) [e] [] pos] [] pos2) (dLEn α') := by
  obtain ⟨t, pa, h⟩ := ha
  refine ⟨_, pe_listEnum hc hgl hml hg hm pa hs na, fun B σ H ρ n G α Q x q hK R hx hd k => ?_⟩
  refine h B σ H ρ n G α _ x _ hK R hx hd fun vs H1 G1 ds n1 s1 j1 r1 h1 => ?_
  split at h1
  · cases r1 with
    | cons r t =>
      cases t
      cases r with
      | lst e r =>
        refine ⟨_, _, rfl, SqL.of (s1.hh.get e), rPairs_of s1.hh j1 (repPs_enum r) fun S H' G' st j rr => k _ H' G' _ n1 (s1.trans st) j ?_ h1⟩
        rw [← enP_tup]
        exact rr
  · exact h1.elim
theorem pd_listZip (hc : X.calm = true) (hgl : Gl X "list") (hml : X.mg "list" = none) (hg : Gl X "zip") (hm : X.mg "zip" = none) (ha : PAD X W [e, e2] α') (hs : starEach [e, e2] X.env = (false, eval e X.env) :: starEach [e2] X.env := by rfl) (hpl : (backTo pos (starEach [e2] X.env)).any (·.1) = false := by rfl)
    (na : starEach [.Call (.Name "zip" p) [e, e2] [] pos] X.env = (false, eval (.Call (.Name "zip" p) [e, e2] [] pos) X.env) :: starEach [] X.env := by rfl) :
    PD X W (.Call (.Name "list" p2) [.Call (.Name "zip" p) [e, e2] [] pos] [] pos2) (dLZp α') := by
  obtain ⟨t, pa, h⟩ := ha
  refine ⟨_, pe_listZip hc hgl hml hg hm pa hs hpl na, fun B σ H ρ n G α Q x q hK R hx hd k => ?_⟩
  refine h B σ H ρ n G α _ x _ hK R hx hd fun vs H1 G1 ds n1 s1 j1 r1 h1 => ?_
  split at h1
  · cases r1 with
    | cons r t =>
      cases t with
      | cons r' t =>
        cases t
        cases r with
        | lst e r =>
          cases r' with
          | lst e' r' => exact ⟨_, _, _, _, rfl, SqL.of (s1.hh.get e), SqL.of (s1.hh.get e'), rPairs_of s1.hh j1 (repPs_zip r r') fun S H' G' st j rr => k _ H' G' _ n1 (s1.trans st) j rr h1⟩
  · exact h1.elim
end
end DL

end

/-! DLk -/
section
set_option autoImplicit false
/-! DLk: [.., *d], list(range ..), list of a dict. -/
namespace DL
open PySem PySem.Spec PySem.W PyProof.Rows L2
theorem star_dct {X : Cx} {pins : List (Addr × Obj)} {σ : L2.St} {H : Hp} {s : Shared} {a : Addr} {kvs : List (Key × V)} {E : Value → Shared → Prop} {Q : List Value → Shared → Prop} (hc : X.calm = true) (I : Inv X pins σ H s) (h : Rd H a (.dK kvs)) (hQ : ∀ us s', Inv X pins σ H s' → Vals (kvs.map fun kv => kV kv.1) us → Q us s') : PySem.W.StarOf (model X.prog X.w) X.A E (.ref a) Q s := by
  obtain ⟨hz, lo, vs, rk, hd⟩ := dk_rd I.hok h
  obtain ⟨ep, hat⟩ := hd.dictAt
  have hl : kvs.length = vs.length := Paired.length rk
  have z : wpAny (model X.prog X.w) X.A (collect (.ref a)) Q E s := by
    refine kdu_collect (kdl_dict (knd := mixKind X.prog X.w) (kvs := vs) (ep := ep) lo) (I.ok.hd hc) hat (by rw [← hl]; exact hz) fun h' tk acc' hk hacc => ?_
    refine hQ _ _ (I.kept hk) ?_
    have el : acc'.toList.length = acc'.size := by simp
    refine vals_of_at (by rw [List.length_map, el, hacc.1, hl]) fun j x w h1 h2 => ?_
    obtain ⟨k, y, hky, hi⟩ := hacc.2 j w (by rw [← Array.getElem?_toList]; exact h2)
    have e1 : (kvs.map (·.1))[j]? = some k := by
      rw [KV.keys rk, List.getElem?_map, hky] <;> rfl
    have e2 : (kvs.map fun kv => kV kv.1)[j]? = some (kV k) := by
      have e3 : (kvs.map fun kv => kV kv.1) = (kvs.map (·.1)).map kV := by rw [List.map_map] <;> rfl
      rw [e3, List.getElem?_map, e1] <;> rfl
    rw [e2] at h1
    cases h1
    exact keyIs_rel hi
  unfold PySem.W.StarOf notIterableAtAll
  exact wpAny_bind (wpAny_specialOf hd.typeIs PySem.F.slot_dict_iter.lookup (wpAny_pure ⟨rfl, z⟩))
def tStarD (te : TE) (t : TA) : TA := fun σ H Q => te σ H fun x H1 => ∃ a kvs, x = V.ref a ∧ Rd H1 a (.dK kvs) ∧ t σ H1 fun ys H2 => Q ((kvs.map fun kv => kV kv.1) ++ ys) H2
section
variable {X : Cx} {W : WX} {e : Expr} {es : List Expr} {te : TE} {t : TA} {p : Pos} {δ : DE} {α' : DA}
theorem pa_starD (hc : X.calm = true) (he : PE X e te) (hr : PA X es t) (hs : starEach (.Starred e p :: es) X.env = (true, eval e X.env) :: starEach es X.env := by rfl) : PA X (.Starred e p :: es) (tStarD te t) := by
  refine ⟨fun pos pins s σ H Q I h => ?_⟩
  refine PySem.W.items_star (thn (he.run pins s σ H _ I h) fun v s1 ⟨y, H1, I1, ry, a, xs, ey, hx, q⟩ => ?_) hs
  subst ey
  obtain rfl : v = Value.ref a := ry
  refine star_dct hc I1 hx fun us s2 I2 rv => ?_
  exact thn (hr.run pos pins s2 σ H1 _ I2 q) fun ws s3 ⟨vs, H3, I3, r3, q3⟩ => ⟨_ ++ vs, H3, I3, rv.append r3, q3⟩
def dStarD (a : DE) (r : DA) : DA := fun x ρ n q => a x ρ n fun d n1 => match d with
  | .dct kvs => r x ρ n1 fun ds n2 => q ((kvs.map fun kv => keyOf kv.1) ++ ds) n2
  | _ => False
theorem repL_keys {K : PySem.W.Frag} {G G' : Hp} : ∀ {kvs : List (Key × D)} {ws : List (Key × V)}, RepK K G kvs ws → RepL K G' (kvs.map fun kv => keyOf kv.1) (ws.map fun kv => kV kv.1)
  | _, _, .nil => .nil
  | _, _, .cons r t => .cons (keyOf_rep _) (repL_keys t)
theorem pad_starD (hc : X.calm = true) (h : PB X W e δ) (h2 : PAD X W es α') (hs : starEach (.Starred e p :: es) X.env = (true, eval e X.env) :: starEach es X.env := by rfl) : PAD X W (.Starred e p :: es) (dStarD δ α') := by
  obtain ⟨t, p, h⟩ := h
  obtain ⟨t', p', h'⟩ := h2
  refine ⟨_, pa_starD hc p p' hs, fun B σ H ρ n G α Q x q hK R hx hd k => ?_⟩
  refine h B σ H ρ n G α _ x _ hK R hx hd fun v H1 G1 d n1 s1 j1 r1 h1 => ?_
  cases d with
  | dct kvs =>
    obtain ⟨a, ws, rfl, hrd, rk⟩ := r1.dct s1.hh
    refine ⟨a, ws, rfl, hrd, ?_⟩
    refine h' B σ H1 ρ n1 G1 α _ x _ hK (R.step s1 j1) (hx.step s1) h1 fun vs H2 G2 ds n2 s2 j2 r2 h2 => ?_
    exact k _ H2 G2 _ n2 (s1.trans s2) j2 ((repL_keys rk).append r2) h2
  | _ => exact h1.elim
/-! ### list(range ..) -/
def RgV (i j c : Int) (n : Nat) : Prop := RgC i j c n ∧ n ≤ 2 ^ 24
def rgL (i c : Int) (n : Nat) : List V := (List.range n).map fun k => V.int (i + (k : Nat) * c)
theorem vals_rgL {a c : Int} {n : Nat} {acc : Array Value} (h : ItemsOf (fun i v => ∃ t, v = .int (a + i * c) t) acc n) : Vals (rgL a c n) acc.toList := by
  have e : n = acc.toList.length := by rw [← h.1]; simp
  unfold rgL
  rw [e]
  refine vals_of_get acc.toList (fun i => V.int (a + (i : Nat) * c)) fun j u hj => ?_
  obtain ⟨t, ht⟩ := h.2 j u (by rw [← Array.getElem?_toList]; exact hj)
  exact ⟨t, ht⟩
end
section
variable {X : Cx} {W : WX} {a b c : Expr} {ta : TA} {p p2 pos pos2 : Pos} {α' : DA}
theorem pe_listR2 (hc : X.calm = true) (hgl : Gl X "list") (hml : X.mg "list" = none) (hg : Gl X "range") (hm : X.mg "range" = none) (ha : PA X [a, b] ta) (hs : starEach [a, b] X.env = (false, eval a X.env) :: starEach [b] X.env := by rfl) (hpl : (backTo pos (starEach [b] X.env)).any (·.1) = false := by rfl)
    (na : starEach [.Call (.Name "range" p) [a, b] [] pos] X.env = (false, eval (.Call (.Name "range" p) [a, b] [] pos) X.env) :: starEach [] X.env := by rfl) :
    PE X (.Call (.Name "list" p2) [.Call (.Name "range" p) [a, b] [] pos] [] pos2) (fun σ H Q => ta σ H fun vs H1 => ∃ i j, vs = [.int i, .int j] ∧ RgOk i j ∧ ∀ q, H1 q = none → Q (.ref q) (upd H1 q (.lst (rgV i j)))) := by
  refine ⟨fun pins s σ H Q I h => ?_⟩
  refine Call_ (ld_blt I hgl hml boot_list (PyProof.Rows.callWith_type1 (args_cons ?_ na) na))
  refine Call_ (ld_blt I hg hm boot_range (PyProof.Rows.callWith_type1 (thn (ha.run pos pins s σ H _ I h) fun us s1 ⟨vs, H1, I1, r1, q1⟩ => ?_) hs hpl))
  obtain ⟨i, j, e, ⟨b1, b2, b3, b4, b5⟩, q⟩ := q1
  subst e
  cases r1 with
  | cons r rr =>
    cases rr with
    | cons r' rr =>
      cases rr
      obtain ⟨t, rfl⟩ := r
      obtain ⟨t', rfl⟩ := r'
      refine call_range_2 (args_nil ?_)
      have I2 : Inv X pins σ H1 { s1 with heap := s1.heap.push { cls := .type "range", data := .fields #[.int i t, .int j t', .int 1 s1.toks] }, toks := s1.toks + 1 } := I1.kept (t' := s1.toks + 1) fun b o e => Heap.get?_push_of_some _ e
      refine call_list_range (n := (j - i).toNat) (I1.ok.hd hc) (IsRange.new _ _ _ _ _ _ _) (small_one b1 b2 b3 b4) (rangeSize_nat i j) b5 fun h' tk acc c' hk e' hi => ?_
      refine ⟨.ref _, upd H1 _ (.lst (rgV i j)), I2.laid hk (Nat.le_refl _) (show ObjOk X.prog X.w _ _ _ (.lst (rgV i j)) from ⟨?_, acc.toList, c', vals_rg hi, ?_⟩), rfl, q _ (I2.hok.fresh (Nat.le_refl _))⟩
      · rw [rgV_length, sizeLine_eq]; omega
      · rw [Array.toArray_toList]; exact e'
theorem pe_listR3 (hc : X.calm = true) (hgl : Gl X "list") (hml : X.mg "list" = none) (hg : Gl X "range") (hm : X.mg "range" = none) (ha : PA X [a, b, c] ta) (hs : starEach [a, b, c] X.env = (false, eval a X.env) :: starEach [b, c] X.env := by rfl) (hpl : (backTo pos (starEach [b, c] X.env)).any (·.1) = false := by rfl)
    (na : starEach [.Call (.Name "range" p) [a, b, c] [] pos] X.env = (false, eval (.Call (.Name "range" p) [a, b, c] [] pos) X.env) :: starEach [] X.env := by rfl) :
    PE X (.Call (.Name "list" p2) [.Call (.Name "range" p) [a, b, c] [] pos] [] pos2) (fun σ H Q => ta σ H fun vs H1 => ∃ i j k n, vs = [.int i, .int j, .int k] ∧ RgV i j k n ∧ ∀ q, H1 q = none → Q (.ref q) (upd H1 q (.lst (rgL i k n)))) := by
  refine ⟨fun pins s σ H Q I h => ?_⟩
  refine Call_ (ld_blt I hgl hml boot_list (PyProof.Rows.callWith_type1 (args_cons ?_ na) na))
  refine Call_ (ld_blt I hg hm boot_range (PyProof.Rows.callWith_type1 (thn (ha.run pos pins s σ H _ I h) fun us s1 ⟨vs, H1, I1, r1, q1⟩ => ?_) hs hpl))
  obtain ⟨i, j, k, n, e, ⟨⟨c0, c1, c2, c3⟩, b5⟩, q⟩ := q1
  subst e
  cases r1 with
  | cons r rr =>
    cases rr with
    | cons r' rr =>
      cases rr with
      | cons r'' rr =>
        cases rr
        obtain ⟨t, rfl⟩ := r
        obtain ⟨t', rfl⟩ := r'
        obtain ⟨t'', rfl⟩ := r''
        refine call_range_3 c0 ?_ (.inl (PyProof.noPylong_small c1))
        refine args_nil ?_
        have I2 : Inv X pins σ H1 { s1 with heap := s1.heap.push { cls := .type "range", data := .fields #[.int i t, .int j t', .int k t''] } } := I1.kept (t' := s1.toks) fun b o e => Heap.get?_push_of_some _ e
        refine call_list_range (n := n) (I1.ok.hd hc) (IsRange.new ..) c2 c3 b5 fun h' tk acc c' hk e' hi => ?_
        refine ⟨.ref _, upd H1 _ (.lst (rgL i k n)), I2.laid hk (Nat.le_refl _) (show ObjOk X.prog X.w _ _ _ (.lst (rgL i k n)) from ⟨?_, acc.toList, c', vals_rgL hi, ?_⟩), rfl, q _ (I2.hok.fresh (Nat.le_refl _))⟩
        · rw [rgL, List.length_map, List.length_range, sizeLine_eq]; omega
        · rw [Array.toArray_toList]; exact e'
theorem repL_rng {K : PySem.W.Frag} {G : Hp} (lo : Int) : ∀ n : Nat, RepL K G (rngD lo n) ((List.range n).map fun i => V.int (lo + (i : Nat)))
  | 0 => .nil
  | n + 1 => by
    unfold rngD
    rw [List.range_succ, List.map_append, List.map_append]
    exact RepL.append (repL_rng lo n) (.cons (.int _) .nil)
theorem repL_rngC {K : PySem.W.Frag} {G : Hp} (lo c : Int) : ∀ n : Nat, RepL K G (rngC lo c n) (rgL lo c n)
  | 0 => .nil
  | n + 1 => by
    unfold rngC rgL
    rw [List.range_succ, List.map_append, List.map_append]
    exact RepL.append (repL_rngC lo c n) (.cons (.int _) .nil)
def dLR2 (δ : DA) : DE := fun x ρ n q => δ x ρ n fun ds n1 => match ds with
  | [.int i, .int j] => (-(2 ^ 62) ≤ i ∧ i < 2 ^ 62 ∧ -(2 ^ 62) ≤ j ∧ j < 2 ^ 62 ∧ (j - i).toNat ≤ 2 ^ 24) ∧ q (.lst (rngD i (j - i).toNat)) n1
  | _ => False
def dLR3 (δ : DA) : DE := fun x ρ n q => δ x ρ n fun ds n1 => match ds with
  | [.int i, .int j, .int c] => c = -1 ∧ (-(2 ^ 62) ≤ i ∧ i < 2 ^ 62 ∧ -(2 ^ 62) ≤ j ∧ j < 2 ^ 62 ∧ (i - j).toNat ≤ 2 ^ 24) ∧ q (.lst (rngC i (-1) (i - j).toNat)) n1
  | _ => False
theorem pd_listR2 (hc : X.calm = true) (hgl : Gl X "list") (hml : X.mg "list" = none) (hg : Gl X "range") (hm : X.mg "range" = none) (ha : PAB X W [a, b] α') (hs : starEach [a, b] X.env = (false, eval a X.env) :: starEach [b] X.env := by rfl) (hpl : (backTo pos (starEach [b] X.env)).any (·.1) = false := by rfl)
    (na : starEach [.Call (.Name "range" p) [a, b] [] pos] X.env = (false, eval (.Call (.Name "range" p) [a, b] [] pos) X.env) :: starEach [] X.env := by rfl) :
    PD X W (.Call (.Name "list" p2) [.Call (.Name "range" p) [a, b] [] pos] [] pos2) (dLR2 α') := by
  obtain ⟨t, pa, h⟩ := ha
  refine ⟨_, pe_listR2 hc hgl hml hg hm pa hs hpl na, fun B σ H ρ n G α Q x q hK R hx hd k => ?_⟩
  refine h B σ H ρ n G α _ x _ hK R hx hd fun vs H1 G1 ds n1 s1 j1 r1 h1 => ?_
  split at h1
  · rename_i i j
    cases r1 with
    | cons r t =>
      cases t with
      | cons r' t =>
        cases t
        refine ⟨i, j, by rw [r.int, r'.int], h1.1, fun z np => ?_⟩
        have s2 := StepP.made (o := .lst (rgV i j)) s1.hh np
        exact k _ _ _ _ n1 (s1.trans (s2.step j1)) (s2.J j1) (.lst upd_same (repL_rng _ _)) h1.2
  · exact h1.elim
theorem pd_listR3 (hc : X.calm = true) (hgl : Gl X "list") (hml : X.mg "list" = none) (hg : Gl X "range") (hm : X.mg "range" = none) (ha : PAB X W [a, b, c] α') (hs : starEach [a, b, c] X.env = (false, eval a X.env) :: starEach [b, c] X.env := by rfl) (hpl : (backTo pos (starEach [b, c] X.env)).any (·.1) = false := by rfl)
    (na : starEach [.Call (.Name "range" p) [a, b, c] [] pos] X.env = (false, eval (.Call (.Name "range" p) [a, b, c] [] pos) X.env) :: starEach [] X.env := by rfl) :
    PD X W (.Call (.Name "list" p2) [.Call (.Name "range" p) [a, b, c] [] pos] [] pos2) (dLR3 α') := by
  obtain ⟨t, pa, h⟩ := ha
  refine ⟨_, pe_listR3 hc hgl hml hg hm pa hs hpl na, fun B σ H ρ n G α Q x q hK R hx hd k => ?_⟩
  refine h B σ H ρ n G α _ x _ hK R hx hd fun vs H1 G1 ds n1 s1 j1 r1 h1 => ?_
  split at h1
  · rename_i i j c
    obtain ⟨rfl, hb, h1⟩ := h1
    cases r1 with
    | cons r t =>
      cases t with
      | cons r' t =>
        cases t with
        | cons r'' t =>
          cases t
          refine ⟨i, j, -1, _, by rw [r.int, r'.int, r''.int], ⟨RgC.neg hb.1 hb.2.1 hb.2.2.1 hb.2.2.2.1, hb.2.2.2.2⟩, fun z np => ?_⟩
          have s2 := StepP.made (o := .lst (rgL i (-1) (i - j).toNat)) s1.hh np
          exact k _ _ _ _ n1 (s1.trans (s2.step j1)) (s2.J j1) (.lst upd_same (repL_rngC _ _ _)) h1
  · exact h1.elim
end
end DL

end

/-! DLl -/
section
set_option autoImplicit false
/-! DLl: enumerate and zip over lists and tuples, in any mix. -/
namespace DL
open PySem PySem.Spec PySem.W PyProof.Rows L2
set_option maxHeartbeats 1000000 in
theorem meets_enum1 {v : Value} {o : Obj} {H : Heap → Prop} (B : Begins v o H) :
    Meets (Builtin.«enumerate.__new__» ⟨[.type "enumerate", v], []⟩) (fun _ R s => H s.heap ∧
      R (.ok (.ret (.ref (s.heap.push o).objs.size))) { s with heap := (s.heap.push o).push { cls := .type "enumerate", data := .fields #[.none, .bool false, .ref s.heap.objs.size, rawInt 0, .none, .none] } }) :=
  .of_wp fun prog w A R s h => by
    obtain ⟨hp, g, d, tk, os⟩ := s; obtain ⟨h1, h⟩ := h
    have hsub := sub_enumerate
    have q1 : ∀ {A' : Around} {E : Value → Shared → Prop} {Q : Value → Shared → Prop}, Q (.ref hp.objs.size) ⟨hp.push o, g, d, tk, os⟩ → wpAny (model prog w) A' (pyIter v) Q E ⟨hp, g, d, tk, os⟩ :=
      fun q => B.iter prog w _ _ ⟨hp, g, d, tk, os⟩ _ h1 q
    wp_walk using q1
    refine wpAny_stack_any fun st => wpAny_pure ?_
    split
    · rename_i c _ _ _ _ _
      cases (c == Value.type "enumerate")
      · wp_walk using q1
        exact ⟨_, rfl, h⟩
      · wp_walk using q1
        exact ⟨_, rfl, h⟩
    · wp_walk using q1
      exact ⟨_, rfl, h⟩
section
variable {prog : Program} {w : World} {A : Around} {E : Value → Shared → Prop} {s : Shared}
theorem enum_begins1 {v : Value} {o : Obj} {H : Heap → Prop} {Q : Value → Shared → Prop} (B : Begins v o H) (h1 : H s.heap)
    (h : ∀ h', IsEnum h' (s.heap.objs.size + 1) s.heap.objs.size 0 .none → h'.get? s.heap.objs.size = some o → h'.objs.size = s.heap.objs.size + 2 →
      (∀ b o, s.heap.get? b = some o → h'.get? b = some o) → Q (.ref (s.heap.objs.size + 1)) { s with heap := h' }) :
    wpAny (model prog w) A (call (.type "enumerate") [v]) Q E s := by
  refine callType_new F.called_enumerate (by decide) (F.typeCall_enumerate_1 _) (F.newCall_enumerate_1 _) (fun obj => F.args_object_init_2 obj _) F.entry_enumerate_new
    (meets_enum1 B) ⟨h1, ?_⟩
  have hz : (s.heap.push o).objs.size = s.heap.objs.size + 1 := Heap.size_push ..
  show _ ∧ _
  rw [hz]
  have he : IsEnum ((s.heap.push o).push { cls := .type "enumerate", data := .fields #[.none, .bool false, .ref s.heap.objs.size, rawInt 0, .none, .none] }) (s.heap.objs.size + 1) s.heap.objs.size 0 .none := by
    have := Heap.get?_push_size (s.heap.push o) (o := { cls := .type "enumerate", data := .fields #[.none, .bool false, .ref s.heap.objs.size, rawInt 0, .none, .none] }) rfl
    rw [hz] at this; exact this
  refine ⟨⟨_, he, rfl⟩, h _ he (Heap.get?_push_of_some _ (Heap.get?_push_size _ B.free)) (by rw [Heap.size_push, hz]) fun b o x => Heap.get?_push_of_some _ (Heap.get?_push_of_some _ x)⟩
end
/-! ### a list or a tuple, and its iterator -/
def SqK (t : Bool) (K : PySem.W.Frag) (H : Hp) (a : Addr) (xs : List V) : Prop := if t = true then SqT K H a xs else SqL K H a xs
def IsItK (t : Bool) (h : Heap) (it a : Addr) (i : Nat) : Prop := if t = true then h.IsTupleIter it a i else h.IsListIter it a i
def IsSqK (t : Bool) (h : Heap) (a : Addr) (its : Array Value) : Prop := if t = true then h.IsTuple a its else h.IsList a its
theorem SqK.inj {t : Bool} {X : Cx} {pins : List (Addr × Obj)} {σ : L2.St} {H : Hp} {s : Shared} (I : Inv X pins σ H s) {a : Addr} {xs ys : List V} (h : SqK t X.K H a xs) (h' : SqK t X.K H a ys) : xs = ys := by
  cases t with
  | true => exact I.tuple_inj h h'
  | false => exact I.list_inj h h'
theorem SqK.items {t : Bool} {X : Cx} {pins : List (Addr × Obj)} {σ : L2.St} {H : Hp} {s : Shared} (I : Inv X pins σ H s) {a : Addr} {xs : List V} (h : SqK t X.K H a xs) : ∃ its : List Value, Vals xs its ∧ IsSqK t s.heap a its.toArray ∧ xs.length ≤ sizeLine := by
  cases t with
  | true =>
    obtain ⟨its, r, e, z⟩ := I.tuple h
    exact ⟨its, r, e, z⟩
  | false =>
    obtain ⟨its, r, e, z⟩ := I.list h
    exact ⟨its, r, e.isList, z⟩
theorem IsItK.at {t : Bool} {h h' : Heap} {it a : Addr} {i : Nat} (x : IsItK t h it a i) (e : ∀ o, h.get? it = some o → h'.get? it = some o) : IsItK t h' it a i := by
  cases t with
  | true => obtain ⟨o, h1, h2, h3⟩ := (show h.IsTupleIter it a i from x); exact ⟨o, e o h1, h2, h3⟩
  | false => exact Heap.IsListIter.at (show h.IsListIter it a i from x) e
theorem IsItK.obj {t : Bool} {h : Heap} {it a : Addr} {i : Nat} (x : IsItK t h it a i) : ∃ o, h.get? it = some o ∧ ∀ v, o.data ≠ .prim v := by
  cases t with
  | true => obtain ⟨o, h1, h2, h3⟩ := (show h.IsTupleIter it a i from x); exact ⟨o, h1, fun v z => by rw [h3] at z; cases z⟩
  | false => obtain ⟨o, h1, h2, h3⟩ := (show h.IsListIter it a i from x); exact ⟨o, h1, fun v z => by rw [h3] at z; cases z⟩
theorem draws_K (t : Bool) {prog : Program} {w : World} {A : Around} (hh : A.handled = none) (it a : Addr) (hne : a ≠ it) (items : Array Value) : Draws prog w A it [it, a] items.size (fun i v => items[i]? = some v) (fun i h => IsItK t h it a i ∧ IsSqK t h a items) := by
  cases t with
  | true => exact Draws.tuple hh it a hne items
  | false => exact Draws.list hh it a hne items
theorem begins_K (t : Bool) (a : Addr) (items : Array Value) : ∃ o, Begins (.ref a) o (fun h => IsSqK t h a items) ∧ ∀ h it, h.get? it = some o → IsItK t h it a 0 := by
  cases t with
  | true => exact ⟨_, begins_tuple a items, fun h it e => ⟨_, e, rfl, rfl⟩⟩
  | false => exact ⟨_, begins_list a items, fun h it e => ⟨_, e, rfl, rfl⟩⟩
theorem IsItK.cell {t : Bool} {h : Heap} {it a : Addr} {i : Nat} (x : IsItK t h it a i) : ∃ o, h.get? it = some o ∧ ∀ v, o.data ≠ .cell v := by
  cases t with
  | true => obtain ⟨o, h1, h2, h3⟩ := (show h.IsTupleIter it a i from x); exact ⟨o, h1, fun v z => by rw [h3] at z; cases z⟩
  | false => obtain ⟨o, h1, h2, h3⟩ := (show h.IsListIter it a i from x); exact ⟨o, h1, fun v z => by rw [h3] at z; cases z⟩
theorem IsItK.lt {t : Bool} {h : Heap} {it a : Addr} {i : Nat} (x : IsItK t h it a i) : it < h.objs.size := by
  obtain ⟨o, e, _⟩ := x.obj
  exact Heap.lt_size e

/-! ### enumerate -/
def IteK (t : Bool) (K : PySem.W.Frag) (a : Addr) : It :=
  ⟨fun i H => ∃ (xs : List V) (x : V), SqK t K H a xs ∧ xs[i]? = some x, fun i H v H' => ∃ T x, v = .ref T ∧ H T = none ∧ H' = upd H T (.tup [.int (i : Nat), x]) ∧ ∀ xs, SqK t K H a xs → xs[i]? = some x, fun i H => ∃ xs : List V, SqK t K H a xs ∧ xs.length = i⟩
theorem enum_overD {prog : Program} {w : World} {A : Around} {E : Value → Shared → Prop} {s : Shared} {e it : Addr} {fp : List Addr} {n : Nat} {P : Nat → Value → Prop} {St : Nat → Heap → Prop} {old : Value} {i : Int} {Q : Option Value → Shared → Prop}
    (D : Draws prog w A.in1 it fp n P St) (he : IsEnum s.heap e it i old) (hst : St n s.heap) (hQ : ∀ h', Heap.ExtBut it s.heap h' → Q none { s with heap := h' }) : wpAny (model prog w) A (pyNext (.ref e)) Q E s := by
  have hT : s.TypeIs (.ref e) "enumerate" := ⟨_, he, rfl⟩
  unfold pyNext
  refine wpAny_bind (wpAny_attempt (wpAny_callSpecial?_slot (name := Str.ofString "__next__") hT F.slot_enumerate_next
    (wpAny_call_entry F.slot_enumerate_next hT F.entry_enumerate_next ?_ (F.args_enumerate_next_1 _))))
  show wpAny _ _ (field (.ref e) 2 >>= _) _ _ _
  refine wpAny_bind (wpAny_field he rfl (x := .ref it) rfl ?_)
  refine wpAny_bind (D.done _ _ _ hst fun h' x he' hx' => ?_)
  obtain ⟨o, ho, hc⟩ := hx'
  refine wpAny_bind (wpAny_isInstance (T := "StopIteration") (b := true) ⟨o, ho, hc⟩ isSubtype_stop ?_)
  exact wpAny_pure (hQ _ he')
theorem turn_enumK (t : Bool) {P : Program} {w : World} {K : PySem.W.Frag} {elts : List Expr} {kk : Nat} {tpos : Pos} (a e it : Addr) (hne : e ≠ it) (hai : a ≠ it) (hae : a ≠ e) :
    Turn P w K (.Tuple elts kk tpos) (IteK t K a) [e, it] e (fun i h => (∃ old, IsEnum h e it ((i : Nat) : Int) old) ∧ IsItK t h it a i) where
  mem := by simp
  obj := fun i h st b hb => by
    obtain ⟨⟨old, he⟩, hi⟩ := st
    have e' : b = e ∨ b = it := by simpa using hb
    rcases e' with z | z
    · rw [z]; exact ⟨_, he, fun v q => nomatch q⟩
    · rw [z]; exact hi.cell
  keep := fun i h h' st k => let ⟨⟨old, he⟩, hi⟩ := st; ⟨⟨old, k e (by simp) _ he⟩, hi.at fun o q => k it (by simp) o q⟩
  item := by
    intro X hP hw hK hc i pins s σ H E I hf st hg
    subst hP hw hK
    obtain ⟨⟨old, he⟩, hit⟩ := st
    obtain ⟨xs, x, hq, hx⟩ := hg
    obtain ⟨its, rv, p, hz⟩ := hq.items I
    obtain ⟨u, hu, ru⟩ := rv.get hx
    have hel : e < s.heap.objs.size := Heap.lt_size he
    have hil : it < s.heap.objs.size := hit.lt
    have hlt : i < its.toArray.size := by
      have := (List.getElem?_eq_some_iff.mp hu).1
      simpa using this
    refine wpAny_pyNext_enum_itemD (draws_K t (A := X.A.in1) (I.ok.hd hc) it a hai its.toArray) he ⟨hit, p⟩ hlt hne (by simp; exact ⟨hne, fun z => hae z.symm⟩) fun x' h' tk hP ho hit' hT hsz hk => ?_
    have hx' : x' = u := by
      have : its.toArray[i]? = some u := by simpa using hu
      rw [this] at hP
      exact (Option.some.inj hP).symm
    subst hx'
    refine ⟨_, rfl, wpAny_letOwnedTupleGo_enum (s := { s with heap := h', toks := tk + 1 }) ho fun h'' he' sb => ?_⟩
    have hT2 : h''.get? s.heap.objs.size = some { cls := .type "tuple", data := .seq #[.int i tk, x'] } := (sb.2 _ (Nat.ne_of_gt hel)).trans hT
    have new : ObjOk X.prog X.w (upd H s.heap.objs.size (.tup [.int (i : Nat), x])) h'' s.heap.objs.size (.tup [.int (i : Nat), x]) :=
      ⟨by show 2 ≤ sizeLine; decide, [.int i tk, x'], .cons ⟨_, rfl⟩ (.cons ru .nil), ⟨_, hT2, rfl, _, rfl⟩⟩
    have I1 : Inv X pins σ (upd H s.heap.objs.size (.tup [.int (i : Nat), x])) { s with heap := h'', toks := tk + 1 } :=
      I.turnedNew (ch := [e, it]) (fun b ob hb q => (sb.2 b (fun z => hb (by simp [z]))).trans (hk b ob (fun z => hb (by simp [z])) (fun z => hb (by simp [z])) q)) hf (Nat.le_refl _) new
    refine ⟨.ref s.heap.objs.size, _, I1, rfl, ⟨_, x, rfl, I.hok.fresh (Nat.le_refl _), rfl, fun ys hy => by rw [SqK.inj I hy hq]; exact hx⟩, ⟨⟨x', ?_⟩, hit'.1.at fun o q => (sb.2 it (Ne.symm hne)).trans q⟩, fun b hb => ?_⟩
    · have e1 : ((i + 1 : Nat) : Int) = (i : Int) + 1 := by omega
      rw [e1]; exact he'
    · have hb' : b < s.heap.objs.size := by
        have e' : b = e ∨ b = it := by simpa using hb
        rcases e' with z | z
        · rw [z]; exact hel
        · rw [z]; exact hil
      rw [upd_ne (Nat.ne_of_lt hb')]
      exact (hf b hb).1
  done := by
    intro X hP hw hK hc i pins s σ H E I hf st hg
    subst hP hw hK
    obtain ⟨⟨old, he⟩, hit⟩ := st
    obtain ⟨xs, hq, hx⟩ := hg
    obtain ⟨its, rv, p, hz⟩ := hq.items I
    obtain ⟨f0, f1, f2, f3, f4, f5⟩ := hf it (by simp)
    have hl : its.toArray.size = i := by rw [← hx, rv.length]; simp
    exact enum_overD (draws_K t (A := X.A.in1) (I.ok.hd hc) it a hai its.toArray) he ⟨by rw [hl]; exact hit, p⟩ fun h' eb => ⟨rfl, I.turned (t' := s.toks) (fun b o hb q => eb b o hb q) f0 f1 f3 f4 f5⟩
  self := fun A i s Q E st h => let ⟨⟨_, he⟩, _⟩ := st; wpAny_pyIter_enum he h
def iEnumK (K : PySem.W.Frag) (ta : TA) : TI := fun σ H R => ta σ H fun vs H1 => ∃ t a xs, vs = [.ref a] ∧ SqK t K H1 a xs ∧ R (IteK t K a) H1
theorem IsSqK.lt {t : Bool} {h : Heap} {a : Addr} {its : Array Value} (x : IsSqK t h a its) : a < h.objs.size := by
  cases t with
  | true => obtain ⟨o, e, _⟩ := (show h.IsTuple a its from x); exact Heap.lt_size e
  | false => obtain ⟨o, e, _⟩ := (show h.IsList a its from x); exact Heap.lt_size e
theorem pi_enumK {X : Cx} {e : Expr} {ta : TA} {p pos tpos : Pos} {elts : List Expr} {kk : Nat} (hg : Gl X "enumerate") (hm : X.mg "enumerate" = none) (ha : PA X [e] ta) (hs : starEach [e] X.env = [(false, eval e X.env)] := by rfl) :
    PI X (.Tuple elts kk tpos) (.Call (.Name "enumerate" p) [e] [] pos) (iEnumK X.K ta) := by
  refine ⟨fun pins s σ H R I h => ?_⟩
  refine Call_ (ld_blt I hg hm boot_enumerate (PyProof.Rows.callWith_type1 (thn (ha.run pos pins s σ H _ I h) fun us s1 ⟨vs, H1, I1, r1, q1⟩ => ?_) hs rfl))
  obtain ⟨t, a, xs, ex, hq, q⟩ := q1
  subst ex
  cases r1 with
  | cons r rr =>
    cases rr
    cases r
    obtain ⟨its, rv, p', hz⟩ := hq.items I1
    obtain ⟨o, bg, ob⟩ := begins_K t a its.toArray
    have la := p'.lt
    refine enum_begins1 bg p' fun h' he hit hsz hk => wpAny_pyIter_enum he ?_
    have I2 : Inv X pins σ H1 { s1 with heap := h' } := I1.kept (t' := s1.toks) hk
    refine ⟨s1.heap.objs.size + 1, [s1.heap.objs.size + 1, s1.heap.objs.size], _, _, H1, rfl, I2, turn_enumK t a (s1.heap.objs.size + 1) s1.heap.objs.size (Nat.succ_ne_self _) (Nat.ne_of_lt la) (Nat.ne_of_lt (Nat.lt_succ_of_lt la)), ⟨⟨.none, he⟩, ob _ _ hit⟩, fun b hb => ?_, q⟩
    have e' : b = s1.heap.objs.size + 1 ∨ b = s1.heap.objs.size := by simpa using hb
    have hle : s1.heap.objs.size ≤ b := by
      rcases e' with z | z
      · rw [z]; exact Nat.le_add_right _ _
      · rw [z]; exact Nat.le_refl _
    exact I1.fpOk hle (I1.hok.fresh hle)

/-! ### zip -/
def ItzK (t1 t2 : Bool) (K : PySem.W.Frag) (a b : Addr) : It :=
  ⟨fun i H => ∃ (xs ys : List V) (x y : V), SqK t1 K H a xs ∧ SqK t2 K H b ys ∧ xs[i]? = some x ∧ ys[i]? = some y,
    fun i H v H' => ∃ T x y, v = .ref T ∧ H T = none ∧ H' = upd H T (.tup [x, y]) ∧ (∀ xs, SqK t1 K H a xs → xs[i]? = some x) ∧ ∀ ys, SqK t2 K H b ys → ys[i]? = some y,
    fun i H => ∃ xs ys : List V, SqK t1 K H a xs ∧ SqK t2 K H b ys ∧ i ≤ xs.length ∧ i ≤ ys.length ∧ (i = xs.length ∨ i = ys.length)⟩
theorem turn_zipK (t1 t2 : Bool) {P : Program} {w : World} {K : PySem.W.Frag} {elts : List Expr} {kk : Nat} {tpos : Pos} {a b z TI TO i1 i2 : Addr} (S : ZipSep2 z TI TO i1 i2 [i1, a] [i2, b]) (hai : a ≠ i1) (hbi : b ≠ i2) :
    Turn P w K (.Tuple elts kk tpos) (ItzK t1 t2 K a b) [z, TI, TO, i1, i2] z (fun i h => IsZip h z TI TO .none ∧ IsTupOf2 h TI (.ref i1) (.ref i2) ∧ (∃ x y, IsTupOf2 h TO x y) ∧ IsItK t1 h i1 a i ∧ IsItK t2 h i2 b i) where
  mem := by simp
  obj := fun i h st c hc => by
    obtain ⟨hz, hTI, ⟨x, y, hTO⟩, h1, h2⟩ := st
    have e' : c = z ∨ c = TI ∨ c = TO ∨ c = i1 ∨ c = i2 := by simpa using hc
    rcases e' with q | q | q | q | q
    · rw [q]; exact ⟨_, hz, fun v q => nomatch q⟩
    · rw [q]; exact ⟨_, hTI, fun v q => nomatch q⟩
    · rw [q]; exact ⟨_, hTO, fun v q => nomatch q⟩
    · rw [q]; exact h1.cell
    · rw [q]; exact h2.cell
  keep := fun i h h' st k => by
    obtain ⟨hz, hTI, ⟨x, y, hTO⟩, h1, h2⟩ := st
    exact ⟨k z (by simp) _ hz, k TI (by simp) _ hTI, ⟨x, y, k TO (by simp) _ hTO⟩, h1.at fun o q => k i1 (by simp) o q, h2.at fun o q => k i2 (by simp) o q⟩
  item := by
    intro X hP hw hK hc i pins s σ H E I hf st hg
    subst hP hw hK
    obtain ⟨hz, hTI, ⟨x0, y0, hTO⟩, h1, h2⟩ := st
    obtain ⟨xs, ys, x, y, hqx, hqy, hx, hy⟩ := hg
    obtain ⟨its, rv, p, _⟩ := hqx.items I
    obtain ⟨its2, rv2, p2, _⟩ := hqy.items I
    obtain ⟨u, hu, ru⟩ := rv.get hx
    obtain ⟨u2, hu2, ru2⟩ := rv2.get hy
    have hzl : z < s.heap.objs.size := Heap.lt_size hz
    have l1 : i < its.toArray.size := by
      have := (List.getElem?_eq_some_iff.mp hu).1
      simpa using this
    have l2 : i < its2.toArray.size := by
      have := (List.getElem?_eq_some_iff.mp hu2).1
      simpa using this
    refine wpAny_pyNext_zipD2_item S (draws_K t1 (A := X.A.in1) (I.ok.hd hc) i1 a hai its.toArray) (draws_K t2 (A := X.A.in1) (I.ok.hd hc) i2 b hbi its2.toArray) hz hTI hTO ⟨h1, p⟩ ⟨h2, p2⟩ l1 l2 fun x1 x2 h' tk e1 e2 z' TO' h1' h2' hT hsz hk => ?_
    have ex1 : x1 = u := by
      have : its.toArray[i]? = some u := by simpa using hu
      rw [this] at e1
      exact (Option.some.inj e1).symm
    have ex2 : x2 = u2 := by
      have : its2.toArray[i]? = some u2 := by simpa using hu2
      rw [this] at e2
      exact (Option.some.inj e2).symm
    subst ex1 ex2
    refine ⟨_, rfl, wpAny_letOwnedTupleGo_zip (s := { s with heap := h', toks := tk }) z' fun h'' z'' sb => ?_⟩
    have hT2 : h''.get? s.heap.objs.size = some { cls := .type "tuple", data := .seq #[x1, x2] } := (sb.2 _ (Nat.ne_of_gt hzl)).trans hT
    have new : ObjOk X.prog X.w (upd H s.heap.objs.size (.tup [x, y])) h'' s.heap.objs.size (.tup [x, y]) :=
      ⟨by show 2 ≤ sizeLine; decide, [x1, x2], .cons ru (.cons ru2 .nil), ⟨_, hT2, rfl, _, rfl⟩⟩
    have I1 : Inv X pins σ (upd H s.heap.objs.size (.tup [x, y])) { s with heap := h'', toks := tk } :=
      I.turnedNew (ch := [z, TI, TO, i1, i2]) (fun c o hb q => (sb.2 c (fun q' => hb (by simp [q']))).trans (hk c o (fun q' => hb (by simp [q'])) (fun q' => hb (by simp [q'])) (fun q' => hb (by simp [q'])) (fun q' => hb (by simp [q'])) q)) hf (Nat.le_refl _) new
    refine ⟨.ref s.heap.objs.size, _, I1, rfl, ⟨_, x, y, rfl, I.hok.fresh (Nat.le_refl _), rfl, fun l hl => by rw [SqK.inj I hl hqx]; exact hx, fun l hl => by rw [SqK.inj I hl hqy]; exact hy⟩, ⟨z'', ?_, ⟨x1, x2, ?_⟩, ?_, ?_⟩, fun c hcm => ?_⟩
    · exact (sb.2 _ S.TIz).trans (hk _ _ S.TIz S.TITO S.TIi1 S.TIi2 hTI)
    · exact (sb.2 _ S.TOz).trans TO'
    · exact h1'.1.at fun o q => (sb.2 _ (Ne.symm S.zi1)).trans q
    · exact h2'.1.at fun o q => (sb.2 _ (Ne.symm S.zi2)).trans q
    · have hlt : c < s.heap.objs.size := by
        have e' : c = z ∨ c = TI ∨ c = TO ∨ c = i1 ∨ c = i2 := by simpa using hcm
        rcases e' with q | q | q | q | q
        · rw [q]; exact hzl
        · rw [q]; exact Heap.lt_size hTI
        · rw [q]; exact Heap.lt_size hTO
        · rw [q]; exact h1.lt
        · rw [q]; exact h2.lt
      rw [upd_ne (Nat.ne_of_lt hlt)]
      exact (hf c hcm).1
  done := by
    intro X hP hw hK hc i pins s σ H E I hf st hg
    subst hP hw hK
    obtain ⟨hz, hTI, ⟨x0, y0, hTO⟩, h1, h2⟩ := st
    obtain ⟨xs, ys, hqx, hqy, hle1, hle2, hend⟩ := hg
    obtain ⟨its, rv, p, _⟩ := hqx.items I
    obtain ⟨its2, rv2, p2, _⟩ := hqy.items I
    have e1 : its.toArray.size = xs.length := by rw [rv.length]; simp
    have e2 : its2.toArray.size = ys.length := by rw [rv2.length]; simp
    exact wpAny_pyNext_zipD2_end S (draws_K t1 (A := X.A.in1) (I.ok.hd hc) i1 a hai its.toArray) (draws_K t2 (A := X.A.in1) (I.ok.hd hc) i2 b hbi its2.toArray) hz hTI hTO ⟨h1, p⟩ ⟨h2, p2⟩ (by omega) (by omega) (by omega) fun h' tk hk => ⟨rfl, I.turnedL (t' := tk) (ch := [z, TI, TO, i1, i2]) (fun c o hb q =>
      hk c o (fun q' => hb (by simp [q'])) (fun q' => hb (by simp [q'])) (fun q' => hb (by simp [q'])) (fun q' => hb (by simp [q'])) q) hf⟩
  self := fun A i s Q E st h => wpAny_pyIter_zip st.1 h
def iZipK (K : PySem.W.Frag) (ta : TA) : TI := fun σ H R => ta σ H fun vs H1 => ∃ t1 t2 a b xs ys, vs = [.ref a, .ref b] ∧ SqK t1 K H1 a xs ∧ SqK t2 K H1 b ys ∧ R (ItzK t1 t2 K a b) H1
theorem pi_zipK {X : Cx} {e e2 : Expr} {ta : TA} {p pos tpos : Pos} {elts : List Expr} {kk : Nat} (hg : Gl X "zip") (hm : X.mg "zip" = none) (ha : PA X [e, e2] ta)
    (hs : starEach [e, e2] X.env = (false, eval e X.env) :: starEach [e2] X.env := by rfl) (hpl : (backTo pos (starEach [e2] X.env)).any (·.1) = false := by rfl) :
    PI X (.Tuple elts kk tpos) (.Call (.Name "zip" p) [e, e2] [] pos) (iZipK X.K ta) := by
  refine ⟨fun pins s σ H R I h => ?_⟩
  refine Call_ (ld_blt I hg hm PyProof.Rows.boot_zip (PyProof.Rows.callWith_type1 (thn (ha.run pos pins s σ H _ I h) fun us s1 ⟨vs, H1, I1, r1, q1⟩ => ?_) hs hpl))
  obtain ⟨t1, t2, a, b, xs, ys, ex, hqx, hqy, q⟩ := q1
  subst ex
  cases r1 with
  | cons r rr =>
    cases rr with
    | cons r' rr =>
      cases rr
      cases r
      cases r'
      obtain ⟨its, rv, p1, _⟩ := hqx.items I1
      obtain ⟨its2, rv2, p2, _⟩ := hqy.items I1
      have la := p1.lt
      have lb := p2.lt
      obtain ⟨o1, bg1, ob1⟩ := begins_K t1 a its.toArray
      obtain ⟨o2, bg2, ob2⟩ := begins_K t2 b its2.toArray
      refine zip_begins2 bg1 bg2 p1 p2 fun h' hz hTI hTO h1 h2 hsz hk => wpAny_pyIter_zip hz ?_
      have I2 : Inv X pins σ H1 { s1 with heap := h' } := I1.kept (t' := s1.toks) hk
      have sep := zip_sep2 (N := s1.heap.objs.size) (fp1 := [a]) (fp2 := [b]) (fun c hc => by rw [List.mem_singleton.mp hc]; exact la) (fun c hc => by rw [List.mem_singleton.mp hc]; exact lb)
      refine ⟨s1.heap.objs.size + 4, [s1.heap.objs.size + 4, s1.heap.objs.size + 2, s1.heap.objs.size + 3, s1.heap.objs.size, s1.heap.objs.size + 1], _, _, H1, rfl, I2, turn_zipK t1 t2 sep (Nat.ne_of_lt la) (Nat.ne_of_lt (Nat.lt_succ_of_lt lb)), ⟨hz, hTI, ⟨_, _, hTO⟩, ob1 _ _ h1, ob2 _ _ h2⟩, fun c hcm => ?_, q⟩
      have e' : c = s1.heap.objs.size + 4 ∨ c = s1.heap.objs.size + 2 ∨ c = s1.heap.objs.size + 3 ∨ c = s1.heap.objs.size ∨ c = s1.heap.objs.size + 1 := by simpa using hcm
      have hle : s1.heap.objs.size ≤ c := by
        rcases e' with z | z | z | z | z
        · rw [z]; exact Nat.le_add_right _ _
        · rw [z]; exact Nat.le_add_right _ _
        · rw [z]; exact Nat.le_add_right _ _
        · rw [z]; exact Nat.le_refl _
        · rw [z]; exact Nat.le_add_right _ _
      exact I1.fpOk hle (I1.hok.fresh hle)

/-! ### the rules on data -/
theorem Rep.sqK {K : PySem.W.Frag} {G H : Hp} {d : D} {v : V} {ds : List D} (le : Le G H) (r : Rep K G d v) (h : seqD d = some ds) : ∃ t a vs, v = .ref a ∧ (∀ H' G', Le G G' → Le G' H' → SqK t K H' a vs) ∧ RepL K G ds vs := by
  cases d with
  | lst es =>
    cases h
    cases r with
    | lst e r => exact ⟨false, _, _, rfl, fun H' G' l1 l2 => SqL.of (l2.get (l1.get e)), r⟩
  | tup es =>
    cases h
    cases r with
    | tup e r => exact ⟨true, _, _, rfl, fun H' G' l1 l2 => l2.sqT (l1.sqT e), r⟩
  | _ => exact nomatch h
section
variable {K : PySem.W.Frag} {G : Hp}
theorem walkD_enumK {t : Bool} {a : Addr} {vs : List V} {ds : List D} (e : ∀ H' G', Le G G' → Le G' H' → SqK t K H' a vs) (r : RepL K G ds vs) : WalkD K (IteK t K a) G (enumD ds) := by
  have hl := r.length
  have hle : (enumD ds).length = ds.length := by simp [enumD]
  refine ⟨fun i H G' hi l1 l2 => ?_, fun H G' l1 l2 => ?_, fun i H G' x H' hi l1 l2 y => ?_⟩
  · rw [hle, hl] at hi
    exact ⟨vs, vs[i], e _ _ l1 l2, List.getElem?_eq_getElem hi⟩
  · exact ⟨vs, e _ _ l1 l2, by rw [hle, hl]⟩
  · rw [hle] at hi
    obtain ⟨T, v, rfl, nT, rfl, hv⟩ := y
    have e1 := hv vs (e _ _ l1 l2)
    obtain ⟨dd, h1, h2⟩ := r.getV e1
    have s := StepP.made (o := .tup [.int (i : Nat), v]) l2 nT
    refine ⟨.tup [.int i, dd], _, ?_, s, .tup (.inl (.inl upd_same)) (.cons (.int _) (.cons (h2.mono (l1.trans s.le)) .nil))⟩
    rw [List.getElem?_eq_getElem hi] at h1
    injection h1 with h1
    simp [enumD, hi, List.getD, h1]
theorem walkD_zipK {t1 t2 : Bool} {a b : Addr} {vs us : List V} {ds es : List D} (e : ∀ H' G', Le G G' → Le G' H' → SqK t1 K H' a vs) (r : RepL K G ds vs) (e' : ∀ H' G', Le G G' → Le G' H' → SqK t2 K H' b us) (r' : RepL K G es us) : WalkD K (ItzK t1 t2 K a b) G (zipD ds es) := by
  have hl := r.length
  have hl' := r'.length
  have hle : (zipD ds es).length = min ds.length es.length := by simp [zipD]
  refine ⟨fun i H G' hi l1 l2 => ?_, fun H G' l1 l2 => ?_, fun i H G' x H' hi l1 l2 y => ?_⟩
  · rw [hle] at hi
    exact ⟨vs, us, vs[i]'(by omega), us[i]'(by omega), e _ _ l1 l2, e' _ _ l1 l2, List.getElem?_eq_getElem _, List.getElem?_eq_getElem _⟩
  · exact ⟨vs, us, e _ _ l1 l2, e' _ _ l1 l2, by rw [hle]; omega, by rw [hle]; omega, by rw [hle]; omega⟩
  · rw [hle] at hi
    obtain ⟨T, v, u, rfl, nT, rfl, hv, hu⟩ := y
    obtain ⟨dd, h1, h2⟩ := r.getV (hv vs (e _ _ l1 l2))
    obtain ⟨de, h3, h4⟩ := r'.getV (hu us (e' _ _ l1 l2))
    have s := StepP.made (o := .tup [v, u]) l2 nT
    refine ⟨.tup [dd, de], _, ?_, s, .tup (.inl (.inl upd_same)) (.cons (h2.mono (l1.trans s.le)) (.cons (h4.mono (l1.trans s.le)) .nil))⟩
    rw [zipD, List.getElem?_map, (List.getElem?_zip_eq_some (z := (dd, de))).mpr ⟨h1, h3⟩]
    rfl
end
def iEnK (δ : DA) : DI := fun x ρ n q => δ x ρ n fun ds n1 => match ds with
  | [d] => opt (seqD d) fun es => q (enumD es) n1
  | _ => False
def iZpK (δ : DA) : DI := fun x ρ n q => δ x ρ n fun ds n1 => match ds with
  | [d, e] => opt (seqD d) fun es => opt (seqD e) fun fs => q (zipD es fs) n1
  | _ => False
section
variable {X : Cx} {W : WX} {e a b : Expr} {α' : DA} {p pos tpos : Pos} {elts : List Expr} {kk : Nat}
theorem pid_enumK (hg : Gl X "enumerate") (hm : X.mg "enumerate" = none) (ha : PAD X W [e] α') (hs : starEach [e] X.env = [(false, eval e X.env)] := by rfl) : PID X W (.Tuple elts kk tpos) (.Call (.Name "enumerate" p) [e] [] pos) (iEnK α') := by
  obtain ⟨t, pa, h⟩ := ha
  refine ⟨_, pi_enumK hg hm pa hs, fun B σ H ρ n G α R x q hK RB hx hd k => ?_⟩
  refine h B σ H ρ n G α _ x _ hK RB hx hd fun vs H1 G1 ds n1 s1 j1 r1 h1 => ?_
  split at h1
  · obtain ⟨es, ee, h1⟩ := opt_some h1
    cases r1 with
    | cons r t =>
      cases t
      obtain ⟨t, a, vs, rfl, hq, rl⟩ := r.sqK s1.hh ee
      exact ⟨t, a, vs, rfl, hq _ _ (Le.refl _) s1.hh, k _ H1 G1 _ n1 s1 j1 (walkD_enumK hq rl) h1⟩
  · exact h1.elim
theorem pid_zipK (hg : Gl X "zip") (hm : X.mg "zip" = none) (ha : PAD X W [a, b] α') (hs : starEach [a, b] X.env = (false, eval a X.env) :: starEach [b] X.env := by rfl) (hpl : (backTo pos (starEach [b] X.env)).any (·.1) = false := by rfl) : PID X W (.Tuple elts kk tpos) (.Call (.Name "zip" p) [a, b] [] pos) (iZpK α') := by
  obtain ⟨t, pa, h⟩ := ha
  refine ⟨_, pi_zipK hg hm pa hs hpl, fun B σ H ρ n G α R x q hK RB hx hd k => ?_⟩
  refine h B σ H ρ n G α _ x _ hK RB hx hd fun vs H1 G1 ds n1 s1 j1 r1 h1 => ?_
  split at h1
  · obtain ⟨es, ee, h1⟩ := opt_some h1
    obtain ⟨fs, ef, h1⟩ := opt_some h1
    cases r1 with
    | cons r t =>
      cases t with
      | cons r' t =>
        cases t
        obtain ⟨t1, a1, vs, rfl, hq, rl⟩ := r.sqK s1.hh ee
        obtain ⟨t2, a2, us, rfl, hq', rl'⟩ := r'.sqK s1.hh ef
        exact ⟨t1, t2, a1, a2, vs, us, rfl, hq _ _ (Le.refl _) s1.hh, hq' _ _ (Le.refl _) s1.hh, k _ H1 G1 _ n1 s1 j1 (walkD_zipK hq rl hq' rl') h1⟩
  · exact h1.elim
end
/-! ### bool(a list) -/
def fBoolL : FL := f1 fun d k => match d with
  | .lst es => k (.bl (!es.isEmpty))
  | _ => False
theorem dcall_boolL {K : PySem.W.Frag} : DCall K (fun xs H Q => ∃ (a : Addr) (zs : List V), xs = [.ref a] ∧ SqL K H a zs ∧ Q (.bl (!zs.isEmpty)) H) fBoolL := by
  intro W H G vs ds Q k le r hf hk
  cases r with
  | nil => exact hf.elim
  | cons r t =>
    cases t with
    | cons _ _ => exact hf.elim
    | nil =>
      rename_i d v
      cases d with
      | lst es =>
        obtain ⟨a, us, rfl, e, rl⟩ := r.lst le
        refine ⟨a, us, rfl, SqL.of e, hk _ H G _ (.refl le) ?_ hf⟩
        have : us.isEmpty = es.isEmpty := by
          cases rl <;> rfl
        rw [this]
        exact .bl _
      | _ => exact hf.elim
end DL

end

/-! DLm -/
section
set_option autoImplicit false
/-! DLm: defs that hand back a new object; == of dicts. -/
namespace DL
open PySem PySem.Spec L2
/-- like spW; what is handed back is new, and nothing names it -/
def spWF (K : PySem.W.Frag) (m : Nat) (F : DF) : Sp := fun vs H Q E => ∃ (W : Wd) (n : Nat) (G : Hp) (ds : List D) (q : DQ) (x : Xn → Nat → Prop), Le G H ∧ (∀ a, W.rg a → G a = none) ∧ W.J n H ∧ RepL K G ds vs ∧ ds.length = m ∧ F W ds n q x ∧
  (∀ a H' G' d n', Step W H G H' G' → W.J n' H' → H a = none → G' a = none → ¬ W.rg a → OwnAt K G' H' a d → q d n' → Q (.ref a) H') ∧ (∀ c dd H' G' e n', Step W H G H' G' → W.J n' H' → XRep K G' H' e c dd → x e n' → E c dd H')
def endsF (W : Wd) (q : DQ) (x : Xn → Nat → Prop) : DEnds := ⟨fun _ _ => False, fun _ _ => False, fun _ _ => False, fun _ _ => False, fun e _ n => x e n, W, q⟩
theorem ok_defF {P : Program} {w : World} {K : PySem.W.Frag} {mg : Str → Option Value} {base : Heap} {x qual : Str} {params : Arguments} {body : List Stmt} {scope : Scope} {dvs : List V} {kws : List (Str × V)} {f : Addr} {fd : FuncData} {N ps : List Str} {k m : Nat} {F : DF}
    (FD : FunD K x qual params body scope dvs kws f fd) (S : FnScope N ps scope) (hm : ps.length = m)
    (hb : ∀ (X : Cx) (E : XK) (W : Wd) (ds : List D) (n : Nat) (q : DQ) (xx : Xn → Nat → Prop), (∃ cdv A outer s H, X = cxOf (L2.CX P w) P w K mg base N qual scope f cdv A outer s H E) → Room k X.A → Takes X (fun c d _ H => E c d H) → PassesOwn (model X.prog X.w) X.A X.env X.xe → ds.length = m → F W ds n q xx →
      ∃ δ, PSsD X (fun c d _ H => E c d H) body δ ∧ δ (endsF W q xx) (startD N ds) n) : FnOk P w K mg base (L2.CX P w) (k + 1) f fd ps (spWF K m F) := by
  refine FD.ok S (fun vs H Q E h => ?_) (fun cdv A outer s H vs Q E hr h => ?_)
  · obtain ⟨W, n, G, ds, q, x, _, _, _, r, hl, _⟩ := h
    rw [← r.length, hl, hm]
  · obtain ⟨W, n, G, ds, q, xx, le, rg, j, r, hl, hF, kq, kx⟩ := h
    obtain ⟨δ, ⟨t, p, e⟩, hδ⟩ := hb (cxOf (L2.CX P w) P w K mg base N qual scope f cdv A outer s H E) E W ds n q xx ⟨cdv, A, outer, s, H, rfl⟩ hr (takes_of rfl rfl rfl rfl) (passes_of rfl) hl hF
    refine ⟨t, p, ?_⟩
    refine e ⟨W, K, H, G, none⟩ (L2.start N vs) H (startD N ds) n G _ _ _ rfl (RelB.start le rg j r) ?_ hδ
    exact ⟨fun _ _ _ _ _ _ _ h => h.elim, fun _ _ _ _ _ _ _ _ h => h.elim, fun _ _ _ _ _ _ _ h => h.elim, fun _ _ _ _ _ _ _ h => h.elim, fun c dd σ H' ρ n' G' α e R r hq => kx c dd H' G' e n' R.st R.J r hq, rfl, fun a H' d n' G' s j h0 g nr o hq => kq a H' G' d n' s j h0 g nr o hq⟩
structure SgF (P : Program) (w : World) (K : PySem.W.Frag) (mg : Str → Option Value) (base : Heap) (x : Str) (k m : Nat) (F : DF) (dvd : List D) : Prop where
  ex : ∃ (f : Addr) (fd : FuncData) (ps : List Str) (ds : List Value) (dvs : List V), FnOk P w K mg base (L2.CX P w) k f fd ps (spWF K m F) ∧ mg x = some (.ref f) ∧ PySem.W.keepIn K (.ref f) = true ∧ Binds K fd ps ds ∧ Vals dvs ds ∧ ∀ G, RepL K G dvd dvs
structure MgF (P : Program) (w : World) (K : PySem.W.Frag) (mg : Str → Option Value) (base : Heap) (c x : Str) (k m : Nat) (F : DF) (dvd : List D) : Prop where
  cl : Cls K (ca K c)
  ex : ∃ (f : Addr) (fd : FuncData) (ps : List Str) (ds : List Value) (dvs : List V), FnOk P w K mg base (L2.CX P w) k f fd ps (spWF K m F) ∧ Meth K (ca K c) x f ∧ Binds K fd ps ds ∧ Vals dvs ds ∧ ∀ G, RepL K G dvd dvs
section
variable {X : Cx} {W : WX} {k m : Nat} {F : DF} {dvd : List D} {x c y : Str} {p pos apos : Pos} {e o : Expr} {es : List Expr} {a : DA} {δ : DE}
theorem fresh_back {W : Wd} {H G H1 G1 H' G' : Hp} {a : Addr} {n1 : Nat} (s1 : Step W H G H1 G1) (j1 : W.J n1 H1) (np : H1 a = none) : H a = none := by
  have nr : ¬ W.rg a := fun r => W.there n1 H1 a j1 r np
  cases e : H a with
  | none => rfl
  | some o => rw [s1.fr a o e nr] at np; cases np
theorem ef_call {K : PySem.W.Frag} {dvs : List V} {t : TA} (hd : ∀ G, RepL K G dvd dvs) (ha : EA K W t a) : EF K W (tCallSD (spWF K m F) dvs (WE W) t) (dCall m F dvd a) := by
  intro B σ H ρ n G α Q x q hK R hx h k
  refine ha B σ H ρ n G α _ x _ hK R hx h fun vs H1 G1 ds n1 s1 j1 r1 h1 => ?_
  have R1 := R.step s1 j1
  have hx1 := hx.step s1
  obtain ⟨hl, h1⟩ := h1
  rw [hx.1] at h1
  exact ⟨B.W, n1, G1, ds ++ dvd, q, x.ex, s1.hh, R1.rg, j1, r1.append (hd G1), hl, h1, fun a H' G' d n' s j np ng nr o hq => k a H' G' d n' (s1.trans s) j (fresh_back (H' := H') (G' := G') s1 j1 np) ng nr o hq, fun cc dd H' G' e n' s j r hq => hx1.2 cc dd H' G' e n' s j (hK ▸ r) hq⟩
theorem pf_call (S : SgF X.prog X.w X.K X.mg X.base x k m F dvd) (hr : Room k X.A) (tk : Takes X W) (hg : Gl X x) (ha : PAD X W (e :: es) a) (hdb : (x == ("__debug__" : Str)) = false := by decide)
    (he : starEach (e :: es) X.env = (false, eval e X.env) :: starEach es X.env := by rfl) (hpl : (backTo pos (starEach es X.env)).any (·.1) = false := by rfl) : PF X W (.Call (.Name x p) (e :: es) [] pos) (dCall m F dvd a) := by
  obtain ⟨t, pa, ea⟩ := ha
  obtain ⟨f, fd, ps, ds, dvs, hF, hm, hk, hb, hd, hdv⟩ := S.ex
  exact ⟨_, pe_callSD hF hr hg hm hk hb hd (fun σ => passAt tk σ) pa hdb he hpl, ef_call hdv ea⟩
theorem pf_call0 (S : SgF X.prog X.w X.K X.mg X.base x k m F dvd) (hr : Room k X.A) (tk : Takes X W) (hg : Gl X x) (hdb : (x == ("__debug__" : Str)) = false := by decide) : PF X W (.Call (.Name x p) [] [] pos) (dCall m F dvd dNil) := by
  obtain ⟨f, fd, ps, ds, dvs, hF, hm, hk, hb, hd, hdv⟩ := S.ex
  refine ⟨_, pe_callSD0 hF hr hg hm hk hb hd (fun σ => passAt tk σ) hdb, ef_call hdv ?_⟩
  exact fun B σ H ρ n G α Q x q hK R hx hd k => k [] H G [] n (.refl _ R.le) R.J .nil hd
theorem ef_meth {K : PySem.W.Frag} {dvs : List V} {to : TE} {t : TA} (hd : ∀ G, RepL K G dvd dvs) (ho : ED K W to δ) (ha : EA K W t a) : EF K W (tMethSD (ca K c) y (spWF K m F) dvs (WE W) to t) (dMeth c y m F dvd δ a) := by
  intro B σ H ρ n G α Q x q hK R hx h k
  refine ho B σ H ρ n G α _ x _ hK R hx h fun v0 H0 G0 d0 n0 s0 j0 r0 h0 => ?_
  cases d0 with
  | obj c' fs =>
    obtain ⟨ec, el, h0⟩ := h0
    subst ec
    cases r0 with
    | obj e r =>
      refine ⟨_, _, _, rfl, s0.hh.get e, r.lookupN el, ?_⟩
      have R0 := R.step s0 j0
      refine ha B σ H0 ρ n0 G0 α _ x _ hK R0 (hx.step s0) h0 fun vs H1 G1 ds n1 s1 j1 r1 h1 => ?_
      have R1 := R0.step s1 j1
      have hx1 := (hx.step s0).step s1
      obtain ⟨hl, h1⟩ := h1
      rw [hx.1] at h1
      exact ⟨B.W, n1, G1, _ :: (ds ++ dvd), q, x.ex, s1.hh, R1.rg, j1, .cons (.obj (s1.le.get e) (r.mono s1.le)) (r1.append (hd G1)), hl, h1, fun a H' G' d n' s j np ng nr o hq => k a H' G' d n' ((s0.trans s1).trans s) j (fresh_back (H' := H') (G' := G') (s0.trans s1) j1 np) ng nr o hq, fun cc dd H' G' e n' s j r hq => hx1.2 cc dd H' G' e n' s j (hK ▸ r) hq⟩
  | _ => exact h0.elim
end
/-! ### == of dicts with flat values -/
def eqKD (ks ls : List (Key × D)) : Bool := ks.all fun q => match getD ls q.1 with
  | some d => eqD q.2 d
  | none => false
def fEqDct (neg : Bool) : F2 := fun x y k => match x, y with
  | .dct ks, .dct ls => (ks.all fun q => flatD q.2) = true ∧ (ls.all fun q => flatD q.2) = true ∧ k (.bl (if neg then !(ks.length == ls.length && eqKD ks ls) else (ks.length == ls.length && eqKD ks ls)))
  | _, _ => False
def eqKV (ks ls : List (Key × V)) : Bool := ks.all fun q => match valV ls q.1 with
  | some v => eqV q.2 v
  | none => false
def rEqDct (neg : Bool) : R2 := fun x y H Q => ∃ a b ks ls, x = .ref a ∧ y = .ref b ∧ Rd H a (.dK ks) ∧ Rd H b (.dK ls) ∧ (ks.all fun q => flatV q.2) = true ∧ (ls.all fun q => flatV q.2) = true ∧ Q (.bl (if neg then !(ks.length == ls.length && eqKV ks ls) else (ks.length == ls.length && eqKV ks ls))) H
theorem valV_flat {ls : List (Key × V)} (h : (ls.all fun q => flatV q.2) = true) {k : Key} {v : V} (e : valV ls k = some v) : flatV v = true := by
  unfold valV at e
  cases q : ls.find? (fun kv => decide (kv.1 = k)) with
  | none => rw [q] at e; cases e
  | some kv =>
    rw [q] at e
    cases e
    exact List.all_eq_true.mp h kv (List.mem_of_find?_eq_some q)
/-- as eqKV, but what follows a key that is not there is not asked -/
def eqKS (ls : List (Key × V)) : List (Key × V) → Bool
  | [] => true
  | q :: r => match valV ls q.1 with
    | some v => eqV q.2 v && eqKS ls r
    | none => false
theorem eqKS_eq (ls : List (Key × V)) : ∀ ks : List (Key × V), eqKS ls ks = eqKV ks ls
  | [] => rfl
  | q :: r => by
    show _ = ((match valV ls q.1 with | some v => eqV q.2 v | none => false) && eqKV r ls)
    rw [← eqKS_eq ls r]
    show (match valV ls q.1 with | some v => eqV q.2 v && eqKS ls r | none => false) = _
    cases valV ls q.1 <;> simp
theorem hitsKV {A : Around} {s : Shared} {ls : List (Key × V)} {vb : List (Key × Value)} (rb : KV ls vb) (fl : (ls.all fun q => flatV q.2) = true) : ∀ {ks : List (Key × V)} {va : List (Key × Value)}, KV ks va → (ks.all fun q => flatV q.2) = true → PySem.W.KeqHits A s vb va (eqKS ls ks)
  | _, _, .nil, _ => .nil
  | _, _, .cons (a := q) (b := u) (l₁ := ks) h t, hf => by
    obtain ⟨k, v⟩ := q
    obtain ⟨k', v'⟩ := u
    obtain ⟨e, r⟩ := h
    dsimp only at e r
    subst e
    rw [List.all_cons, Bool.and_eq_true_iff] at hf
    have rv := rb.val k
    unfold eqKS
    dsimp only
    cases e1 : valV ls k with
    | none =>
      rw [e1] at rv
      cases e2 : valueAt vb k with
      | none => exact .miss e2
      | some z => rw [e2] at rv; exact rv.elim
    | some w =>
      rw [e1] at rv
      cases e2 : valueAt vb k with
      | none => rw [e2] at rv; exact rv.elim
      | some z =>
        rw [e2] at rv
        exact .hit e2 (eqAt_V r rv hf.1 (valV_flat fl e1)) (hitsKV rb fl t hf.2)
theorem op_eqDct {X : Cx} (hu : X.A.units < cLine) : OpR X (compareOp .Eq) (rEqDct false) := by
  intro pins s σ H x y v u Q I rx ry h
  obtain ⟨a, b, ks, ls, rfl, rfl, ea, eb, fk, fl, q⟩ := h
  obtain rfl : v = Value.ref a := rx
  obtain rfl : u = Value.ref b := ry
  obtain ⟨_, ya, va, ra, da⟩ := dk_rd I.hok ea
  obtain ⟨_, yb, vb, rb, db⟩ := dk_rd I.hok eb
  refine PySem.W.keq_eq (knd := mixKind X.prog X.w) (r := eqKS ls ks) ya yb da db hu (fun _ => hitsKV rb fl ra fk) ⟨_, H, I, ?_, q⟩
  rw [eqKS_eq, ← ra.length, ← rb.length]
  rfl
theorem op_neDct {X : Cx} (hu : X.A.units < cLine) : OpR X (compareOp .NotEq) (rEqDct true) := by
  intro pins s σ H x y v u Q I rx ry h
  obtain ⟨a, b, ks, ls, rfl, rfl, ea, eb, fk, fl, q⟩ := h
  obtain rfl : v = Value.ref a := rx
  obtain rfl : u = Value.ref b := ry
  obtain ⟨_, ya, va, ra, da⟩ := dk_rd I.hok ea
  obtain ⟨_, yb, vb, rb, db⟩ := dk_rd I.hok eb
  refine PySem.W.keq_ne (knd := mixKind X.prog X.w) (r := eqKS ls ks) ya yb da db hu (fun _ => hitsKV rb fl ra fk) ⟨_, H, I, ?_, q⟩
  rw [eqKS_eq, ← ra.length, ← rb.length]
  rfl
theorem RepK.flat {K : PySem.W.Frag} {G : Hp} : ∀ {ks : List (Key × D)} {ws : List (Key × V)}, RepK K G ks ws → (ks.all fun q => flatD q.2) = true → (ws.all fun q => flatV q.2) = true
  | _, _, .nil, _ => rfl
  | _, _, .cons r t, h => by
    rw [List.all_cons, Bool.and_eq_true_iff] at h
    rw [List.all_cons, RepK.flat t h.2]
    dsimp only at h
    rw [r.flat h.1]; rfl
theorem getD_flat {ls : List (Key × D)} (h : (ls.all fun q => flatD q.2) = true) {k : Key} {v : D} (e : getD ls k = some v) : flatD v = true := by
  unfold getD at e
  cases q : ls.find? (fun kv => decide (kv.1 = k)) with
  | none => rw [q] at e; cases e
  | some kv =>
    rw [q] at e
    cases e
    exact List.all_eq_true.mp h kv (List.mem_of_find?_eq_some q)
theorem RepK.eqKV {K : PySem.W.Frag} {G : Hp} {ls : List (Key × D)} {us : List (Key × V)} (rl : RepK K G ls us) (fl : (ls.all fun q => flatD q.2) = true) : ∀ {ks : List (Key × D)} {ws : List (Key × V)}, RepK K G ks ws → (ks.all fun q => flatD q.2) = true → DL.eqKV ws us = eqKD ks ls
  | _, _, .nil, _ => rfl
  | _, _, .cons (k := k) (d := d) (v := v) r t, h => by
    rw [List.all_cons, Bool.and_eq_true_iff] at h
    have ih := RepK.eqKV rl fl t h.2
    unfold DL.eqKV eqKD at ih ⊢
    rw [List.all_cons, List.all_cons, ih]
    congr 1
    dsimp only
    rcases rl.val (k := k) with ⟨d', v', e1, e2, r'⟩ | ⟨e1, e2⟩
    · rw [e1, e2]
      exact r.eqV r' h.1 (getD_flat fl e1)
    · rw [e1, e2]
theorem dop_eqDct {K : PySem.W.Frag} (neg : Bool) : DOp K (rEqDct neg) (fEqDct neg) := by
  intro W H G x y dx dy Q k le rx ry hf hk
  cases dx with
  | dct ks =>
    cases dy with
    | dct ls =>
      obtain ⟨f1, f2, hf⟩ := hf
      obtain ⟨a, ws, rfl, h1, r1⟩ := rx.dct le
      obtain ⟨b, us, rfl, h2, r2⟩ := ry.dct le
      refine ⟨a, b, ws, us, rfl, rfl, h1, h2, r1.flat f1, r2.flat f2, hk _ H G _ (.refl le) ?_ hf⟩
      rw [RepK.eqKV r2 f2 r1 f1, ← r1.length, ← r2.length]
      exact .bl _
    | _ => exact hf.elim
  | _ => exact hf.elim
section
variable {X : Cx} {W : WX} {a b : Expr} {δa δb : DE} {pos : Pos}
theorem pd_eqDct (hu : X.A.units + 64 < cLine) (ha : PB X W a δa) (hb : PB X W b δb) : PD X W (.Compare a [.Eq] [b] pos) (dOp (fEqDct false) δa δb) := pd_cmp (op_eqDct (by omega)) (dop_eqDct false) ha hb (nomark _)
theorem pd_neDct (hu : X.A.units + 64 < cLine) (ha : PB X W a δa) (hb : PB X W b δb) : PD X W (.Compare a [.NotEq] [b] pos) (dOp (fEqDct true) δa δb) := pd_cmp (op_neDct (by omega)) (dop_eqDct true) ha hb (nomark _)
theorem pt_eqDct (hu : X.A.units + 64 < cLine) (ha : PB X W a δa) (hb : PB X W b δb) : PTD X W (.Compare a [.Eq] [b] pos) (dTest (dOp (fEqDct false) δa δb)) := pt_cmpD (op_eqDct (by omega)) (dop_eqDct false) ha hb (nomark _)
theorem pt_neDct (hu : X.A.units + 64 < cLine) (ha : PB X W a δa) (hb : PB X W b δb) : PTD X W (.Compare a [.NotEq] [b] pos) (dTest (dOp (fEqDct true) δa δb)) := pt_cmpD (op_neDct (by omega)) (dop_eqDct true) ha hb (nomark _)
end
end DL

end

/-! DLn -/
section
set_option autoImplicit false
/-! DLn: one comparison that gives True or False, as a test. -/
namespace DL
open PySem PySem.Spec L2
theorem wpAny_isTrue_cmp {M : Model} {A : Around} {env : PySem.Env} {E : Value → Shared → Prop} {s : Shared} {l r : Expr} {op : CmpOp} {pos : Pos} {whole : Sem Value} {Q : Bool → Shared → Prop}
    (h : wpAny M A (eval (.Compare l [op] [r] pos) env) (fun c s₁ => wpAny M A (truthy c) Q E s₁) E s) : wpAny M A (isTrue (.Compare l [op] [r] pos) env whole) Q E s := fun Γ p hΓ => by
  have z := h Γ p hΓ
  simp only [eval_Compare1, Sem.wp_bind', Sem.wp_holding, Sem.wp_cmd_standAt, Sem.wp_operate] at z
  simp only [isTrue_Compare1, Sem.wp_bind', Sem.wp_holding, Sem.wp_cmd_standAt, Sem.wp_operate]
  exact Sem.wp_mono M Γ _ (fun a p₁ s₁ h₁ => Sem.wp_mono M Γ _ (fun b _ s₂ h₂ => Sem.wp_mono M Γ _ (fun c p₃ s₃ h₃ => h₃ Γ p₃ hΓ)
    (fun _ _ _ h' => h') _ _ h₂) (fun _ _ _ h' => h') _ _ h₁) (fun _ _ _ h' => h') _ _ z
theorem pt_cmpE {X : Cx} {a b : Expr} {op : CmpOp} {pos : Pos} {t : TE} (h : PE X (.Compare a [op] [b] pos) t) : PT X (.Compare a [op] [b] pos) (tTest t) := by
  refine ⟨fun pins s σ H Q I hw => ?_⟩
  refine wpAny_isTrue_cmp (thn (h.run pins s σ H _ I hw) fun v s1 ⟨x, H1, I1, r1, q1⟩ => ?_)
  obtain ⟨d, rfl, q⟩ := q1
  cases r1
  exact wpAny_truthy_bool ⟨H1, I1, q⟩
theorem pt_cmpV {X : Cx} {W : WX} {a b : Expr} {op : CmpOp} {pos : Pos} {δ : DE} (h : PD X W (.Compare a [op] [b] pos) δ) : PTD X W (.Compare a [op] [b] pos) (dTest δ) := by
  obtain ⟨t, p, h⟩ := h
  exact ⟨_, pt_cmpE p, et_of h.eb⟩
end DL

end

/-! DLo -/
section
set_option autoImplicit false
/-! DLo: a def called with a lambda. The table of the maker's code objects is named, so that all other tables stand. -/
namespace DL
open PySem PySem.Spec PyProof.Rows L2 LamX
/-- the heap behind the making of a lambda whose name is q: H itself, or the table at P has three more entries and c' is a new code object -/
def LamTo (P : Addr) (q : Str) (H H1 : Hp) : Prop := H1 = H ∨ ∃ (ps more : Array Value) (c' : Addr), H P = some (.tbl ps) ∧ H c' = none ∧ H1 = upd (upd H P (.tbl (ps ++ more))) c' (CodeO c' q)
section
variable {X : Cx} {pins : List (Addr × Obj)} {σ : L2.St} {H : Hp} {s : Shared}
theorem noFrame (I : Inv X pins σ H s) {f : Addr} (hf : s.heap.objs.size ≤ f) : f ∉ frs X.stack := by
  intro z
  have z1 := List.mem_cons.mp (I.stkSub _ z)
  rcases z1 with z2 | z2
  · have z3 := I.lt
    rw [← z2] at z3
    exact absurd z3 (Nat.not_lt.mpr hf)
  · exact I.nofs hf z2
theorem lamMake {c P : Addr} {params : Arguments} {body : Expr} {scope : Scope} {pos : Pos} {E : Value → Shared → Prop} {Q : Value → Shared → Prop} (I : Inv X pins σ H s)
    (TB : LamX.TabB X.base X.mg c P) (hcode : X.env.code = .ref c) (hT : TabS H P (X.env.qual ++ "<lambda>")) (hdef : defaultsOf params X.env = ([], []))
    (hfree : ∀ y ∈ scope.names, y.2 = .free → ∃ c, X.env.cells.lookup y.1 = some c)
    (k : ∀ (f c' : Addr) (pm ctv : Value) (H1 : Hp) (s' : Shared), Inv X pins σ H1 s' → LamTo P (X.env.qual ++ "<lambda>") H H1 → TabS H1 P (X.env.qual ++ "<lambda>") →
      s'.heap.get? f = some (PySem.W.kla_obj "<lambda>" (X.env.qual ++ "<lambda>") params body scope (cloFrom X.env.cells scope.names []) pm c' ctv) →
      H1 f = none → f ∉ frs X.stack → H1 c' = some (CodeO c' (X.env.qual ++ "<lambda>")) → Q (.ref f) s') :
    wpAny (model X.prog X.w) X.A (eval (.Lambda params body scope pos) X.env) Q E s := by
  obtain ⟨ps, eP, t3, told⟩ := hT
  have gP : s.heap.get? P = some { cls := .none, data := .fields ps } := I.hok P _ eP
  refine PySem.W.kla_eval hdef ?_
  cases am : codeAmong pos ps.toList with
  | some cv =>
    obtain ⟨c', rfl, hco⟩ := told pos cv am
    refine PySem.W.kla_makeFunctionHit (mg := X.mg) (c := c) (P := P) (ps := ps) (closure_ok hfree) I.ok.glob (I.mod.glob.keeps I.bk) hcode
      (TB.code.keeps I.bk) gP t3 am (TB.bm.keeps I.bk) fun ctv h' tk up sz => ?_
    refine k _ c' ((X.mg "__name__").getD .none) ctv H _ (I.kept fun b o e => Heap.get?_push_of_some _ (up b o e)) (.inl rfl) ⟨ps, eP, t3, told⟩ ?_ (I.hok.fresh sz) (noFrame I sz) hco
    exact Heap.get?_push_size _ rfl
  | none =>
    refine PySem.W.kla_makeFunction (mg := X.mg) (c := c) (P := P) (ps := ps) (closure_ok hfree) I.ok.glob (I.mod.glob.keeps I.bk) hcode
      (TB.code.keeps I.bk) gP t3 am TB.gP (TB.bm.keeps I.bk) fun c' ctv h' tk up ge lt rc tb => ?_
    obtain ⟨c2, oc, vs, tt, e2, g1, g2, g3⟩ := rc
    cases e2
    have sz : s.heap.objs.size ≤ h'.objs.size := Nat.le_trans ge (Nat.le_of_lt lt)
    have fresh : H c' = none := I.hok.fresh ge
    have nPc : P ≠ c' := ne_of_none eP fresh
    have lst : (ps ++ #[rawInt pos.line, rawInt pos.col, Value.ref c']).toList = ps.toList ++ [rawInt pos.line, rawInt pos.col, .ref c'] := by simp
    have J := inv_table (q := X.env.qual ++ "<lambda>") (t' := tk) (more := #[rawInt pos.line, rawInt pos.col, .ref c'])
      (h' := h'.push (PySem.W.kla_obj "<lambda>" (X.env.qual ++ "<lambda>") params body scope (cloFrom X.env.cells scope.names []) ((X.mg "__name__").getD .none) c' ctv))
      I eP (fun b o nb e => Heap.get?_push_of_some _ (up b o nb e)) (Heap.get?_push_of_some _ tb) ge ⟨oc, vs, tt, Heap.get?_push_of_some _ g1, g2, g3⟩
    refine k _ c' ((X.mg "__name__").getD .none) ctv _ _ J (.inr ⟨ps, _, c', eP, fresh, rfl⟩) ?_ (Heap.get?_push_size _ rfl) ?_ (noFrame I sz) upd_same
    · refine ⟨_, by rw [upd_ne nPc, upd_same], by rw [lst]; exact PySem.TriplesOk_snoc _ _ _ _ t3, fun p' cv z => ?_⟩
      rw [lst] at z
      rcases among_app _ t3 z with z | z
      · obtain ⟨c0, q1, q2⟩ := told p' cv z
        refine ⟨c0, q1, ?_⟩
        rw [upd_ne (ne_of_none q2 fresh), upd_ne (fun w => by rw [w, eP] at q2; cases q2)]
        exact q2
      · exact ⟨c', z, upd_same⟩
    · have n1 : h'.objs.size ≠ c' := Nat.ne_of_gt lt
      have n2 : h'.objs.size ≠ P := Nat.ne_of_gt (Nat.lt_of_lt_of_le (Heap.lt_size gP) sz)
      rw [upd_ne n1, upd_ne n2]
      exact I.hok.fresh sz
def tLam1 (P : Addr) (q : Str) (TT : (XK → Hp → VK → Prop) → Hp → VK → Prop) (t : XK → TE) : TE := fun σ H Q => TabS H P q ∧ ∀ H1, LamTo P q H H1 → TabS H1 P q → TT (fun E H' Q' => t E σ H' Q') H1 Q
/-- x(lambda: body), x a def of one parameter -/
theorem pe_lam1 {TT : (XK → Hp → VK → Prop) → Hp → VK → Prop} {x a : Str} {g c P : Addr} {k : Nat} {pg : Arguments} {bg : List Stmt} {sg : Scope} {fd : FuncData} {Ng : List Str} {params : Arguments} {body : Expr} {scope : Scope} {t : XK → TE} {p lpos pos : Pos}
    (hg : Gl X x) (hm : X.mg x = some (.ref g)) (FD : FunD X.K x x pg bg sg [] [] g fd) (hb : L2.Binds X.K fd [a] []) (Sg : FnScope Ng [a] sg) (hNg : Ng[0]? = some a) (hva : Vis sg a)
    (hG : ∀ cdv, GivesTo X Ng x sg g cdv bg a (X.env.qual ++ "<lambda>") TT) (TB : LamX.TabB X.base X.mg c P) (hcode : X.env.code = .ref c) (hr : Room (k + 2) X.A) (L : LamS X.env.scope scope) (hdef : defaultsOf params X.env = ([], []))
    (hbind : ∀ (q : Str) (cl : List (Str × Addr)) (pm cv ctv : Value), bindArgs (PySem.W.kla_fn "<lambda>" q params body scope cl pm cv ctv) ⟨[], []⟩ = pure [])
    (hbody : ∀ (A : Around) (outer : List PySem.Env) (s : Shared) (H : Hp) (E : XK) (f c' : Addr), Room k (A.deeper (lamEnv X scope s.heap.objs.size f c')) → PE (lamCx X A outer s H E scope f c') body (t E))
    (hdb : (x == ("__debug__" : Str)) = false) (hd : (a == ("__debug__" : Str)) = false) (hcd : (a == ("__classdict__" : Str)) = false) :
    PE X (.Call (.Name x p) [.Lambda params body scope lpos] [] pos) (tLam1 P (X.env.qual ++ "<lambda>") TT t) := by
  obtain ⟨oc, od, dV, kV, doc, pm0, an, cdv, ct, osl, rfl, lk, hcg, _, _⟩ := FD.ex
  constructor
  intro pins s σ H Q I ⟨tab, go⟩
  refine wpAny_Call_Name_kw (ld_glob I hg hm ?_ hdb)
  refine PySem.W.callWith_K (h₀ := X.base) I.ok.mod.kin FD.kp ?_ (by rfl) (by rfl)
  change wpAny _ _ (spliced ((false, eval (.Lambda params body scope lpos) X.env) :: backTo pos (starEach [] X.env))) _ _ s
  refine Calls.spliced_cons (lamMake I TB hcode tab hdef (L.has I.ok) ?_)
  intro f c' pm ctv H1 s' I1 to tab1 of nf ff co
  refine Calls.spliced_nil ⟨I1.kIn, ?_⟩
  have run : codeAny (model X.prog X.w) X.A (.call (.ref g) ⟨[.ref f], []⟩) (CR C8.CX0 X.stack X.prog X.w H1 s' Q C8.E0) s' := by
    refine run_ofS (N := Ng) (ps := [a]) (us := [.ref f]) (vs := [.ref f]) lk hcg Sg hr I1.env0 (hb s' [.ref f] I1.kIn rfl) (.cons rfl .nil) rfl ?_
    intro hr1
    have act := fun (W : WX) (pn : List (Addr × Obj)) (xe : Value → Shared → Prop) (E : XK) (p1 p2 : Pos) (tk : Takes ((cxOf C8.CX0 X.prog X.w X.K X.mg X.base Ng x sg g cdv X.A X.stack s' H1 C8.E0).tr pn xe) W) (hW : ∀ cls d σ' H', E cls d H' → W cls d σ' H') =>
      pe_act (CXg := C8.CX0) (p1 := p1) (p2 := p2) (i := 0) (pn := pn) (xe := xe) I1 L of nf ff (hbind _ _ _ _ _) tk hW hr1 (fun A outer s2 H2 r2 => hbody A outer s2 H2 E f c' r2) hNg hva hd hcd
    obtain ⟨t1, q1, q2⟩ := hG cdv f c' s' H1 Q (fun E H' Q' => t E σ H' Q') act co (go H1 to tab1)
    exact ⟨t1, q1.nox, q2⟩
  refine wpAny_call (codeAny_mono run fun r s2 hq => ?_)
  match r, hq with
  | .error e, hq => exact (show False from hq).elim
  | .ok (.ret u), hq => exact I1.after hq
  | .ok .next, hq => exact hq.elim
  | .ok .brk, hq => exact hq.elim
  | .ok .cont, hq => exact hq.elim
end
/-! ### defs that call what they got, and tell by a constant how it ended -/
/-- what is told of an exception of the class cls -/
def CatchV (K : PySem.W.Frag) (cls : Value) : List (Str × V) → (V → Prop) → Prop
  | [], _ => False
  | (c, v) :: l, k => ∃ b, PySem.W.exmOne K cls (.ref (ca K c)) = some b ∧ (b = true → k v) ∧ (b = false → CatchV K cls l k)
inductive HdsC : List ExceptHandler → List (Str × V) → Prop
  | nil : HdsC [] []
  | cons {c : Str} {e : Expr} {v : V} {np p6 p7 : Pos} {hds : List ExceptHandler} {l : List (Str × V)} (he : ∀ Y : Cx, PE Y e (tC v)) (r : HdsC hds l) : HdsC (.ExceptHandler (some (.Name c np)) none [.Return (some e) p6] p7 :: hds) ((c, v) :: l)
theorem HdsC.ok {X : Cx} {hds : List ExceptHandler} {l : List (Str × V)} (h : HdsC hds l) (hn : ∀ q ∈ l, Names X q.1 (.ref (ca X.K q.1))) : HdsOk X hds (l.map fun q => (.ref (ca X.K q.1), fun _ _ _ => tRet (tC q.2))) := by
  induction h with
  | nil => exact .nil
  | cons he r ih => exact .cons (hn _ (List.mem_cons_self ..)) (fun a oe cls d pn _ _ => pss_one (ps_ret (he _))) (ih fun q hq => hn q (List.mem_cons_of_mem _ hq))
theorem wMany_of {K : PySem.W.Frag} {Wout : WX} {D : Ends} {cls : Value} {d : Option Addr} {σ : L2.St} {H : Hp} : ∀ {l : List (Str × V)}, CatchV K cls l (fun v => D.rt v H) → wMany K Wout D (l.map fun q => (.ref (ca K q.1), fun _ _ _ => tRet (tC q.2))) cls d σ H
  | [], h => h.elim
  | (c, v) :: l, ⟨b, e, h1, h2⟩ => ⟨b, e, fun hb _ _ => h1 hb, fun hb => wMany_of (h2 hb)⟩
def TTA (K : PySem.W.Frag) (l : List (Str × V)) (v0 : V) : (XK → Hp → VK → Prop) → Hp → VK → Prop := fun tl H Q => tl (fun cls _ H' => CatchV K cls l fun v => Q v H') H fun _ H' => Q v0 H'
theorem gives_const {X : Cx} {Ng : List Str} {x a q : Str} {sg : Scope} {g : Addr} {cdg : Value} {h₀ : ExceptHandler} {hds : List ExceptHandler} {l : List (Str × V)} {e0 : Expr} {v0 : V} {p1 p2 p3 p8 p9 : Pos} (hc : HdsC (h₀ :: hds) l)
    (hn : ∀ r ∈ l, sg.names.lookup r.1 = some .globalImplicit ∧ X.mg r.1 = some (.ref (ca X.K r.1)) ∧ (r.1 == ("__debug__" : Str)) = false) (he : ∀ Y : Cx, PE Y e0 (tC v0)) (h0 : ∀ f : Addr, (L2.start Ng [V.ref f])[0]? = some (some (V.ref f))) :
    GivesTo X Ng x sg g cdg [.Try [.Expr (.Call (.Name a p1) [] [] p2) p3] (h₀ :: hds) [] [] p8, .Return (some e0) p9] a q (TTA X.K l v0) := by
  intro f c' s H Q tl act co h
  have nm : ∀ r ∈ l, Names (cxOf C8.CX0 X.prog X.w X.K X.mg X.base Ng x sg g cdg X.A X.stack s H C8.E0).nox r.1 (.ref (ca X.K r.1)) := fun r hr => ⟨(hn r hr).1, (hn r hr).2.2, .inl (hn r hr).2.1⟩
  refine ⟨_, pss_cons (ps_try_many (X := (cxOf C8.CX0 X.prog X.w X.K X.mg X.base Ng x sg g cdg X.A X.stack s H C8.E0).nox) (Wout := fun _ _ _ _ => False)
      (tb := fun W D σ H => ∃ Z : XK, (∀ cls d σ' H', Z cls d H' → W cls d σ' H') ∧ σ[0]? = some (some (.ref f)) ∧ H c' = some (CodeO c' q) ∧ tl Z H fun _ H' => D.nx σ H')
      rfl rfl LamX.takes0 (fun W pn xe tk _ => ?_) (hc.ok nm)) (pss_one (ps_ret (he _))), ?_⟩
  · constructor
    intro pins s' σ H' D I ⟨Z, hW, h1, h2, h3⟩
    exact (pss_one (ps_expr (pos := p3) (act W pn xe Z p1 p2 tk hW))).run pins s' σ H' D I ⟨h1, h2, h3⟩
  · exact ⟨_, fun cls d σ' H' z => wMany_of z, h0 f, co, h⟩
/-! ### the heap-free reading -/
/-- the weakest reading of an expression that has the heap-free reading δ -/
def eOf (K : PySem.W.Frag) (W : WX) (δ : DE) : TE := fun σ H Q => ∃ (B : Bs) (ρ : Env) (n : Nat) (G : Hp) (α : Nat → Addr) (x : DX) (q : DQ), B.K = K ∧ RelB B σ H ρ n G α ∧ XL B W σ H G x ∧ δ x ρ n q ∧
  ∀ v H' G' d n', Step B.W H G H' G' → B.W.J n' H' → Rep K G' d v → q d n' → Q v H'
theorem PD.eOf {X : Cx} {W : WX} {e : Expr} {δ : DE} (h : PD X W e δ) : PE X e (eOf X.K W δ) := by
  obtain ⟨t, p, h⟩ := h
  refine ⟨fun pins s σ H Q I hw => ?_⟩
  obtain ⟨B, ρ, n, G, α, x, q, hK, R, hx, hd, k⟩ := hw
  exact p.run pins s σ H Q I (h B σ H ρ n G α Q x q hK R hx hd k)
/-- the world holds the table at P, in which the lambdas of the name q are told -/
structure LamW (W : Wd) (P : Addr) (q : Str) : Prop where
  rg : W.rg P
  tab : ∀ n H, W.J n H → TabS H P q
  st : ∀ n H H1, W.J n H → LamTo P q H H1 → TabS H1 P q → W.J n H1
theorem LamW.step {W : Wd} {P : Addr} {q : Str} {H G H1 : Hp} (l : LamW W P q) (rg : ∀ a, W.rg a → G a = none) (le : Le G H) (t : LamTo P q H H1) : Step W H G H1 G := by
  rcases t with rfl | ⟨ps, more, c', e, nc, rfl⟩
  · exact .refl _ le
  have st : ∀ a o, H a = some o → a ≠ P → upd (upd H P (.tbl (ps ++ more))) c' (CodeO c' q) a = some o := fun a o h n => by
    rw [upd_ne (ne_of_none h nc), upd_ne n]; exact h
  refine ⟨fun a o h r => st a o h fun z => r (z ▸ l.rg), Le.refl G, fun a o h => ?_, fun a h => .inl h⟩
  obtain ⟨o', h', z⟩ := le a o h
  exact ⟨o', st a o' h' (fun w => by rw [w, rg P l.rg] at h; cases h), z⟩
def vOf : D → V
  | .bl b => .bl b
  | .int i => .int i
  | .str x => .str x
  | _ => .non
theorem rep_flat {K : PySem.W.Frag} {G : Hp} {d : D} (h : flatD d = true) : Rep K G d (vOf d) := by
  cases d with
  | non => exact .non
  | bl b => exact .bl b
  | int i => exact .int i
  | str x => exact .str x
  | _ => cases h
def catchD (sub : Str → Str → Bool) (c : Str) : List (Str × D) → (D → Prop) → Prop
  | [], _ => False
  | (c', d) :: l, k => if sub c c' = true then k d else catchD sub c l k
/-- f(lambda: e), f tells by constants how it ended -/
def dLam (LW : Wd → Prop) (XS : List Str) (sub : Str → Str → Bool) (hs : List (Str × D)) (d0 : D) (δ : DE) : DE := fun x ρ n q => LW x.w ∧ δ { x with ex := fun e n' => e.1 ∈ XS ∧ catchD sub e.1 hs fun d => q d n' } ρ n fun _ n' => q d0 n'
theorem catch_of {K : PySem.W.Frag} {XS : List Str} {sub : Str → Str → Bool} (hx : ∀ c ∈ XS, ∀ c' ∈ XS, PySem.W.exmOne K (.ref (ca K c)) (.ref (ca K c')) = some (sub c c')) {c : Str} (hc : c ∈ XS) {kd : D → Prop} {kv : V → Prop} (hk : ∀ d, flatD d = true → kd d → kv (vOf d)) :
    ∀ {hs : List (Str × D)}, (∀ q ∈ hs, q.1 ∈ XS ∧ flatD q.2 = true) → catchD sub c hs kd → CatchV K (.ref (ca K c)) (hs.map fun q => (q.1, vOf q.2)) kv
  | [], _, h => h.elim
  | (c', d) :: l, hm, h => by
    have m := hm _ (List.mem_cons_self ..)
    refine ⟨sub c c', hx c hc c' m.1, fun hb => ?_, fun hb => ?_⟩
    · rw [catchD, if_pos hb] at h
      exact hk d m.2 h
    · rw [catchD, if_neg (by rw [hb]; exact Bool.false_ne_true)] at h
      exact catch_of hx hc hk (fun q hq => hm q (List.mem_cons_of_mem _ hq)) h
section
variable {X : Cx} {W : WX}
theorem pd_lam {XS : List Str} {sub : Str → Str → Bool} {hs : List (Str × D)} {d0 : D} {δ : DE} {x a : Str} {g c P : Addr} {k : Nat} {pg : Arguments} {bg : List Stmt} {sg : Scope} {fd : FuncData} {Ng : List Str} {params : Arguments} {body : Expr} {scope : Scope} {p lpos pos : Pos}
    (hx : ∀ c ∈ XS, ∀ c' ∈ XS, PySem.W.exmOne X.K (.ref (ca X.K c)) (.ref (ca X.K c')) = some (sub c c')) (hhs : ∀ q ∈ hs, q.1 ∈ XS ∧ flatD q.2 = true) (hd0 : flatD d0 = true)
    (hg : Gl X x) (hm : X.mg x = some (.ref g)) (FD : FunD X.K x x pg bg sg [] [] g fd) (hb : L2.Binds X.K fd [a] []) (Sg : FnScope Ng [a] sg) (hNg : Ng[0]? = some a) (hva : Vis sg a)
    (hG : ∀ cdv, GivesTo X Ng x sg g cdv bg a (X.env.qual ++ "<lambda>") (TTA X.K (hs.map fun q => (q.1, vOf q.2)) (vOf d0))) (TB : LamX.TabB X.base X.mg c P) (hcode : X.env.code = .ref c) (hr : Room (k + 2) X.A) (L : LamS X.env.scope scope) (hdef : defaultsOf params X.env = ([], []))
    (hbind : ∀ (q : Str) (cl : List (Str × Addr)) (pm cv ctv : Value), bindArgs (PySem.W.kla_fn "<lambda>" q params body scope cl pm cv ctv) ⟨[], []⟩ = pure [])
    (hbody : ∀ (A : Around) (outer : List PySem.Env) (s : Shared) (H : Hp) (E : XK) (f c' : Addr), Room k (A.deeper (lamEnv X scope s.heap.objs.size f c')) → PD (lamCx X A outer s H E scope f c') (fun cc d _ H => E cc d H) body δ)
    (hdb : (x == ("__debug__" : Str)) = false := by decide) (hd : (a == ("__debug__" : Str)) = false := by decide) (hcd : (a == ("__classdict__" : Str)) = false := by decide) :
    PD X W (.Call (.Name x p) [.Lambda params body scope lpos] [] pos) (dLam (fun W => LamW W P (X.env.qual ++ "<lambda>")) XS sub hs d0 δ) := by
  refine ⟨_, pe_lam1 (t := fun E => eOf X.K (fun cc d _ H => E cc d H) δ) hg hm FD hb Sg hNg hva hG TB hcode hr L hdef hbind (fun A outer s H E f c' r => (hbody A outer s H E f c' r).eOf) hdb hd hcd, ?_⟩
  intro B σ H ρ n G α Q x q hK R hxl hd kk
  obtain ⟨lw, hd⟩ := hd
  rw [hxl.1] at lw
  refine ⟨lw.tab _ _ R.J, fun H1 to t1 => ?_⟩
  have j1 := lw.st _ _ _ R.J to t1
  have s1 : Step B.W H G H1 G := lw.step R.rg R.le to
  refine ⟨B, ρ, n, G, α, { x with ex := fun e n' => e.1 ∈ XS ∧ catchD sub e.1 hs fun d => q d n' }, _, hK, R.step s1 j1, ⟨hxl.1, fun cc dd H' G' e n' st j r z => ?_⟩, hd, fun v H' G' d n' st j r z => kk _ H' G' d0 n' (s1.trans st) j (rep_flat hd0) z⟩
  obtain ⟨rfl, _⟩ := r
  rw [hK]
  exact catch_of hx z.1 (fun d fl hq => kk _ H' G' d n' (s1.trans st) j (rep_flat fl) hq) hhs z.2
theorem takes_lam {A : Around} {outer : List PySem.Env} {s : Shared} {H : Hp} {E : XK} {scope : Scope} {f c' : Addr} : Takes (lamCx X A outer s H E scope f c') (fun cc d _ H => E cc d H) := takes_of rfl rfl rfl rfl
end
/-! ### a def whose own code object is named -/
theorem okC {P : Program} {w : World} {K : PySem.W.Frag} {mg : Str → Option Value} {base : Heap} {x qual : Str} {params : Arguments} {body : List Stmt} {scope : Scope} {dvs : List V} {kws : List (Str × V)} {p : Str × Option Str} {fd : FuncData} {CX : CXT} {N ps : List Str} {k : Nat} {sp : Sp}
    (F : FunD K x qual params body scope dvs kws (He.fAd K p) fd) (S : FnScope N ps scope) (len : ∀ vs H Q E, sp vs H Q E → vs.length = ps.length)
    (hb : ∀ (cdv : Value) (A : Around) (outer : List PySem.Env) (s : Shared) (H : Hp) (vs : List V) (Q : VK) (E : XK), cdv = .ref (He.cT K p).1 → Room k (A.deeper (envOfC qual scope s.heap.objs.size (He.fAd K p) cdv)) → sp vs H Q E →
      ∃ t, PSs (cxOf CX P w K mg base N qual scope (He.fAd K p) cdv A outer s H E) body t ∧ t { nx := fun _ H' => Q .non H', rt := Q } (L2.start N vs) H) : FnOk P w K mg base CX (k + 1) (He.fAd K p) fd ps sp := by
  obtain ⟨oc, od, dV, kV, doc, pm, an, cdv, ct, osl, rfl, lk, hcd, _, _⟩ := F.ex
  obtain ⟨c, rfl⟩ := He.codeIn_ref hcd
  have e : (He.cT K p).1 = c := He.codeOf_eq lk rfl
  exact fn_of lk hcd S len fun A outer s H vs Q E hr hsp => hb (.ref c) A outer s H vs Q E (by rw [e]) hr hsp
/-- the world holds the table of the def x -/
abbrev LW (K : PySem.W.Frag) (x : Str) (W : Wd) : Prop := LamW W (He.cT K (x, none)).2 (x ++ ".<locals>.<lambda>")
/-! ### a hook that tells the statics too, and leaves the empty tables of the defs tf out -/
def asL (g : Addr → Option Obj) (n : Nat) : List Addr := cStatics :: He.asD g n
abbrev AlL : Type := He.AlD × Bool
def frL (g : Addr → Option Obj) (n : Nat) : PySem.W.Frag := He.frT g (asL g n)
def obsL (n : Nat) (fa : List He.Fa) (fn : List He.DefD) (tf : List He.Defn) (ex : PySem.W.Frag → Bool) (g : Addr → Option Obj) : AlL := (He.obsD fa fn (frL g n), ex (frL g n) && He.tabsB g tf (frL g n))
structure SaysL (fa : List He.Fa) (fn : List He.DefD) (tf : List He.Defn) (ex : PySem.W.Frag → Bool) (h : Heap) (K : PySem.W.Frag) : Prop where
  d : He.SaysD fa fn K
  more : ex K = true
  tabs : ∀ p ∈ tf, PySem.W.codeHdIn K (He.cT K p).1 (He.cT K p).2 = true ∧ K.lookup (He.cT K p).2 = none ∧ h.get? (He.cT K p).2 = some { cls := .none, data := .fields #[] }
theorem saysL_of {n : Nat} {fa : List He.Fa} {fn : List He.DefD} {tf : List He.Defn} {ex : PySem.W.Frag → Bool} {h : Heap} (e : obsL n fa fn tf ex h.get? = (He.valD fn, true)) : SaysL fa fn tf ex h (frL h.get? n) := by
  obtain ⟨m, t⟩ := He.ba (congrArg Prod.snd e)
  refine ⟨congrArg Prod.fst e, m, fun p hp => ?_⟩
  obtain ⟨t1, t2⟩ := He.ba (List.all_eq_true.mp t p hp)
  cases q : h.get? (He.cT (frL h.get? n) p).2 with
  | none => rw [q] at t2; cases t2
  | some o =>
    rw [q] at t2
    exact ⟨t1, He.frT_none q t2, by rw [He.emptyTab_eq t2]⟩
def hookL (n : Nat) (fa : List He.Fa) (fn : List He.DefD) (tf : List He.Defn) (ex : PySem.W.Frag → Bool) : PySem.W.Hook where
  α := AlL
  obs := fun s => obsL n fa fn tf ex s.heap.get?
  val := fun _ => (He.valD fn, true)
  says := fun _ h => ∃ K : PySem.W.Frag, K.In h ∧ SaysL fa fn tf ex h K
  of := fun _ _ e => ⟨_, He.frT_in, saysL_of e⟩
  keeps := fun _ _ _ ⟨K, hK, c⟩ k => ⟨K, PySem.W.Frag.In.keeps hK k, c.d, c.more, fun p hp => ⟨(c.tabs p hp).1, (c.tabs p hp).2.1, k _ _ (c.tabs p hp).2.2⟩⟩
theorem obsL_eq {n : Nat} {fa : List He.Fa} {fn : List He.DefD} {tf : List He.Defn} {ex : PySem.W.Frag → Bool} {g : Addr → Option Obj} {s : Shared} (h : ∀ a, g a = s.heap.get? a) : obsL n fa fn tf ex g = (hookL n fa fn tf ex).obs s := by
  obtain rfl : g = s.heap.get? := funext h
  rfl
end DL

end

/-! DLp -/
section
set_option autoImplicit false
/-! DLp: xs.pop(), xs.pop(0) of an owned list, as statements. -/
namespace DL
open PySem PySem.Spec L2
theorem RepL.dropLast {K : PySem.W.Frag} {G : Hp} {ds : List D} {vs : List V} (r : RepL K G ds vs) : RepL K G ds.dropLast vs.dropLast := by
  rw [List.dropLast_eq_take, List.dropLast_eq_take, ← r.length]
  exact r.take _
def dPop (i : Nat) : DS := fun E ρ n => match ρ[i]? with
  | some (some (.own (.lst ds))) => ds ≠ [] ∧ E.nx (ρ.set i (some (.own (.lst ds.dropLast)))) n
  | _ => False
def dPop0 (i : Nat) : DS := fun E ρ n => match ρ[i]? with
  | some (some (.own (.lst ds))) => ds ≠ [] ∧ E.nx (ρ.set i (some (.own (.lst ds.tail)))) n
  | _ => False
section
variable {X : Cx} {W : WX} {pos pos' apos cpos p0 : Pos} {x : Str} {j : Nat}
theorem ps_popD (i : Nat) (hN : X.N[i]? = some x := by rfl) (hv : Vis X.env.scope x := by first | exact Or.inl rfl | exact Or.inr (Or.inl rfl) | exact Or.inr (Or.inr rfl)) (hd : (x == ("__debug__" : Str)) = false := by decide)
    (hcd : (x == ("__classdict__" : Str)) = false := by decide)
    (hbase : attributeBase (.Name x pos') "pop" X.env (eval (.Name x pos') X.env) = eval (.Name x pos') X.env := by rfl) (hline : (apos.endLine == cpos.line) = true := by rfl)
    (hsw : swapsWith (.Call (.Attribute (.Name x pos') "pop" apos) [] [] cpos) none pos.line X.env = pure false := by rfl) : PSD X W (.Expr (.Call (.Attribute (.Name x pos') "pop" apos) [] [] cpos) pos) (dPop i) := by
  refine ⟨_, ps_expr (pe_bm0 PySem.F.plainAttrs_list PySem.F.slot_list_pop PySem.F.type_list_pop mt_pop (pe_var hN hv hd hcd) hbase hline) hsw, fun B σ H ρ n G α D E hK R L hd => ?_⟩
  unfold dPop at hd
  split at hd
  · rename_i ds eo
    obtain ⟨ne, hd⟩ := hd
    obtain ⟨e1, hg, h0, nr, vs, hH, rl⟩ := R.own i _ eo
    refine ⟨_, e1, .inl ⟨rfl, _, SqL.of hH⟩, ?_⟩
    have hl := rl.length
    have pl : 0 < vs.length := by rw [← hl]; exact List.length_pos_iff.mpr ne
    refine ⟨α i, vs, _, rfl, rfl, hH, List.getElem?_eq_getElem (i := vs.length - 1) (by omega), ?_⟩
    exact L.nx σ _ _ n G α (R.write (d' := .lst ds.dropLast) (o := .lst vs.dropLast) eo ⟨_, upd_same, rl.dropLast⟩) hd
  · exact hd.elim
theorem ps_pop0D (i : Nat) (hN : X.N[i]? = some x := by rfl) (hv : Vis X.env.scope x := by first | exact Or.inl rfl | exact Or.inr (Or.inl rfl) | exact Or.inr (Or.inr rfl)) (hd : (x == ("__debug__" : Str)) = false := by decide)
    (hcd : (x == ("__classdict__" : Str)) = false := by decide)
    (hst : starEach [.Constant (.int 0) j p0] X.env = [(false, eval (.Constant (.int 0) j p0) X.env)] := by rfl)
    (hbase : attributeBase (.Name x pos') "pop" X.env (eval (.Name x pos') X.env) = eval (.Name x pos') X.env := by rfl)
    (hfew : ((backTo cpos (starEach [.Constant (.int 0) j p0] X.env)).all (fun x => !x.1) && (backToKw cpos (keywordEach [] X.env)).all (fun x => x.1.isSome)
      && decide ([Expr.Constant (.int 0) j p0].length + ([] : List Keyword).length + (if ([] : List Keyword).isEmpty then 0 else 1) < 30)) = true := by rfl)
    (hline : (apos.endLine == cpos.line) = true := by rfl) (hplain : (backTo cpos (starEach [] X.env)).any (·.1) = false := by rfl)
    (hsw : swapsWith (.Call (.Attribute (.Name x pos') "pop" apos) [.Constant (.int 0) j p0] [] cpos) none pos.line X.env = pure false := by rfl) : PSD X W (.Expr (.Call (.Attribute (.Name x pos') "pop" apos) [.Constant (.int 0) j p0] [] cpos) pos) (dPop0 i) := by
  refine ⟨_, ps_expr (pe_bm PySem.F.plainAttrs_list PySem.F.slot_list_pop PySem.F.type_list_pop mt_popAt (pe_var hN hv hd hcd) (pa_cons pe_int pa_nil hst) hbase hfew hline hst hplain) hsw, fun B σ H ρ n G α D E hK R L hd => ?_⟩
  unfold dPop0 at hd
  split at hd
  · rename_i ds eo
    obtain ⟨ne, hd⟩ := hd
    obtain ⟨e1, hg, h0, nr, vs, hH, rl⟩ := R.own i _ eo
    refine ⟨_, e1, .inl ⟨rfl, _, SqL.of hH⟩, ?_⟩
    have hl := rl.length
    have pl : 0 < vs.length := by rw [← hl]; exact List.length_pos_iff.mpr ne
    refine ⟨α i, vs, 0, 0, _, rfl, rfl, hH, by decide, by decide, (ixN_seq (j := 0) (by unfold ixN; rw [if_pos (by decide), if_pos (by omega)]; rfl)).1, List.getElem?_eq_getElem (i := 0) pl, ?_⟩
    have et : ∀ {A : Type} (l : List A), l.eraseIdx 0 = l.tail := fun l => by cases l <;> rfl
    have rt : RepL B.K G ds.tail (vs.eraseIdx 0) := by rw [← et ds]; exact rl.eraseIdx 0
    exact L.nx σ _ _ n G α (R.write (d' := .lst ds.tail) (o := .lst (vs.eraseIdx 0)) eo ⟨_, upd_same, rt⟩) hd
  · exact hd.elim
/-- list(x) as a new object -/
theorem pf_list {e : Expr} {α' : DA} {p : Pos} (hg : Gl X "list") (hm : X.mg "list" = none) (ha : PAB X W [e] α') (hst : starEach [e] X.env = (false, eval e X.env) :: starEach [] X.env := by rfl) (hpl : (backTo pos (starEach [] X.env)).any (·.1) = false := by rfl) :
    PF X W (.Call (.Name "list" p) [e] [] pos) (dCB fList α') := by
  obtain ⟨t, pa, ea⟩ := ha
  refine ⟨_, pe_callTy call_list_of hg hm (by decide +kernel) pa (by decide) (by decide) hst hpl, fun B σ H ρ n G α Q x q hK R hx hd k => ?_⟩
  refine ea B σ H ρ n G α _ x _ hK R hx hd fun vs H1 G1 ds n1 s1 j1 r hf => ?_
  unfold fList f1 at hf
  split at hf
  · rename_i d
    obtain ⟨v, rfl, r0⟩ := r.one
    split at hf
    · rename_i es e
      obtain ⟨a, us, e1, hs, r1⟩ := r0.seq s1.hh e
      subst e1
      refine ⟨a, us, rfl, hs, fun l np => ?_⟩
      have s := StepP.laid (o := .lst us) s1.hh np
      have nr : ¬ B.W.rg l := fun r => B.W.there n1 H1 l j1 r np
      have h0 : H l = none := by
        cases e : H l with
        | none => rfl
        | some o => rw [s1.fr l o e nr] at np; cases np
      have g0 : G1 l = none := by
        cases e : G1 l with
        | none => rfl
        | some o =>
          obtain ⟨o', e', _⟩ := s1.hh l o e
          rw [np] at e'; cases e'
      exact k l _ _ (.lst es) n1 (s1.trans (s.step j1)) (s.J j1) h0 g0 nr ⟨us, upd_same, r1⟩ hf
    · exact hf.elim
  · exact hf.elim
end
end DL

end

/-! DLq -/
section
set_option autoImplicit false
/-! DLq: classmethods, instances made by a class in a slot, defs that hold lambdas, a hook for all of these. -/
namespace DL
open PySem PySem.Spec L2

/-! ### a def whose own code object is named -/
theorem ok_defC {P : Program} {w : World} {K : PySem.W.Frag} {mg : Str → Option Value} {base : Heap} {x qual : Str} {params : Arguments} {body : List Stmt} {scope : Scope} {dvs : List V} {kws : List (Str × V)} {p : Str × Option Str} {fd : FuncData} {N ps : List Str} {k m : Nat} {F : DF}
    (FD : FunD K x qual params body scope dvs kws (He.fAd K p) fd) (S : FnScope N ps scope) (hm : ps.length = m)
    (hb : ∀ (X : Cx) (E : XK) (W : Wd) (ds : List D) (n : Nat) (q : DQ) (xx : Xn → Nat → Prop), (∃ cdv A outer s H, X = cxOf (L2.CX P w) P w K mg base N qual scope (He.fAd K p) cdv A outer s H E ∧ cdv = .ref (He.cT K p).1) → Room k X.A → Takes X (fun c d _ H => E c d H) → PassesOwn (model X.prog X.w) X.A X.env X.xe → ds.length = m → F W ds n q xx →
      ∃ δ, PSsD X (fun c d _ H => E c d H) body δ ∧ δ (endsD W q xx) (startD N ds) n) : FnOk P w K mg base (L2.CX P w) (k + 1) (He.fAd K p) fd ps (spW K m F) := by
  refine okC FD S (fun vs H Q E h => ?_) (fun cdv A outer s H vs Q E hcdv hr h => ?_)
  · obtain ⟨W, n, G, ds, q, x, _, _, _, r, hl, _⟩ := h
    rw [← r.length, hl, hm]
  · obtain ⟨W, n, G, ds, q, xx, le, rg, j, r, hl, hF, kq, kx⟩ := h
    obtain ⟨δ, ⟨t, pr, e⟩, hδ⟩ := hb (cxOf (L2.CX P w) P w K mg base N qual scope (He.fAd K p) cdv A outer s H E) E W ds n q xx ⟨cdv, A, outer, s, H, rfl, hcdv⟩ hr (takes_of rfl rfl rfl rfl) (passes_of rfl) hl hF
    refine ⟨t, pr, ?_⟩
    refine e ⟨W, K, H, G, none⟩ (L2.start N vs) H (startD N ds) n G _ _ _ rfl (RelB.start le rg j r) ?_ hδ
    exact ⟨fun σ H' ρ n' G' α R hq => kq _ H' G' .non n' R.st R.J .non hq, fun v H' d n' G' s j r hq => kq v H' G' d n' s j r hq, fun _ _ _ _ _ _ _ h => h.elim, fun _ _ _ _ _ _ _ h => h.elim, fun c dd σ H' ρ n' G' α e R r hq => kx c dd H' G' e n' R.st R.J r hq, rfl, fun _ _ _ _ _ _ _ _ _ _ _ h => h.elim⟩

/-! ### classmethods -/
section
variable {X : Cx} {CX : CXT} {k : Nat} {C p g : Addr} {mc : Value} {sp : Sp} {fd : FuncData} {ps : List Str} {dvs : List V} {ds : List Value} {E : St → XK} {o e : Expr} {es : List Expr} {m : Str} {pos apos : Pos} {ta : TE} {t : TA} {pl : Sem Bool}
theorem run_fnSDc {pins : List (Addr × Obj)} {σ : St} {H : Hp} {s : Shared} {Q : VK} {us : List Value} {vs : List V} (F : FnOk X.prog X.w X.K X.mg X.base CX k g fd ps sp) (hr : Room k X.A) (hb : Binds X.K fd ps ds) (hd : Vals dvs ds) (hx : PassesAt CX X σ (E σ))
    (I : Inv X pins σ H s) (r : Vals vs us) (h : sp (vs ++ dvs) H Q (E σ)) : codeAny (model X.prog X.w) X.A (Code.call (.ref g) ⟨us, []⟩) (fun r s' => match r with
      | .ok (.ret v) => EP X pins σ Q v s'
      | .ok _ => False
      | .error e => X.xe e s') s := by
  have r2 : Vals (vs ++ dvs) (us ++ ds) := r.append hd
  have hl : (us ++ ds).length = ps.length := by rw [← r2.length]; exact F.len _ _ _ _ h
  refine codeAny_mono (F.run X.A X.stack s H ⟨us, []⟩ (us ++ ds) (vs ++ dvs) Q (E σ) hr I.env0 (hb s us I.kIn hl) r2 h) fun r s' hq => ?_
  cases r with
  | error e => exact hx pins H s e s' I hq
  | ok fl =>
    cases fl with
    | ret u => exact I.after hq
    | next => exact False.elim hq
    | brk => exact False.elim hq
    | cont => exact False.elim hq
theorem run_cmSD {pins : List (Addr × Obj)} {σ : St} {H : Hp} {s : Shared} {q : Addr} {Q : VK} {us : List Value} {vs : List V} (F : FnOk X.prog X.w X.K X.mg X.base CX k g fd ps sp) (hr : Room k X.A) (hb : Binds X.K fd ps ds) (hd : Vals dvs ds) (hx : PassesAt CX X σ (E σ))
    (I : Inv X ((q, PySem.W.methodObj (.ref g) (.ref C)) :: pins) σ H s) (r : Vals vs us) (h : sp (.ref C :: (vs ++ dvs)) H Q (E σ)) : wpAny (model X.prog X.w) X.A (call (.ref q) us) (EP X pins σ Q) X.xe s := by
  have z : wpAny (model X.prog X.w) X.A (call (.ref q) us) (EP X ((q, PySem.W.methodObj (.ref g) (.ref C)) :: pins) σ Q) X.xe s :=
    wpAny_call (PySem.W.method_call (ClX.pin_at I) (run_fnSDc (us := .ref C :: us) (vs := .ref C :: vs) F hr hb hd hx I (.cons rfl r) h))
  exact thn z fun _ _ y => ClX.unpinE y
def tCMethSD (C : Addr) (sp : Sp) (dvs : List V) (E : St → XK) (ta : TE) (t : TA) : TE := fun σ H Q => ta σ H fun x H1 => x = .ref C ∧ t σ H1 fun vs H2 => sp (.ref C :: (vs ++ dvs)) H2 Q (E σ)
theorem pe_cmethSD (he : PE X o ta) (r : ClX.CRead X.K C mc) (c : ClX.CMet X.K C mc m p g) (F : FnOk X.prog X.w X.K X.mg X.base CX k g fd ps sp) (hr : Room k X.A) (hb : Binds X.K fd ps ds) (hd : Vals dvs ds) (hx : ∀ σ, PassesAt CX X σ (E σ)) (ha : PA X (e :: es) t)
    (hst : starEach (e :: es) X.env = (false, eval e X.env) :: starEach es X.env := by rfl) (hpl : (backTo pos (starEach es X.env)).any (·.1) = false := by rfl)
    (ht : eval (.Call (.Attribute o m apos) (e :: es) [] pos) X.env = (do
      let ov ← eval o X.env
      standAt apos.atName
      let (f, first) ← holding [ov] (getMethod ov m pl)
      callWith pos f first (backTo pos (starEach (e :: es) X.env)) (backToKw pos (keywordEach [] X.env))) := by rfl) :
    PE X (.Call (.Attribute o m apos) (e :: es) [] pos) (tCMethSD C sp dvs E ta t) := by
  refine ⟨fun pins s σ H Q I h => ?_⟩
  refine PySem.W.methodCall_KW (pl := pl) (thn (he.run pins s σ H _ I h) fun u s1 ⟨x, H1, I1, rx, ex, q⟩ => ?_) ht
  subst ex
  obtain rfl : u = Value.ref C := rx
  refine ClX.getmethcm_ok I1 r c fun s2 I2 => ?_
  refine ClX.callwith_cm I2 (ClX.base_none I1 (Nat.le_refl _)) c.fi (thn (ha.run pos _ s2 σ H1 _ I2 q) fun us s3 ⟨vs, H2, I3, rv, q2⟩ => ⟨⟨ClX.pin_at I3, I3.kIn⟩, ?_⟩) hst hpl
  exact run_cmSD F hr hb hd (hx σ) I3 rv q2
end
/-- the class first -/
def cF (K : PySem.W.Frag) (c : Str) (F : DF) : DF := fun W ds n q x => ∃ r, ds = .hnd (ca K c) :: r ∧ F W r n q x
structure Cg (P : Program) (w : World) (K : PySem.W.Frag) (mg : Str → Option Value) (base : Heap) (c x : Str) (k m : Nat) (F : DF) (dvd : List D) : Prop where
  gl : mg c = some (.ref (ca K c))
  rd : ClX.CRead K (ca K c) (.type "type")
  ex : ∃ (p g : Addr) (fd : FuncData) (ps : List Str) (ds : List Value) (dvs : List V), FnOk P w K mg base (L2.CX P w) k g fd ps (spW K m (cF K c F)) ∧ ClX.CMet K (ca K c) (.type "type") x p g ∧ Binds K fd ps ds ∧ Vals dvs ds ∧ ∀ G, RepL K G dvd dvs
def dCMeth (m : Nat) (F : DF) (dvd : List D) (a : DA) : DE := fun x ρ n q => a x ρ n fun ds n1 => (ds ++ dvd).length + 1 = m ∧ F x.w (ds ++ dvd) n1 q x.ex
section
variable {X : Cx} {W : WX} {k m : Nat} {F : DF} {FI : DFI} {dvd : List D} {x c y : Str} {p pos apos : Pos} {e o : Expr} {es : List Expr} {a : DA} {δ : DE}
theorem ed_cmeth {K : PySem.W.Frag} {dvs : List V} {t : TA} (hd : ∀ G, RepL K G dvd dvs) (ha : EA K W t a) : ED K W (tCMethSD (ca K c) (spW K m (cF K c F)) dvs (WE W) (tC (.ref (ca K c))) t) (dCMeth m F dvd a) := by
  intro B σ H ρ n G α Q x q hK R hx h k
  refine ⟨rfl, ?_⟩
  refine ha B σ H ρ n G α _ x _ hK R hx h fun vs H1 G1 ds n1 s1 j1 r1 h1 => ?_
  have R1 := R.step s1 j1
  have hx1 := hx.step s1
  obtain ⟨hl, h1⟩ := h1
  rw [hx.1] at h1
  exact ⟨B.W, n1, G1, .hnd (ca K c) :: (ds ++ dvd), q, x.ex, s1.hh, R1.rg, j1, .cons (.hnd _) (r1.append (hd G1)), hl, ⟨_, rfl, h1⟩, fun v H' G' d n' s j r hq => k v H' G' d n' (s1.trans s) j r hq, fun cc dd H' G' e n' s j r hq => hx1.2 cc dd H' G' e n' s j (hK ▸ r) hq⟩
theorem pd_cmeth {pl : Sem Bool} (S : Cg X.prog X.w X.K X.mg X.base c y k m F dvd) (hr : Room k X.A) (tk : Takes X W) (hg : Gl X c) (ha : PAD X W (e :: es) a) (hdb : (c == ("__debug__" : Str)) = false := by decide)
    (hst : starEach (e :: es) X.env = (false, eval e X.env) :: starEach es X.env := by rfl) (hpl : (backTo pos (starEach es X.env)).any (·.1) = false := by rfl)
    (ht : eval (.Call (.Attribute (.Name c p) y apos) (e :: es) [] pos) X.env = (do
      let ov ← eval (.Name c p) X.env
      standAt apos.atName
      let (f, first) ← holding [ov] (getMethod ov y pl)
      callWith pos f first (backTo pos (starEach (e :: es) X.env)) (backToKw pos (keywordEach [] X.env))) := by rfl) : PD X W (.Call (.Attribute (.Name c p) y apos) (e :: es) [] pos) (dCMeth m F dvd a) := by
  obtain ⟨t, pa, ea⟩ := ha
  obtain ⟨pp, g, fd, ps, ds, dvs, hF, hm, hb, hd, hdv⟩ := S.ex
  exact ⟨_, pe_cmethSD (pe_glob (v := .ref (ca X.K c)) hg S.gl rfl hdb) S.rd hm hF hr hb hd (fun σ => passAt tk σ) pa hst hpl ht, ed_cmeth hdv ea⟩
/-! ### an instance made by the class in a slot -/
def tMakeVSD (i : Nat) (C : Addr) (sp : Sp) (dvs : List V) (E : St → XK) (t : TA) : TE := fun σ H Q => σ[i]? = some (some (.ref C)) ∧ tMakeSD C sp dvs E t σ H Q
theorem pe_makeVSD {CX : CXT} {i : Nat} {C f : Addr} {fd : FuncData} {ps : List Str} {sp : Sp} {dvs : List V} {ds : List Value} {E : St → XK} {t : TA} (M : Mk X.K C f) (F : FnOk X.prog X.w X.K X.mg X.base CX k f fd ps sp) (hr : Room (k + 1) X.A) (hN : X.N[i]? = some x) (hv : Vis X.env.scope x) (hb : Binds X.K fd ps ds) (hd : Vals dvs ds) (hx : ∀ σ, PassesAt CX X σ (E σ))
    (ha : PA X (e :: es) t) (hdb : (x == ("__debug__" : Str)) = false := by decide) (hcd : (x == ("__classdict__" : Str)) = false := by decide) (he : starEach (e :: es) X.env = (false, eval e X.env) :: starEach es X.env := by rfl) (hpl : (backTo pos (starEach es X.env)).any (·.1) = false := by rfl) :
    PE X (.Call (.Name x p) (e :: es) [] pos) (tMakeVSD i C sp dvs E t) := by
  refine ⟨fun pins s σ H Q I h => ?_⟩
  obtain ⟨hs, h⟩ := h
  refine wpAny_Call_Name_kw (thn ((pe_var (pos := p) hN hv hdb hcd).run pins s σ H (fun v H1 => v = .ref C ∧ H1 = H) I ⟨.ref C, hs, rfl, rfl⟩) fun u s1 ⟨v, H1, I1, r1, q1⟩ => ?_)
  obtain ⟨rfl, rfl⟩ := q1
  cases r1
  refine PySem.W.callWith_K (h₀ := X.base) I.ok.mod.kin M.kp (thn (ha.run pos pins s1 σ _ _ I1 h) fun us s1 ⟨vs, H1, I1, r, q⟩ => ⟨I1.kIn, ?_⟩) he hpl
  exact run_makeSD M F hr hb hd (hx σ) I1 r q
def dMakeV (i : Nat) (C : Addr) (c : Str) (m : Nat) (F : DFI) (dvd : List D) (a : DA) : DE := fun x ρ n q => ρ[i]? = some (some (.val (.hnd C))) ∧ dMake c m F dvd a x ρ n q
theorem pd_makeV (i : Nat) (S : Ig X.prog X.w X.K X.mg X.base c k m FI dvd) (hr : Room (k + 1) X.A) (tk : Takes X W) (ha : PAD X W (e :: es) a) (hN : X.N[i]? = some x := by rfl) (hv : Vis X.env.scope x := by first | exact Or.inl rfl | exact Or.inr (Or.inl rfl) | exact Or.inr (Or.inr rfl)) (hdb : (x == ("__debug__" : Str)) = false := by decide) (hcd : (x == ("__classdict__" : Str)) = false := by decide)
    (he : starEach (e :: es) X.env = (false, eval e X.env) :: starEach es X.env := by rfl) (hpl : (backTo pos (starEach es X.env)).any (·.1) = false := by rfl) : PD X W (.Call (.Name x p) (e :: es) [] pos) (dMakeV i (ca X.K c) c m FI dvd a) := by
  obtain ⟨t, pa, ea⟩ := ha
  obtain ⟨f, fd, ps, ds, dvs, hF, hm, hb, hd, hdv⟩ := S.ex
  refine ⟨_, pe_makeVSD (i := i) hm hF hr hN hv hb hd (fun σ => passAt tk σ) pa hdb hcd he hpl, ?_⟩
  intro B σ H ρ n G α Q x q hK R hx h k
  obtain ⟨h0, h⟩ := h
  refine ⟨?_, ed_make hdv ea B σ H ρ n G α Q x q hK R hx h k⟩
  obtain ⟨v, e1, r⟩ := R.val i _ h0
  cases r
  exact e1
end
/-! ### the hook -/
def rdB (c : Str) (K : PySem.W.Frag) : Bool := PySem.W.readsIn K (ca K c) (.type "type")
theorem rdB_ok {c : Str} {K : PySem.W.Frag} (h : rdB c K = true) : ClX.CRead K (ca K c) (.type "type") := by
  have N : PySem.W.readsIn K (ca K c) (.type "type") = true := h
  refine ⟨N, ?_⟩
  unfold PySem.W.readsIn at N
  obtain ⟨h, _⟩ := He.ba N
  obtain ⟨h, _⟩ := He.ba h
  obtain ⟨h, h3⟩ := He.ba h
  obtain ⟨_, h2⟩ := He.ba h
  unfold PySem.W.specialIn
  rw [beq_iff_eq.mp h2, Option.bind_some]
  exact beq_iff_eq.mp h3
/-- the def of a classmethod -/
def cmA (c m : Str) (K : PySem.W.Frag) : Addr := He5.wf K (ca K c) "classmethod" m
def cmB (c m : Str) (K : PySem.W.Frag) : Bool := He5.wrapB K (ca K c) "classmethod" "classmethod.__get__" m && PySem.W.fnIn K (cmA c m K)
theorem cmB_ok {c m : Str} {K : PySem.W.Frag} (h : cmB c m K = true) : ClX.CMet K (ca K c) (.type "type") m (He.ma K (ca K c) m) (cmA c m K) := He5.cmet_of (He.ba h).1 (He.ba h).2
abbrev AlN : Type := He.AlD × He.AlD × Bool
def obsN (n : Nat) (fa : List He.Fa) (fn : List He.DefD) (cf : List He5.DefA) (tf : List He.Defn) (ex : PySem.W.Frag → Bool) (g : Addr → Option Obj) : AlN := (He.obsD fa fn (frL g n), He5.obsA [] cf (frL g n), ex (frL g n) && He.tabsB g tf (frL g n))
structure SaysN (fa : List He.Fa) (fn : List He.DefD) (cf : List He5.DefA) (tf : List He.Defn) (ex : PySem.W.Frag → Bool) (h : Heap) (K : PySem.W.Frag) : Prop where
  d : He.SaysD fa fn K
  cm : He5.SaysA [] cf K
  more : ex K = true
  tabs : ∀ p ∈ tf, PySem.W.codeHdIn K (He.cT K p).1 (He.cT K p).2 = true ∧ K.lookup (He.cT K p).2 = none ∧ h.get? (He.cT K p).2 = some { cls := .none, data := .fields #[] }
theorem saysN_of {n : Nat} {fa : List He.Fa} {fn : List He.DefD} {cf : List He5.DefA} {tf : List He.Defn} {ex : PySem.W.Frag → Bool} {h : Heap} (e : obsN n fa fn cf tf ex h.get? = (He.valD fn, He5.valA cf, true)) : SaysN fa fn cf tf ex h (frL h.get? n) := by
  have e2 : He5.obsA [] cf (frL h.get? n) = He5.valA cf := congrArg (fun z : AlN => z.2.1) e
  obtain ⟨m, t⟩ := He.ba (congrArg (fun z : AlN => z.2.2) e)
  refine ⟨congrArg Prod.fst e, e2, m, fun p hp => ?_⟩
  obtain ⟨t1, t2⟩ := He.ba (List.all_eq_true.mp t p hp)
  cases q : h.get? (He.cT (frL h.get? n) p).2 with
  | none => rw [q] at t2; cases t2
  | some o =>
    rw [q] at t2
    exact ⟨t1, He.frT_none q t2, by rw [He.emptyTab_eq t2]⟩
def hookN (n : Nat) (fa : List He.Fa) (fn : List He.DefD) (cf : List He5.DefA) (tf : List He.Defn) (ex : PySem.W.Frag → Bool) : PySem.W.Hook where
  α := AlN
  obs := fun s => obsN n fa fn cf tf ex s.heap.get?
  val := fun _ => (He.valD fn, He5.valA cf, true)
  says := fun _ h => ∃ K : PySem.W.Frag, K.In h ∧ SaysN fa fn cf tf ex h K
  of := fun _ _ e => ⟨_, He.frT_in, saysN_of e⟩
  keeps := fun _ _ _ ⟨K, hK, c⟩ k => ⟨K, PySem.W.Frag.In.keeps hK k, c.d, c.cm, c.more, fun p hp => ⟨(c.tabs p hp).1, (c.tabs p hp).2.1, k _ _ (c.tabs p hp).2.2⟩⟩
theorem obsN_eq {n : Nat} {fa : List He.Fa} {fn : List He.DefD} {cf : List He5.DefA} {tf : List He.Defn} {ex : PySem.W.Frag → Bool} {g : Addr → Option Obj} {s : Shared} (h : ∀ a, g a = s.heap.get? a) : obsN n fa fn cf tf ex g = (hookN n fa fn cf tf ex).obs s := by
  obtain rfl : g = s.heap.get? := funext h
  rfl
/-- the tables of the defs that hold lambdas -/
def tblOf (K : PySem.W.Frag) (tf : List Str) : List (Addr × Str) := tf.map fun x => ((He.cT K (x, none)).2, x ++ ".<locals>.<lambda>")
def tblB (tf : List Str) (K : PySem.W.Frag) : Bool := decide (((tblOf K tf).map (·.1)).Nodup)
theorem nodup_at {α β : Type} : ∀ {l : List (α × β)}, (l.map (·.1)).Nodup → ∀ {a : α} {b : β}, (a, b) ∈ l → ∀ p ∈ l, p.1 = a → p.2 = b
  | [], _, _, _, h, _, _, _ => nomatch h
  | q :: l, hn, a, b, h, p, hp, e => by
    rw [List.map_cons, List.nodup_cons] at hn
    rcases List.mem_cons.mp h with h | h
    · rcases List.mem_cons.mp hp with hp | hp
      · rw [hp, ← h]
      · exact (hn.1 (by rw [← h]; exact List.mem_map.mpr ⟨p, hp, e⟩)).elim
    · rcases List.mem_cons.mp hp with hp | hp
      · exact (hn.1 (by rw [← hp, e]; exact List.mem_map.mpr ⟨_, h, rfl⟩)).elim
      · exact nodup_at hn.2 h p hp e
end DL

end

set_option maxHeartbeats 0
namespace My
open PySem PySem.Spec L2 DL
def top (i : Nat) : Stmt := PySem.Challenge.pw_seenrows_k05_remainders_told.main.body.getD i (.Pass ⟨0, 0, 0, 0⟩)
def fn : List He.DefD := [
  ⟨("is_integer", none), "is_integer", "is_integer", defArgs (top 2), defBody (top 2), defScope (top 2), [], []⟩,
  ⟨("is_list", none), "is_list", "is_list", defArgs (top 3), defBody (top 3), defScope (top 3), [], []⟩,
  ⟨("is_prime", none), "is_prime", "is_prime", defArgs (top 4), defBody (top 4), defScope (top 4), [], []⟩,
  ⟨("inverse", none), "inverse", "inverse", defArgs (top 5), defBody (top 5), defScope (top 5), [], []⟩,
  ⟨("UnlikePrimes", some "__init__"), "__init__", "UnlikePrimes.__init__", defArgs (inClass (top 10) 0), defBody (inClass (top 10) 0), defScope (inClass (top 10) 0), [], []⟩,
  ⟨("ZeroFilter", some "__init__"), "__init__", "ZeroFilter.__init__", defArgs (inClass (top 11) 0), defBody (inClass (top 11) 0), defScope (inClass (top 11) 0), [], []⟩,
  ⟨("divided", none), "divided", "divided", defArgs (top 13), defBody (top 13), defScope (top 13), [], []⟩,
  ⟨("product_rest", none), "product_rest", "product_rest", defArgs (top 14), defBody (top 14), defScope (top 14), [], []⟩,
  ⟨("shift_rest", none), "shift_rest", "shift_rest", defArgs (top 15), defBody (top 15), defScope (top 15), [], []⟩,
  ⟨("far_rest", none), "far_rest", "far_rest", defArgs (top 16), defBody (top 16), defScope (top 16), [], []⟩,
  ⟨("check_primes", none), "check_primes", "check_primes", defArgs (top 17), defBody (top 17), defScope (top 17), [], []⟩,
  ⟨("is_term", none), "is_term", "is_term", defArgs (top 20), defBody (top 20), defScope (top 20), [], []⟩,
  ⟨("divisor_of", none), "divisor_of", "divisor_of", defArgs (top 21), defBody (top 21), defScope (top 21), [], []⟩,
  ⟨("Filter", some "__init__"), "__init__", "Filter.__init__", defArgs (inClass (top 22) 0), defBody (inClass (top 22) 0), defScope (inClass (top 22) 0), [.adr (He.dflAt ("Filter", some "__init__") 0)], []⟩,
  ⟨("Filter", some "__getitem__"), "__getitem__", "Filter.__getitem__", defArgs (inClass (top 22) 2), defBody (inClass (top 22) 2), defScope (inClass (top 22) 2), [], []⟩,
  ⟨("Filter", some "__bool__"), "__bool__", "Filter.__bool__", defArgs (inClass (top 22) 4), defBody (inClass (top 22) 4), defScope (inClass (top 22) 4), [], []⟩,
  ⟨("Filter", some "__eq__"), "__eq__", "Filter.__eq__", defArgs (inClass (top 22) 5), defBody (inClass (top 22) 5), defScope (inClass (top 22) 5), [], []⟩,
  ⟨("Filter", some "terms"), "terms", "Filter.terms", defArgs (inClass (top 22) 7), defBody (inClass (top 22) 7), defScope (inClass (top 22) 7), [], []⟩,
  ⟨("Filter", some "low"), "low", "Filter.low", defArgs (inClass (top 22) 8), defBody (inClass (top 22) 8), defScope (inClass (top 22) 8), [], []⟩,
  ⟨("Filter", some "high"), "high", "Filter.high", defArgs (inClass (top 22) 9), defBody (inClass (top 22) 9), defScope (inClass (top 22) 9), [], []⟩,
  ⟨("Filter", some "span"), "span", "Filter.span", defArgs (inClass (top 22) 10), defBody (inClass (top 22) 10), defScope (inClass (top 22) 10), [], []⟩,
  ⟨("Filter", some "normal"), "normal", "Filter.normal", defArgs (inClass (top 22) 11), defBody (inClass (top 22) 11), defScope (inClass (top 22) 11), [], []⟩,
  ⟨("Filter", some "__mul__"), "__mul__", "Filter.__mul__", defArgs (inClass (top 22) 15), defBody (inClass (top 22) 15), defScope (inClass (top 22) 15), [], []⟩,
  ⟨("Filter", some "__mod__"), "__mod__", "Filter.__mod__", defArgs (inClass (top 22) 18), defBody (inClass (top 22) 18), defScope (inClass (top 22) 18), [], []⟩,
  ⟨("Filter", some "__floordiv__"), "__floordiv__", "Filter.__floordiv__", defArgs (inClass (top 22) 19), defBody (inClass (top 22) 19), defScope (inClass (top 22) 19), [], []⟩,
  ⟨("_law_spring", none), "_law_spring", "_law_spring", defArgs (top 24), defBody (top 24), defScope (top 24), [], []⟩,
  ⟨("_law_draw", none), "_law_draw", "_law_draw", defArgs (top 25), defBody (top 25), defScope (top 25), [], []⟩,
  ⟨("_law_pick", none), "_law_pick", "_law_pick", defArgs (top 26), defBody (top 26), defScope (top 26), [], []⟩,
  ⟨("_law_same", none), "_law_same", "_law_same", defArgs (top 27), defBody (top 27), defScope (top 27), [], []⟩,
  ⟨("_law_held", none), "_law_held", "_law_held", defArgs (top 28), defBody (top 28), defScope (top 28), [], []⟩,
  ⟨("_law_pairs", none), "_law_pairs", "_law_pairs", defArgs (top 29), defBody (top 29), defScope (top 29), [], []⟩,
  ⟨("_law_plus", none), "_law_plus", "_law_plus", defArgs (top 30), defBody (top 30), defScope (top 30), [], []⟩,
  ⟨("_law_times", none), "_law_times", "_law_times", defArgs (top 31), defBody (top 31), defScope (top 31), [], []⟩,
  ⟨("_law_drawn", none), "_law_drawn", "_law_drawn", defArgs (top 32), defBody (top 32), defScope (top 32), [], []⟩,
  ⟨("_law_some", none), "_law_some", "_law_some", defArgs (top 33), defBody (top 33), defScope (top 33), [], []⟩,
  ⟨("_law_made", none), "_law_made", "_law_made", defArgs (top 34), defBody (top 34), defScope (top 34), [], []⟩,
  ⟨("_law_is", none), "_law_is", "_law_is", defArgs (top 35), defBody (top 35), defScope (top 35), [], []⟩,
  ⟨("_law_prime", none), "_law_prime", "_law_prime", defArgs (top 36), defBody (top 36), defScope (top 36), [], []⟩,
  ⟨("_law_other", none), "_law_other", "_law_other", defArgs (top 37), defBody (top 37), defScope (top 37), [], []⟩,
  ⟨("_law_tried", none), "_law_tried", "_law_tried", defArgs (top 38), defBody (top 38), defScope (top 38), [], []⟩,
  ⟨("_law_refuses", none), "_law_refuses", "_law_refuses", defArgs (top 39), defBody (top 39), defScope (top 39), [], []⟩,
  ⟨("_law_far", none), "_law_far", "_law_far", defArgs (top 40), defBody (top 40), defScope (top 40), [], []⟩,
  ⟨("_law_far_right", none), "_law_far_right", "_law_far_right", defArgs (top 41), defBody (top 41), defScope (top 41), [], []⟩,
  ⟨("_law_shifts_right", none), "_law_shifts_right", "_law_shifts_right", defArgs (top 42), defBody (top 42), defScope (top 42), [], []⟩,
  ⟨("law", none), "law", "law", defArgs (top 43), defBody (top 43), defScope (top 43), [], []⟩]
def fa : List He.Fa := [.glo "PRIMES", .glo "is_integer", .glo "is_list", .glo "is_prime", .glo "inverse", .glo "SeenError", .glo "BadPrime", .glo "BadTerm", .glo "UnlikePrimes", .glo "ZeroFilter", .glo "divided", .glo "product_rest", .glo "shift_rest", .glo "far_rest", .glo "check_primes", .int "NEAR" (2000), .glo "is_term", .glo "divisor_of", .glo "Filter", .glo "_law_spring", .glo "_law_draw", .glo "_law_pick", .glo "_law_same", .glo "_law_held", .glo "_law_pairs", .glo "_law_plus", .glo "_law_times", .glo "_law_drawn", .glo "_law_some", .glo "_law_made", .glo "_law_is", .glo "_law_prime", .glo "_law_other", .glo "_law_tried", .glo "_law_refuses", .glo "_law_far", .glo "_law_far_right", .glo "_law_shifts_right", .glo "law", .free "isinstance", .free "len", .free "sorted", .free "dict", .free "list", .free "tuple", .free "int", .free "bool", .free "abs", .free "all", .free "any", .free "enumerate", .free "range", .free "zip", .free "min", .free "max", .free "sum", .free "str", .free "reversed", .free "divmod", .free "repr", .free "iter", .free "super", .free "ValueError", .free "TypeError", .mkr "Filter", .meth "Filter" "__init__", .meth "Filter" "__getitem__", .meth "Filter" "__bool__", .meth "Filter" "__eq__", .meth "Filter" "terms", .meth "Filter" "low", .meth "Filter" "high", .meth "Filter" "span", .meth "Filter" "normal", .meth "Filter" "__mul__", .meth "Filter" "__mod__", .meth "Filter" "__floordiv__", .noat "Filter" "kept", .noat "Filter" "prime", .noat "Filter" "held"]
def CS : List Str := ["Filter"]
def sub (a b : Str) : Bool := decide (a = b)
def XS : List Str := ["ZeroFilter", "UnlikePrimes"]
def xsub (a b : Str) : Bool := decide (a = b)
def tfn : List Str := ["_law_refuses"]
def tf : List He.Defn := tfn.map fun x => (x, none)
theorem tf_mem {x : Str} (h : x ∈ tfn) : ((x, none) : He.Defn) ∈ tf := List.mem_map.mpr ⟨x, h, rfl⟩
abbrev TBs (K : PySem.W.Frag) (mg : Str → Option Value) (base : Heap) : Prop := ∀ x ∈ tfn, LamX.TabB base mg (He.cT K (x, none)).1 (He.cT K (x, none)).2
def cmf : List He5.DefA := [⟨cmA "Filter" "shift", "shift", "Filter.shift", defArgs (inClass (top 22) 1), defBody (inClass (top 22) 1), defScope (inClass (top 22) 1), [], []⟩]
def exL (K : PySem.W.Frag) : List Bool := [chkTy CS sub K,
  tupAt K (He.ga K "PRIMES") [.int 2, .int 3, .int 5, .int 7],
  tupAt K (He.dflAt ("Filter", some "__init__") 0 K) [],
  excB "ZeroFilter" K,
  excB "UnlikePrimes" K,
  opB "Filter" .FloorDiv K,
  opB "Filter" .Mod K,
  opB "Filter" .Mult K,
  eqB CS "Filter" K,
  getB "Filter" K,
  seB "SeenError" K,
  xsB XS xsub K,
  rdB "Filter" K,
  cmB "Filter" "shift" K,
  tblB tfn K]
def exB (K : PySem.W.Frag) : Bool := (exL K).all id
structure Top (K : PySem.W.Frag) (mg : Str → Option Value) : Prop where
  says : He.SaysD fa fn K
  exb : exB K = true
  cm : He5.SaysA [] cmf K
  h : ∃ h : Heap, K.In h ∧ h.Ns mainGlobals mg
section
variable {K : PySem.W.Frag} {mg : Str → Option Value}
theorem Top.ex (T : Top K mg) (i : Nat) {b : Bool} (h : (exL K)[i]? = some b := by rfl) : b = true := List.all_eq_true.mp T.exb b (List.mem_of_getElem? h)
theorem Top.g_PRIMES (T : Top K mg) : mg "PRIMES" = some (.ref (ca K "PRIMES")) := let ⟨_, X, G⟩ := T.h; He.glo_ok X G (T.says.fact 0 rfl)
theorem Top.g_is_integer (T : Top K mg) : mg "is_integer" = some (.ref (ca K "is_integer")) := let ⟨_, X, G⟩ := T.h; He.glo_ok X G (T.says.fact 1 rfl)
theorem Top.g_is_list (T : Top K mg) : mg "is_list" = some (.ref (ca K "is_list")) := let ⟨_, X, G⟩ := T.h; He.glo_ok X G (T.says.fact 2 rfl)
theorem Top.g_is_prime (T : Top K mg) : mg "is_prime" = some (.ref (ca K "is_prime")) := let ⟨_, X, G⟩ := T.h; He.glo_ok X G (T.says.fact 3 rfl)
theorem Top.g_inverse (T : Top K mg) : mg "inverse" = some (.ref (ca K "inverse")) := let ⟨_, X, G⟩ := T.h; He.glo_ok X G (T.says.fact 4 rfl)
theorem Top.g_SeenError (T : Top K mg) : mg "SeenError" = some (.ref (ca K "SeenError")) := let ⟨_, X, G⟩ := T.h; He.glo_ok X G (T.says.fact 5 rfl)
theorem Top.g_BadPrime (T : Top K mg) : mg "BadPrime" = some (.ref (ca K "BadPrime")) := let ⟨_, X, G⟩ := T.h; He.glo_ok X G (T.says.fact 6 rfl)
theorem Top.g_BadTerm (T : Top K mg) : mg "BadTerm" = some (.ref (ca K "BadTerm")) := let ⟨_, X, G⟩ := T.h; He.glo_ok X G (T.says.fact 7 rfl)
theorem Top.g_UnlikePrimes (T : Top K mg) : mg "UnlikePrimes" = some (.ref (ca K "UnlikePrimes")) := let ⟨_, X, G⟩ := T.h; He.glo_ok X G (T.says.fact 8 rfl)
theorem Top.g_ZeroFilter (T : Top K mg) : mg "ZeroFilter" = some (.ref (ca K "ZeroFilter")) := let ⟨_, X, G⟩ := T.h; He.glo_ok X G (T.says.fact 9 rfl)
theorem Top.g_divided (T : Top K mg) : mg "divided" = some (.ref (ca K "divided")) := let ⟨_, X, G⟩ := T.h; He.glo_ok X G (T.says.fact 10 rfl)
theorem Top.g_product_rest (T : Top K mg) : mg "product_rest" = some (.ref (ca K "product_rest")) := let ⟨_, X, G⟩ := T.h; He.glo_ok X G (T.says.fact 11 rfl)
theorem Top.g_shift_rest (T : Top K mg) : mg "shift_rest" = some (.ref (ca K "shift_rest")) := let ⟨_, X, G⟩ := T.h; He.glo_ok X G (T.says.fact 12 rfl)
theorem Top.g_far_rest (T : Top K mg) : mg "far_rest" = some (.ref (ca K "far_rest")) := let ⟨_, X, G⟩ := T.h; He.glo_ok X G (T.says.fact 13 rfl)
theorem Top.g_check_primes (T : Top K mg) : mg "check_primes" = some (.ref (ca K "check_primes")) := let ⟨_, X, G⟩ := T.h; He.glo_ok X G (T.says.fact 14 rfl)
theorem Top.c_NEAR (T : Top K mg) : ∃ t, mg "NEAR" = some (.int (2000) t) := let ⟨_, X, G⟩ := T.h; He.int_ok X G (T.says.fact 15 rfl)
theorem Top.g_is_term (T : Top K mg) : mg "is_term" = some (.ref (ca K "is_term")) := let ⟨_, X, G⟩ := T.h; He.glo_ok X G (T.says.fact 16 rfl)
theorem Top.g_divisor_of (T : Top K mg) : mg "divisor_of" = some (.ref (ca K "divisor_of")) := let ⟨_, X, G⟩ := T.h; He.glo_ok X G (T.says.fact 17 rfl)
theorem Top.g_Filter (T : Top K mg) : mg "Filter" = some (.ref (ca K "Filter")) := let ⟨_, X, G⟩ := T.h; He.glo_ok X G (T.says.fact 18 rfl)
theorem Top.g__law_spring (T : Top K mg) : mg "_law_spring" = some (.ref (ca K "_law_spring")) := let ⟨_, X, G⟩ := T.h; He.glo_ok X G (T.says.fact 19 rfl)
theorem Top.g__law_draw (T : Top K mg) : mg "_law_draw" = some (.ref (ca K "_law_draw")) := let ⟨_, X, G⟩ := T.h; He.glo_ok X G (T.says.fact 20 rfl)
theorem Top.g__law_pick (T : Top K mg) : mg "_law_pick" = some (.ref (ca K "_law_pick")) := let ⟨_, X, G⟩ := T.h; He.glo_ok X G (T.says.fact 21 rfl)
theorem Top.g__law_same (T : Top K mg) : mg "_law_same" = some (.ref (ca K "_law_same")) := let ⟨_, X, G⟩ := T.h; He.glo_ok X G (T.says.fact 22 rfl)
theorem Top.g__law_held (T : Top K mg) : mg "_law_held" = some (.ref (ca K "_law_held")) := let ⟨_, X, G⟩ := T.h; He.glo_ok X G (T.says.fact 23 rfl)
theorem Top.g__law_pairs (T : Top K mg) : mg "_law_pairs" = some (.ref (ca K "_law_pairs")) := let ⟨_, X, G⟩ := T.h; He.glo_ok X G (T.says.fact 24 rfl)
theorem Top.g__law_plus (T : Top K mg) : mg "_law_plus" = some (.ref (ca K "_law_plus")) := let ⟨_, X, G⟩ := T.h; He.glo_ok X G (T.says.fact 25 rfl)
theorem Top.g__law_times (T : Top K mg) : mg "_law_times" = some (.ref (ca K "_law_times")) := let ⟨_, X, G⟩ := T.h; He.glo_ok X G (T.says.fact 26 rfl)
theorem Top.g__law_drawn (T : Top K mg) : mg "_law_drawn" = some (.ref (ca K "_law_drawn")) := let ⟨_, X, G⟩ := T.h; He.glo_ok X G (T.says.fact 27 rfl)
theorem Top.g__law_some (T : Top K mg) : mg "_law_some" = some (.ref (ca K "_law_some")) := let ⟨_, X, G⟩ := T.h; He.glo_ok X G (T.says.fact 28 rfl)
theorem Top.g__law_made (T : Top K mg) : mg "_law_made" = some (.ref (ca K "_law_made")) := let ⟨_, X, G⟩ := T.h; He.glo_ok X G (T.says.fact 29 rfl)
theorem Top.g__law_is (T : Top K mg) : mg "_law_is" = some (.ref (ca K "_law_is")) := let ⟨_, X, G⟩ := T.h; He.glo_ok X G (T.says.fact 30 rfl)
theorem Top.g__law_prime (T : Top K mg) : mg "_law_prime" = some (.ref (ca K "_law_prime")) := let ⟨_, X, G⟩ := T.h; He.glo_ok X G (T.says.fact 31 rfl)
theorem Top.g__law_other (T : Top K mg) : mg "_law_other" = some (.ref (ca K "_law_other")) := let ⟨_, X, G⟩ := T.h; He.glo_ok X G (T.says.fact 32 rfl)
theorem Top.g__law_tried (T : Top K mg) : mg "_law_tried" = some (.ref (ca K "_law_tried")) := let ⟨_, X, G⟩ := T.h; He.glo_ok X G (T.says.fact 33 rfl)
theorem Top.g__law_refuses (T : Top K mg) : mg "_law_refuses" = some (.ref (ca K "_law_refuses")) := let ⟨_, X, G⟩ := T.h; He.glo_ok X G (T.says.fact 34 rfl)
theorem Top.g__law_far (T : Top K mg) : mg "_law_far" = some (.ref (ca K "_law_far")) := let ⟨_, X, G⟩ := T.h; He.glo_ok X G (T.says.fact 35 rfl)
theorem Top.g__law_far_right (T : Top K mg) : mg "_law_far_right" = some (.ref (ca K "_law_far_right")) := let ⟨_, X, G⟩ := T.h; He.glo_ok X G (T.says.fact 36 rfl)
theorem Top.g__law_shifts_right (T : Top K mg) : mg "_law_shifts_right" = some (.ref (ca K "_law_shifts_right")) := let ⟨_, X, G⟩ := T.h; He.glo_ok X G (T.says.fact 37 rfl)
theorem Top.g_law (T : Top K mg) : mg "law" = some (.ref (ca K "law")) := let ⟨_, X, G⟩ := T.h; He.glo_ok X G (T.says.fact 38 rfl)
theorem Top.f_isinstance (T : Top K mg) : mg "isinstance" = none := let ⟨_, X, G⟩ := T.h; He.free_ok X G (T.says.fact 39 rfl)
theorem Top.f_len (T : Top K mg) : mg "len" = none := let ⟨_, X, G⟩ := T.h; He.free_ok X G (T.says.fact 40 rfl)
theorem Top.f_sorted (T : Top K mg) : mg "sorted" = none := let ⟨_, X, G⟩ := T.h; He.free_ok X G (T.says.fact 41 rfl)
theorem Top.f_dict (T : Top K mg) : mg "dict" = none := let ⟨_, X, G⟩ := T.h; He.free_ok X G (T.says.fact 42 rfl)
theorem Top.f_list (T : Top K mg) : mg "list" = none := let ⟨_, X, G⟩ := T.h; He.free_ok X G (T.says.fact 43 rfl)
theorem Top.f_tuple (T : Top K mg) : mg "tuple" = none := let ⟨_, X, G⟩ := T.h; He.free_ok X G (T.says.fact 44 rfl)
theorem Top.f_int (T : Top K mg) : mg "int" = none := let ⟨_, X, G⟩ := T.h; He.free_ok X G (T.says.fact 45 rfl)
theorem Top.f_bool (T : Top K mg) : mg "bool" = none := let ⟨_, X, G⟩ := T.h; He.free_ok X G (T.says.fact 46 rfl)
theorem Top.f_abs (T : Top K mg) : mg "abs" = none := let ⟨_, X, G⟩ := T.h; He.free_ok X G (T.says.fact 47 rfl)
theorem Top.f_all (T : Top K mg) : mg "all" = none := let ⟨_, X, G⟩ := T.h; He.free_ok X G (T.says.fact 48 rfl)
theorem Top.f_any (T : Top K mg) : mg "any" = none := let ⟨_, X, G⟩ := T.h; He.free_ok X G (T.says.fact 49 rfl)
theorem Top.f_enumerate (T : Top K mg) : mg "enumerate" = none := let ⟨_, X, G⟩ := T.h; He.free_ok X G (T.says.fact 50 rfl)
theorem Top.f_range (T : Top K mg) : mg "range" = none := let ⟨_, X, G⟩ := T.h; He.free_ok X G (T.says.fact 51 rfl)
theorem Top.f_zip (T : Top K mg) : mg "zip" = none := let ⟨_, X, G⟩ := T.h; He.free_ok X G (T.says.fact 52 rfl)
theorem Top.f_min (T : Top K mg) : mg "min" = none := let ⟨_, X, G⟩ := T.h; He.free_ok X G (T.says.fact 53 rfl)
theorem Top.f_max (T : Top K mg) : mg "max" = none := let ⟨_, X, G⟩ := T.h; He.free_ok X G (T.says.fact 54 rfl)
theorem Top.f_sum (T : Top K mg) : mg "sum" = none := let ⟨_, X, G⟩ := T.h; He.free_ok X G (T.says.fact 55 rfl)
theorem Top.f_str (T : Top K mg) : mg "str" = none := let ⟨_, X, G⟩ := T.h; He.free_ok X G (T.says.fact 56 rfl)
theorem Top.f_reversed (T : Top K mg) : mg "reversed" = none := let ⟨_, X, G⟩ := T.h; He.free_ok X G (T.says.fact 57 rfl)
theorem Top.f_divmod (T : Top K mg) : mg "divmod" = none := let ⟨_, X, G⟩ := T.h; He.free_ok X G (T.says.fact 58 rfl)
theorem Top.f_repr (T : Top K mg) : mg "repr" = none := let ⟨_, X, G⟩ := T.h; He.free_ok X G (T.says.fact 59 rfl)
theorem Top.f_iter (T : Top K mg) : mg "iter" = none := let ⟨_, X, G⟩ := T.h; He.free_ok X G (T.says.fact 60 rfl)
theorem Top.f_super (T : Top K mg) : mg "super" = none := let ⟨_, X, G⟩ := T.h; He.free_ok X G (T.says.fact 61 rfl)
theorem Top.f_ValueError (T : Top K mg) : mg "ValueError" = none := let ⟨_, X, G⟩ := T.h; He.free_ok X G (T.says.fact 62 rfl)
theorem Top.f_TypeError (T : Top K mg) : mg "TypeError" = none := let ⟨_, X, G⟩ := T.h; He.free_ok X G (T.says.fact 63 rfl)
theorem Top.mk_Filter (T : Top K mg) : Mk K (ca K "Filter") (He.ma K (ca K "Filter") "__init__") := He.mkr_ok (T.says.fact 64 rfl)
theorem Top.m_Filter___init__ (T : Top K mg) : Meth K (ca K "Filter") "__init__" (He.ma K (ca K "Filter") "__init__") := He.meth_ok (T.says.fact 65 rfl)
theorem Top.m_Filter___getitem__ (T : Top K mg) : Meth K (ca K "Filter") "__getitem__" (He.ma K (ca K "Filter") "__getitem__") := He.meth_ok (T.says.fact 66 rfl)
theorem Top.m_Filter___bool__ (T : Top K mg) : Meth K (ca K "Filter") "__bool__" (He.ma K (ca K "Filter") "__bool__") := He.meth_ok (T.says.fact 67 rfl)
theorem Top.m_Filter___eq__ (T : Top K mg) : Meth K (ca K "Filter") "__eq__" (He.ma K (ca K "Filter") "__eq__") := He.meth_ok (T.says.fact 68 rfl)
theorem Top.m_Filter_terms (T : Top K mg) : Meth K (ca K "Filter") "terms" (He.ma K (ca K "Filter") "terms") := He.meth_ok (T.says.fact 69 rfl)
theorem Top.m_Filter_low (T : Top K mg) : Meth K (ca K "Filter") "low" (He.ma K (ca K "Filter") "low") := He.meth_ok (T.says.fact 70 rfl)
theorem Top.m_Filter_high (T : Top K mg) : Meth K (ca K "Filter") "high" (He.ma K (ca K "Filter") "high") := He.meth_ok (T.says.fact 71 rfl)
theorem Top.m_Filter_span (T : Top K mg) : Meth K (ca K "Filter") "span" (He.ma K (ca K "Filter") "span") := He.meth_ok (T.says.fact 72 rfl)
theorem Top.m_Filter_normal (T : Top K mg) : Meth K (ca K "Filter") "normal" (He.ma K (ca K "Filter") "normal") := He.meth_ok (T.says.fact 73 rfl)
theorem Top.m_Filter___mul__ (T : Top K mg) : Meth K (ca K "Filter") "__mul__" (He.ma K (ca K "Filter") "__mul__") := He.meth_ok (T.says.fact 74 rfl)
theorem Top.m_Filter___mod__ (T : Top K mg) : Meth K (ca K "Filter") "__mod__" (He.ma K (ca K "Filter") "__mod__") := He.meth_ok (T.says.fact 75 rfl)
theorem Top.m_Filter___floordiv__ (T : Top K mg) : Meth K (ca K "Filter") "__floordiv__" (He.ma K (ca K "Filter") "__floordiv__") := He.meth_ok (T.says.fact 76 rfl)
theorem Top.ty (T : Top K mg) : chkTy CS sub K = true := T.ex 0
theorem Top.tyf (T : Top K mg) : ∀ c ∈ CS, TyF K c := chk_tyf T.ty
theorem Top.kb_int (T : Top K mg) : ∀ d t, tyD d = some t → (∀ c, t = .own c → c ∈ CS) → PySem.W.kitOne K (t.val K) (.type "int") = some (isaB "int" t) := chk_kb T.ty "int" (by decide)
theorem Top.kb_bool (T : Top K mg) : ∀ d t, tyD d = some t → (∀ c, t = .own c → c ∈ CS) → PySem.W.kitOne K (t.val K) (.type "bool") = some (isaB "bool" t) := chk_kb T.ty "bool" (by decide)
theorem Top.kb_list (T : Top K mg) : ∀ d t, tyD d = some t → (∀ c, t = .own c → c ∈ CS) → PySem.W.kitOne K (t.val K) (.type "list") = some (isaB "list" t) := chk_kb T.ty "list" (by decide)
theorem Top.kb_tuple (T : Top K mg) : ∀ d t, tyD d = some t → (∀ c, t = .own c → c ∈ CS) → PySem.W.kitOne K (t.val K) (.type "tuple") = some (isaB "tuple" t) := chk_kb T.ty "tuple" (by decide)
theorem Top.kb_str (T : Top K mg) : ∀ d t, tyD d = some t → (∀ c, t = .own c → c ∈ CS) → PySem.W.kitOne K (t.val K) (.type "str") = some (isaB "str" t) := chk_kb T.ty "str" (by decide)
theorem Top.kb_dict (T : Top K mg) : ∀ d t, tyD d = some t → (∀ c, t = .own c → c ∈ CS) → PySem.W.kitOne K (t.val K) (.type "dict") = some (isaB "dict" t) := chk_kb T.ty "dict" (by decide)
theorem Top.kt_list_tuple (T : Top K mg) : ∀ d t, tyD d = some t → (∀ c, t = .own c → c ∈ CS) → PySem.W.kitAny K (t.val K) [.type "list", .type "tuple"] = some (["list", "tuple"].any fun n => isaB n t) := chk_kt T.ty ["list", "tuple"] (by decide)
theorem Top.kt_int_list_tuple (T : Top K mg) : ∀ d t, tyD d = some t → (∀ c, t = .own c → c ∈ CS) → PySem.W.kitAny K (t.val K) [.type "int", .type "list", .type "tuple"] = some (["int", "list", "tuple"].any fun n => isaB n t) := chk_kt T.ty ["int", "list", "tuple"] (by decide)
theorem Top.ko_Filter (T : Top K mg) : ∀ d t, tyD d = some t → (∀ c, t = .own c → c ∈ CS) → PySem.W.kitOne K (t.val K) (.ref (ca K "Filter")) = some (isaO sub "Filter" t) := chk_ko T.ty (by decide +kernel)
theorem Top.cl_Filter (T : Top K mg) : Cls K (ca K "Filter") := (T.tyf "Filter" (by decide +kernel)).cl
theorem Top.fld_Filter_kept (T : Top K mg) : ∀ c ∈ (["Filter"] : List Str), Cls K (ca K c) ∧ NoAttr K (ca K c) "kept" := by
  intro c hc
  simp only [List.mem_cons, List.not_mem_nil, or_false] at hc
  subst hc
  exact ⟨T.cl_Filter, He.noat_ok (T.says.fact 77 rfl)⟩
theorem Top.fld_Filter_prime (T : Top K mg) : ∀ c ∈ (["Filter"] : List Str), Cls K (ca K c) ∧ NoAttr K (ca K c) "prime" := by
  intro c hc
  simp only [List.mem_cons, List.not_mem_nil, or_false] at hc
  subst hc
  exact ⟨T.cl_Filter, He.noat_ok (T.says.fact 78 rfl)⟩
theorem Top.fld_Filter_held (T : Top K mg) : ∀ c ∈ (["Filter"] : List Str), Cls K (ca K c) ∧ NoAttr K (ca K c) "held" := by
  intro c hc
  simp only [List.mem_cons, List.not_mem_nil, or_false] at hc
  subst hc
  exact ⟨T.cl_Filter, He.noat_ok (T.says.fact 79 rfl)⟩
theorem Top.c_PRIMES (T : Top K mg) (G : Hp) : Rep K G (.tup ([2, 3, 5, 7].map D.int)) (.ref (ca K "PRIMES")) := rep_ints (T.ex 1) G
theorem Top.dfl_Filter___init__ (T : Top K mg) (G : Hp) : Rep K G (.tup []) (.ref (He.dflAt ("Filter", some "__init__") 0 K)) := .tup (tupAt_ok (T.ex 2) G) .nil
theorem Top.x_ZeroFilter (T : Top K mg) : excB "ZeroFilter" K = true := T.ex 3
theorem Top.x_UnlikePrimes (T : Top K mg) : excB "UnlikePrimes" K = true := T.ex 4
theorem Top.op_Filter_FloorDiv (T : Top K mg) : OpK K "Filter" .FloorDiv := opB_ok (T.ex 5)
theorem Top.op_Filter_Mod (T : Top K mg) : OpK K "Filter" .Mod := opB_ok (T.ex 6)
theorem Top.op_Filter_Mult (T : Top K mg) : OpK K "Filter" .Mult := opB_ok (T.ex 7)
theorem Top.eq_Filter (T : Top K mg) : eqB CS "Filter" K = true := T.ex 8
theorem Top.get_Filter (T : Top K mg) : getB "Filter" K = true := T.ex 9
theorem Top.base (T : Top K mg) : XBase K "SeenError" := seB_ok (T.ex 10)
theorem Top.xs (T : Top K mg) : ∀ c ∈ XS, ∀ c' ∈ XS, PySem.W.exmOne K (.ref (ca K c)) (.ref (ca K c')) = some (xsub c c') := xsB_ok (T.ex 11)
theorem Top.cr_Filter (T : Top K mg) : ClX.CRead K (ca K "Filter") (.type "type") := rdB_ok (T.ex 12)
theorem Top.cm_Filter_shift (T : Top K mg) : ClX.CMet K (ca K "Filter") (.type "type") "shift" (He.ma K (ca K "Filter") "shift") (cmA "Filter" "shift" K) := cmB_ok (T.ex 13)
theorem Top.tbl (T : Top K mg) : ((tblOf K tfn).map (·.1)).Nodup := of_decide_eq_true (T.ex 14)
theorem Top.d_Filter_shift (T : Top K mg) : ∃ fd, FunD K "shift" "Filter.shift" (defArgs (inClass (top 22) 1)) (defBody (inClass (top 22) 1)) (defScope (inClass (top 22) 1)) [] [] (cmA "Filter" "shift" K) fd := T.cm.def_ 0 rfl
theorem Top.d_is_integer (T : Top K mg) : ∃ fd, FunD K "is_integer" "is_integer" (defArgs (top 2)) (defBody (top 2)) (defScope (top 2)) [] [] (ca K "is_integer") fd := T.says.def_ 0 rfl
theorem Top.d_is_list (T : Top K mg) : ∃ fd, FunD K "is_list" "is_list" (defArgs (top 3)) (defBody (top 3)) (defScope (top 3)) [] [] (ca K "is_list") fd := T.says.def_ 1 rfl
theorem Top.d_is_prime (T : Top K mg) : ∃ fd, FunD K "is_prime" "is_prime" (defArgs (top 4)) (defBody (top 4)) (defScope (top 4)) [] [] (ca K "is_prime") fd := T.says.def_ 2 rfl
theorem Top.d_inverse (T : Top K mg) : ∃ fd, FunD K "inverse" "inverse" (defArgs (top 5)) (defBody (top 5)) (defScope (top 5)) [] [] (ca K "inverse") fd := T.says.def_ 3 rfl
theorem Top.d_UnlikePrimes___init__ (T : Top K mg) : ∃ fd, FunD K "__init__" "UnlikePrimes.__init__" (defArgs (inClass (top 10) 0)) (defBody (inClass (top 10) 0)) (defScope (inClass (top 10) 0)) [] [] (He.ma K (ca K "UnlikePrimes") "__init__") fd := T.says.def_ 4 rfl
theorem Top.d_ZeroFilter___init__ (T : Top K mg) : ∃ fd, FunD K "__init__" "ZeroFilter.__init__" (defArgs (inClass (top 11) 0)) (defBody (inClass (top 11) 0)) (defScope (inClass (top 11) 0)) [] [] (He.ma K (ca K "ZeroFilter") "__init__") fd := T.says.def_ 5 rfl
theorem Top.d_divided (T : Top K mg) : ∃ fd, FunD K "divided" "divided" (defArgs (top 13)) (defBody (top 13)) (defScope (top 13)) [] [] (ca K "divided") fd := T.says.def_ 6 rfl
theorem Top.d_product_rest (T : Top K mg) : ∃ fd, FunD K "product_rest" "product_rest" (defArgs (top 14)) (defBody (top 14)) (defScope (top 14)) [] [] (ca K "product_rest") fd := T.says.def_ 7 rfl
theorem Top.d_shift_rest (T : Top K mg) : ∃ fd, FunD K "shift_rest" "shift_rest" (defArgs (top 15)) (defBody (top 15)) (defScope (top 15)) [] [] (ca K "shift_rest") fd := T.says.def_ 8 rfl
theorem Top.d_far_rest (T : Top K mg) : ∃ fd, FunD K "far_rest" "far_rest" (defArgs (top 16)) (defBody (top 16)) (defScope (top 16)) [] [] (ca K "far_rest") fd := T.says.def_ 9 rfl
theorem Top.d_check_primes (T : Top K mg) : ∃ fd, FunD K "check_primes" "check_primes" (defArgs (top 17)) (defBody (top 17)) (defScope (top 17)) [] [] (ca K "check_primes") fd := T.says.def_ 10 rfl
theorem Top.d_is_term (T : Top K mg) : ∃ fd, FunD K "is_term" "is_term" (defArgs (top 20)) (defBody (top 20)) (defScope (top 20)) [] [] (ca K "is_term") fd := T.says.def_ 11 rfl
theorem Top.d_divisor_of (T : Top K mg) : ∃ fd, FunD K "divisor_of" "divisor_of" (defArgs (top 21)) (defBody (top 21)) (defScope (top 21)) [] [] (ca K "divisor_of") fd := T.says.def_ 12 rfl
theorem Top.d_Filter___init__ (T : Top K mg) : ∃ fd, FunD K "__init__" "Filter.__init__" (defArgs (inClass (top 22) 0)) (defBody (inClass (top 22) 0)) (defScope (inClass (top 22) 0)) [.ref (He.dflAt ("Filter", some "__init__") 0 K)] [] (He.ma K (ca K "Filter") "__init__") fd := T.says.def_ 13 rfl
theorem Top.d_Filter___getitem__ (T : Top K mg) : ∃ fd, FunD K "__getitem__" "Filter.__getitem__" (defArgs (inClass (top 22) 2)) (defBody (inClass (top 22) 2)) (defScope (inClass (top 22) 2)) [] [] (He.ma K (ca K "Filter") "__getitem__") fd := T.says.def_ 14 rfl
theorem Top.d_Filter___bool__ (T : Top K mg) : ∃ fd, FunD K "__bool__" "Filter.__bool__" (defArgs (inClass (top 22) 4)) (defBody (inClass (top 22) 4)) (defScope (inClass (top 22) 4)) [] [] (He.ma K (ca K "Filter") "__bool__") fd := T.says.def_ 15 rfl
theorem Top.d_Filter___eq__ (T : Top K mg) : ∃ fd, FunD K "__eq__" "Filter.__eq__" (defArgs (inClass (top 22) 5)) (defBody (inClass (top 22) 5)) (defScope (inClass (top 22) 5)) [] [] (He.ma K (ca K "Filter") "__eq__") fd := T.says.def_ 16 rfl
theorem Top.d_Filter_terms (T : Top K mg) : ∃ fd, FunD K "terms" "Filter.terms" (defArgs (inClass (top 22) 7)) (defBody (inClass (top 22) 7)) (defScope (inClass (top 22) 7)) [] [] (He.ma K (ca K "Filter") "terms") fd := T.says.def_ 17 rfl
theorem Top.d_Filter_low (T : Top K mg) : ∃ fd, FunD K "low" "Filter.low" (defArgs (inClass (top 22) 8)) (defBody (inClass (top 22) 8)) (defScope (inClass (top 22) 8)) [] [] (He.ma K (ca K "Filter") "low") fd := T.says.def_ 18 rfl
theorem Top.d_Filter_high (T : Top K mg) : ∃ fd, FunD K "high" "Filter.high" (defArgs (inClass (top 22) 9)) (defBody (inClass (top 22) 9)) (defScope (inClass (top 22) 9)) [] [] (He.ma K (ca K "Filter") "high") fd := T.says.def_ 19 rfl
theorem Top.d_Filter_span (T : Top K mg) : ∃ fd, FunD K "span" "Filter.span" (defArgs (inClass (top 22) 10)) (defBody (inClass (top 22) 10)) (defScope (inClass (top 22) 10)) [] [] (He.ma K (ca K "Filter") "span") fd := T.says.def_ 20 rfl
theorem Top.d_Filter_normal (T : Top K mg) : ∃ fd, FunD K "normal" "Filter.normal" (defArgs (inClass (top 22) 11)) (defBody (inClass (top 22) 11)) (defScope (inClass (top 22) 11)) [] [] (He.ma K (ca K "Filter") "normal") fd := T.says.def_ 21 rfl
theorem Top.d_Filter___mul__ (T : Top K mg) : ∃ fd, FunD K "__mul__" "Filter.__mul__" (defArgs (inClass (top 22) 15)) (defBody (inClass (top 22) 15)) (defScope (inClass (top 22) 15)) [] [] (He.ma K (ca K "Filter") "__mul__") fd := T.says.def_ 22 rfl
theorem Top.d_Filter___mod__ (T : Top K mg) : ∃ fd, FunD K "__mod__" "Filter.__mod__" (defArgs (inClass (top 22) 18)) (defBody (inClass (top 22) 18)) (defScope (inClass (top 22) 18)) [] [] (He.ma K (ca K "Filter") "__mod__") fd := T.says.def_ 23 rfl
theorem Top.d_Filter___floordiv__ (T : Top K mg) : ∃ fd, FunD K "__floordiv__" "Filter.__floordiv__" (defArgs (inClass (top 22) 19)) (defBody (inClass (top 22) 19)) (defScope (inClass (top 22) 19)) [] [] (He.ma K (ca K "Filter") "__floordiv__") fd := T.says.def_ 24 rfl
theorem Top.d__law_spring (T : Top K mg) : ∃ fd, FunD K "_law_spring" "_law_spring" (defArgs (top 24)) (defBody (top 24)) (defScope (top 24)) [] [] (ca K "_law_spring") fd := T.says.def_ 25 rfl
theorem Top.d__law_draw (T : Top K mg) : ∃ fd, FunD K "_law_draw" "_law_draw" (defArgs (top 25)) (defBody (top 25)) (defScope (top 25)) [] [] (ca K "_law_draw") fd := T.says.def_ 26 rfl
theorem Top.d__law_pick (T : Top K mg) : ∃ fd, FunD K "_law_pick" "_law_pick" (defArgs (top 26)) (defBody (top 26)) (defScope (top 26)) [] [] (ca K "_law_pick") fd := T.says.def_ 27 rfl
theorem Top.d__law_same (T : Top K mg) : ∃ fd, FunD K "_law_same" "_law_same" (defArgs (top 27)) (defBody (top 27)) (defScope (top 27)) [] [] (ca K "_law_same") fd := T.says.def_ 28 rfl
theorem Top.d__law_held (T : Top K mg) : ∃ fd, FunD K "_law_held" "_law_held" (defArgs (top 28)) (defBody (top 28)) (defScope (top 28)) [] [] (ca K "_law_held") fd := T.says.def_ 29 rfl
theorem Top.d__law_pairs (T : Top K mg) : ∃ fd, FunD K "_law_pairs" "_law_pairs" (defArgs (top 29)) (defBody (top 29)) (defScope (top 29)) [] [] (ca K "_law_pairs") fd := T.says.def_ 30 rfl
theorem Top.d__law_plus (T : Top K mg) : ∃ fd, FunD K "_law_plus" "_law_plus" (defArgs (top 30)) (defBody (top 30)) (defScope (top 30)) [] [] (ca K "_law_plus") fd := T.says.def_ 31 rfl
theorem Top.d__law_times (T : Top K mg) : ∃ fd, FunD K "_law_times" "_law_times" (defArgs (top 31)) (defBody (top 31)) (defScope (top 31)) [] [] (ca K "_law_times") fd := T.says.def_ 32 rfl
theorem Top.d__law_drawn (T : Top K mg) : ∃ fd, FunD K "_law_drawn" "_law_drawn" (defArgs (top 32)) (defBody (top 32)) (defScope (top 32)) [] [] (ca K "_law_drawn") fd := T.says.def_ 33 rfl
theorem Top.d__law_some (T : Top K mg) : ∃ fd, FunD K "_law_some" "_law_some" (defArgs (top 33)) (defBody (top 33)) (defScope (top 33)) [] [] (ca K "_law_some") fd := T.says.def_ 34 rfl
theorem Top.d__law_made (T : Top K mg) : ∃ fd, FunD K "_law_made" "_law_made" (defArgs (top 34)) (defBody (top 34)) (defScope (top 34)) [] [] (ca K "_law_made") fd := T.says.def_ 35 rfl
theorem Top.d__law_is (T : Top K mg) : ∃ fd, FunD K "_law_is" "_law_is" (defArgs (top 35)) (defBody (top 35)) (defScope (top 35)) [] [] (ca K "_law_is") fd := T.says.def_ 36 rfl
theorem Top.d__law_prime (T : Top K mg) : ∃ fd, FunD K "_law_prime" "_law_prime" (defArgs (top 36)) (defBody (top 36)) (defScope (top 36)) [] [] (ca K "_law_prime") fd := T.says.def_ 37 rfl
theorem Top.d__law_other (T : Top K mg) : ∃ fd, FunD K "_law_other" "_law_other" (defArgs (top 37)) (defBody (top 37)) (defScope (top 37)) [] [] (ca K "_law_other") fd := T.says.def_ 38 rfl
theorem Top.d__law_tried (T : Top K mg) : ∃ fd, FunD K "_law_tried" "_law_tried" (defArgs (top 38)) (defBody (top 38)) (defScope (top 38)) [] [] (ca K "_law_tried") fd := T.says.def_ 39 rfl
theorem Top.d__law_refuses (T : Top K mg) : ∃ fd, FunD K "_law_refuses" "_law_refuses" (defArgs (top 39)) (defBody (top 39)) (defScope (top 39)) [] [] (ca K "_law_refuses") fd := T.says.def_ 40 rfl
theorem Top.d__law_far (T : Top K mg) : ∃ fd, FunD K "_law_far" "_law_far" (defArgs (top 40)) (defBody (top 40)) (defScope (top 40)) [] [] (ca K "_law_far") fd := T.says.def_ 41 rfl
theorem Top.d__law_far_right (T : Top K mg) : ∃ fd, FunD K "_law_far_right" "_law_far_right" (defArgs (top 41)) (defBody (top 41)) (defScope (top 41)) [] [] (ca K "_law_far_right") fd := T.says.def_ 42 rfl
theorem Top.d__law_shifts_right (T : Top K mg) : ∃ fd, FunD K "_law_shifts_right" "_law_shifts_right" (defArgs (top 42)) (defBody (top 42)) (defScope (top 42)) [] [] (ca K "_law_shifts_right") fd := T.says.def_ 43 rfl
theorem Top.d_law (T : Top K mg) : ∃ fd, FunD K "law" "law" (defArgs (top 43)) (defBody (top 43)) (defScope (top 43)) [] [] (ca K "law") fd := T.says.def_ 44 rfl
end
end My

namespace My
open PySem PySem.Spec L2 DL
def names : List PySem.Str := (["PRIMES", "is_integer", "is_list", "is_prime", "inverse", "SeenError", "BadPrime", "BadTerm", "UnlikePrimes", "ZeroFilter", "divided", "product_rest", "shift_rest", "far_rest", "check_primes", "NEAR", "is_term", "divisor_of", "Filter", "_law_spring", "_law_draw", "_law_pick", "_law_same", "_law_held", "_law_pairs", "_law_plus", "_law_times", "_law_drawn", "_law_some", "_law_made"] : List PySem.Str) ++ (["_law_is", "_law_prime", "_law_other", "_law_tried", "_law_refuses", "_law_far", "_law_far_right", "_law_shifts_right"] : List PySem.Str)
abbrev R : PySem.W.OpenRow := PySem.W.OpenLaw.row PySem.Challenge.rw_seenrows_k05_remainders_told
abbrev hk : PySem.W.Hook := hookN 6 fa fn cmf tf exB
def ob (s : PySem.W.SharedT) : AlN := obsN 6 fa fn cmf tf exB (HandSHeadRun.getT s)
theorem ob_eq (s : PySem.W.SharedT) : ob s = hk.obs s.abs := obsN_eq (HandSHeadRun.getT_eq s)
theorem run (w : World) : HandSHeadRun.RunEq R (PySem.W.view R.prog [43]) hk ob 9000 names w := by
  intro os
  kernel_rfl
end My

/-! the spring of draws -/
namespace DL
open PySem PySem.Spec L2
def sprJ (s c : Addr) (n : Nat) (H : Hp) : Prop := s ≠ c ∧ ∃ (cells : List Int) (r m : Int), H s = some (.lst [.ref c, .int r, .int (n : Int), .int m]) ∧ H c = some (.lst (cells.map V.int)) ∧ 0 ≤ m ∧ m < 2147483647
/-- the spring's inner list, and the tables of code objects (their names) of the defs that hold lambdas -/
abbrev SpC := Addr × List (Addr × Str)
theorem tabs_frame {T : List (Addr × Str)} {H H' : Hp} (h : LamX.Tabs T H) (f : ∀ p ∈ T, ∀ ps, H p.1 = some (.tbl ps) → H' p.1 = some (.tbl ps)) (g : ∀ b e, H b = some (.ext e) → H' b = some (.ext e)) : LamX.Tabs T H' := fun p hp => by
  obtain ⟨ps, e1, e2, e3⟩ := h p hp
  refine ⟨ps, f p hp ps e1, e2, fun pos cv z => ?_⟩
  obtain ⟨c, q1, q2⟩ := e3 pos cv z
  exact ⟨c, q1, g _ _ q2⟩
def sprW (s : Addr) (c : SpC) : Wd where
  rg a := (a = s ∨ a = c.1) ∨ a ∈ c.2.map (·.1)
  J n H := sprJ s c.1 n H ∧ LamX.Tabs c.2 H
  stable n H H' h g j := by
    obtain ⟨⟨ne, cells, r, m, h1, h2, h3⟩, t⟩ := j
    exact ⟨⟨ne, cells, r, m, by rw [h s (.inl (.inl rfl))]; exact h1, by rw [h c.1 (.inl (.inr rfl))]; exact h2, h3⟩, tabs_frame t (fun p hp ps e => by rw [h p.1 (.inr (List.mem_map.mpr ⟨p, hp, rfl⟩))]; exact e) g⟩
  there n H a j r := by
    obtain ⟨⟨ne, cells, _, m, h1, h2, h3⟩, t⟩ := j
    rcases r with (r | r) | r
    · rw [r, h1]; exact fun z => nomatch z
    · rw [r, h2]; exact fun z => nomatch z
    · obtain ⟨p, hp, e⟩ := List.mem_map.mp r
      obtain ⟨ps, q, _⟩ := t p hp
      rw [← e, q]; exact fun z => nomatch z
/-- a table that the world holds -/
theorem sprW_lam {s P : Addr} {c : SpC} {q : Str} (h : (P, q) ∈ c.2) (hu : ∀ p ∈ c.2, p.1 = P → p.2 = q) : LamW (sprW s c) P q where
  rg := .inr (List.mem_map.mpr ⟨_, h, rfl⟩)
  tab n H j := j.2 _ h
  st n H H1 j to t1 := by
    rcases to with rfl | ⟨ps, more, c', e, nc, rfl⟩
    · exact j
    obtain ⟨⟨ne, cells, r, m, h1, h2, h3⟩, t⟩ := j
    have nm : ∀ b o, H b = some o → b ≠ P → upd (upd H P (.tbl (ps ++ more))) c' (LamX.CodeO c' q) b = some o := fun b o z n => by
      rw [upd_ne (ne_of_none z nc), upd_ne n]; exact z
    refine ⟨⟨ne, cells, r, m, nm _ _ h1 fun z => ?_, nm _ _ h2 fun z => ?_, h3⟩, fun p hp => ?_⟩
    · rw [z, e] at h1; cases h1
    · rw [z, e] at h2; cases h2
    · by_cases hP : p.1 = P
      · rw [hu p hp hP, hP]; exact t1
      · obtain ⟨us, e1, e2, e3⟩ := t p hp
        refine ⟨us, nm _ _ e1 hP, e2, fun pos cv z => ?_⟩
        obtain ⟨c0, q1, q2⟩ := e3 pos cv z
        exact ⟨c0, q1, nm _ _ q2 fun w => by rw [w, e] at q2; cases q2⟩
/-- draw(spring, many): any of 0 .. many - 1 -/
def fDraw : DF := fun W ds n q _ => match ds with
  | [.hnd s, .int many] => (∃ c, W = sprW s c) ∧ 0 < many ∧ many < 1073741824 ∧ n < 1000000 ∧ ∀ k : Nat, (k : Int) < many → q (.int k) (n + 1)
  | _ => False
section
variable {X : Cx} {pos : Pos}
theorem dp_ints {K : PySem.W.Frag} {H : Hp} : ∀ ns : List Int, DpAll K H (ns.map V.int) (ns.map PyData.int)
  | [] => .nil
  | n :: ns => .cons (.int n) (dp_ints ns)
end
end DL
namespace My
open PySem PySem.Spec L2 DL
section
variable {P : Program} {w : World} {K : PySem.W.Frag} {mg : Str → Option Value} {base : Heap}
theorem sc_draw : FnScope ["_law_spring_here", "_law_many", "_law_cell", "_law_digit", "_law_mixed"] ["_law_spring_here", "_law_many"] (defScope (top 25)) := ⟨rfl, rfl, rfl, by decide +kernel, rfl, by decide +kernel, by decide +kernel⟩
theorem upd_frame {H : Hp} {a : Addr} {o : HO} {Rg : Addr → Prop} {H' : Hp} (h : ∀ b u, H b = some u → ¬ Rg b → H' b = some u) (r : Rg a ∨ H a = none) : ∀ b u, H b = some u → ¬ Rg b → (upd H' a o) b = some u := fun b u e n => by
  rw [upd_ne (fun z => ?_)]
  · exact h b u e n
  · subst z
    rcases r with r | r
    · exact n r
    · rw [r] at e; cases e
theorem if_run {b : Bool} {p q : Prop} (h1 : b = true → p) (h2 : b = false → q) : if b = true then p else q := by
  cases b with
  | true => exact h1 rfl
  | false => exact h2 rfl
theorem ixr {σ : L2.St} {H : Hp} {Q : VK} {K : PySem.W.Frag} {i : Int} {s : Addr} {xs : List V} {v : V} (h0 : σ[0]? = some (some (.ref s))) (hs : H s = some (.lst xs)) (hi : atI xs i = some v) (q : Q v H) : tOp (rIxL K) (tVar 0) (tC (.int i)) σ H Q :=
  ⟨_, h0, s, xs, i, v, rfl, rfl, SqL.of hs, hi, q⟩
theorem gsr {σ : L2.St} {H : Hp} {Q : L2.St → Hp → Prop} {i : Int} {j : Nat} {s : Addr} {xs : List V} {v : V} (h0 : σ[0]? = some (some (.ref s))) (hs : H s = some (.lst xs)) (hi : ixN xs.length i = some j) {ys : List V} (hy : xs.set j v = ys) (q : Q σ (upd H s (.lst ys))) : gSub (tVar 0) (tC (.int i)) rSetL v σ H Q :=
  ⟨_, h0, s, xs, i, j, rfl, rfl, hs, hi, by rw [hy]; exact q⟩
theorem ok__law_draw (T : Top K mg) : Sg P w K mg base "_law_draw" 1 2 fDraw [] := by
  obtain ⟨fd, FD⟩ := T.d__law_draw
  refine ⟨_, fd, ["_law_spring_here", "_law_many"], [], [], ?_, T.g__law_draw, FD.kp, FD.bindsN (fun _ _ _ _ _ _ us hl => match us, hl with | [_, _], _ => rfl), .nil, fun _ => .nil⟩
  refine FD.ok sc_draw (fun vs H Q E h => ?_) (fun cdv A outer sh H vs Q E hr h => ?_)
  · obtain ⟨W, n, G, ds, q, x, _, _, _, r, hl, _⟩ := h
    rw [← r.length, hl]; rfl
  · obtain ⟨W, n, G, ds, q, xx, le, rg, j, r, hl, hF, kq, kx⟩ := h
    have hu := hr.units
    match ds, hF, r with
    | [.hnd s, .int many], hF, .cons (.hnd _) (.cons (.int _) .nil) =>
    obtain ⟨⟨⟨c, Ts⟩, rfl⟩, m0, m1, hn, hF⟩ := hF
    obtain ⟨⟨ne, cells, rr, mm, hs, hc, hm⟩, hTs⟩ := j
    dsimp only at ne hs hc hTs
    have fin : ∀ (k : Int) (H' : Hp) (cells' : List Int) (r' m' : Int), 0 ≤ k → k < many → (∀ b u, H b = some u → ¬ (b = s ∨ b = c) → H' b = some u) → H' s = some (.lst [.ref c, .int r', .int ((n : Int) + 1), .int m']) → H' c = some (.lst (cells'.map V.int)) → 0 ≤ m' → m' < 2147483647 → Q (.int k) H' := by
      intro k H' cells' r' m' k0 k1 fr h1 h2 h3 h4
      have e : k = (k.toNat : Int) := by omega
      rw [e]
      refine kq _ H' G (.int k.toNat) (n + 1) ⟨fun a o e r => fr a o e fun z => r (.inl z), Le.refl G, fun a o e => ⟨o, ?_, rfl⟩, fun a e => .inl e⟩ ⟨⟨ne, cells', r', m', by rw [h1]; rfl, h2, h3, h4⟩, tabs_frame hTs (fun p hp ps e => fr _ _ e fun z => ?_) fun b e q => fr _ _ q fun z => ?_⟩ (.int _) (hF _ (by omega))
      rotate_right
      · rcases z with z | z
        · rw [z, hs] at q; cases q
        · rw [z, hc] at q; cases q
      rotate_right
      · rcases z with z | z
        · rw [z, hs] at e; cases e
        · rw [z, hc] at e; cases e
      refine fr a o (le.get e) fun z => ?_
      rw [rg a (.inl z)] at e; cases e
    have X := cxOf (L2.CX P w) P w K mg base ["_law_spring_here", "_law_many", "_law_cell", "_law_digit", "_law_mixed"] "_law_draw" (defScope (top 25)) (ca K "_law_draw") cdv A outer sh H E
    obtain ⟨t2, p2, h2⟩ : ∃ t2, PSs (cxOf (L2.CX P w) P w K mg base ["_law_spring_here", "_law_many", "_law_cell", "_law_digit", "_law_mixed"] "_law_draw" (defScope (top 25)) (ca K "_law_draw") cdv A outer sh H E) ((defBody (top 25)).drop 2) t2 ∧
        ∀ (D : Ends) (σ : L2.St) (H' : Hp) (cells' : List Int) (r' m' : Int), D.rt = Q → σ.length = 5 → σ[0]? = some (some (.ref s)) → σ[1]? = some (some (.int many)) → (∀ b u, H b = some u → ¬ (b = s ∨ b = c) → H' b = some u) → H' s = some (.lst [.ref c, .int r', .int ((n : Int) + 1), .int m']) → H' c = some (.lst (cells'.map V.int)) → 0 ≤ m' → m' < 2147483647 → t2 D σ H' := by
      refine ⟨_, pss_cons (ps_if (pt_cmpR op_gt (pe_ix ix_list (pv 0) pe_int (fun _ _ => rfl)) pe_int (nomark _))
          (pss_cons (ps_set (i := 3) sc_draw.nd rfl (.inl rfl) (pe_op op_mod (pe_callTy call_int1 (by rfl) T.f_int (by decide +kernel) (pa_cons (pe_ix ix_list (pv 0) pe_int (fun _ _ => rfl)) pa_nil)) (pv 1)))
            (pss_cons (ps_asg (pe_op op_fdiv (pe_ix ix_list (pv 0) pe_int (fun _ _ => rfl)) (pv 1)) (pg_sub (pv 0) pe_int set_list (by intro _; rfl)))
              (pss_one (ps_ret (pv 3))))) pss_nil)
          (pss_cons (ps_set (i := 4) sc_draw.nd rfl (.inl rfl) (pe_op op_mod (pe_callTy call_int1 (by rfl) T.f_int (by decide +kernel) (pa_cons (pe_op op_pow (pe_op op_add (pe_op op_add (pe_ix ix_list (pv 0) pe_int (fun _ _ => rfl)) (pe_op op_mul pe_int (pe_ix ix_list (pv 0) pe_int (fun _ _ => rfl)))) pe_int) pe_int) pa_nil)) pe_int))
            (pss_cons (ps_set (i := 4) sc_draw.nd rfl (.inl rfl) (pe_op op_add (pe_op op_add (pe_op op_mul (pv 4) pe_int) (pe_op op_mul (pe_op op_mul pe_int (pe_ix ix_list (pv 0) pe_int (fun _ _ => rfl))) (pe_ix ix_list (pv 0) pe_int (fun _ _ => rfl)))) pe_int))
              (pss_one (ps_ret (pe_op op_mod (pe_op op_mod (pe_callTy call_int1 (by rfl) T.f_int (by decide +kernel) (pa_cons (pe_op op_pow (pv 4) pe_int) pa_nil)) pe_int) (pv 1)))))), ?_⟩
      intro D σ H' cells' r' m' eD hl h0 h1 fr hs' hc' hm0 hm1
      refine ixr h0 hs' rfl ?_
      refine ⟨r', 0, rfl, rfl, _, rfl, ?_⟩
      have g1 : ∀ (v : V) (i : Nat), i ≠ 0 → (σ.set i (some v))[0]? = some (some (.ref s)) := fun v i hi => by rw [List.getElem?_set, if_neg hi]; exact h0
      have g2 : ∀ (v : V) (i : Nat), i ≠ 1 → (σ.set i (some v))[1]? = some (some (.int many)) := fun v i hi => by rw [List.getElem?_set, if_neg hi]; exact h1
      have g3 : ∀ (v : V) (i : Nat), i < 5 → (σ.set i (some v))[i]? = some (some v) := fun v i hi => by rw [List.getElem?_set, if_pos rfl, if_pos (by omega)]
      refine if_run (fun hb => ?_) (fun hb => ?_)
      · refine ixr h0 hs' rfl ?_
        refine .inl ⟨r', rfl, ?_⟩
        refine ⟨_, h1, _, _, rfl, rfl, m0, ?_⟩
        refine ixr (g1 _ 3 (by decide)) hs' rfl ?_
        refine ⟨_, g2 _ 3 (by decide), _, _, rfl, rfl, ⟨m0, by omega⟩, ?_⟩
        refine gsr (j := 1) (g1 _ 3 (by decide)) hs' rfl rfl ?_
        refine ⟨_, g3 _ 3 (by decide), ?_⟩
        show D.rt _ _
        rw [eD]
        exact fin _ _ cells' (r' / many) m' (Int.emod_nonneg _ (by omega)) (Int.emod_lt_of_pos _ m0) (upd_frame fr (.inl (.inl rfl))) upd_same (by rw [upd_ne (Ne.symm ne)]; exact hc') hm0 hm1
      · refine ixr h0 hs' rfl ?_
        refine ixr h0 hs' rfl ?_
        refine ⟨_, _, rfl, rfl, .inl (by decide), ?_⟩
        refine ⟨_, _, rfl, rfl, ?_⟩
        refine ⟨_, _, rfl, rfl, ?_⟩
        refine ⟨_, _, rfl, rfl, ⟨by decide, by decide, by omega⟩, ?_⟩
        refine .inl ⟨_, rfl, ?_⟩
        refine ⟨_, _, rfl, rfl, (show (0 : Int) < 2147483629 by decide), ?_⟩
        have q0 := Int.emod_nonneg ((m' + 7919 * ((n : Int) + 1) + 104729) ^ Int.toNat 5) (show (2147483629 : Int) ≠ 0 by decide)
        have q1 := Int.emod_lt_of_pos ((m' + 7919 * ((n : Int) + 1) + 104729) ^ Int.toNat 5) (show (0 : Int) < 2147483629 by decide)
        generalize (m' + 7919 * ((n : Int) + 1) + 104729) ^ Int.toNat 5 % 2147483629 = mx at q0 q1 ⊢
        refine ⟨_, g3 _ 4 (by decide), ?_⟩
        refine ⟨_, _, rfl, rfl, .inr (by decide), ?_⟩
        refine ixr (g1 _ 4 (by decide)) hs' rfl ?_
        refine ⟨_, _, rfl, rfl, .inl (by decide), ?_⟩
        refine ixr (g1 _ 4 (by decide)) hs' rfl ?_
        refine ⟨_, _, rfl, rfl, .inr (by omega), ?_⟩
        refine ⟨_, _, rfl, rfl, ?_⟩
        refine ⟨_, _, rfl, rfl, ?_⟩
        have w0 : 0 ≤ 40503 * ((n : Int) + 1) * ((n : Int) + 1) := Int.mul_nonneg (by omega) (by omega)
        have w1 : 40503 * ((n : Int) + 1) * ((n : Int) + 1) ≤ 40503 * 1000000 * 1000000 := Int.mul_le_mul (by omega) (by omega) (by omega) (by omega)
        generalize 40503 * ((n : Int) + 1) * ((n : Int) + 1) = ww at w0 w1 ⊢
        have e4 : ∀ v u : V, ((σ.set 4 (some v)).set 4 (some u))[4]? = some (some u) := fun v u => by rw [List.getElem?_set, if_pos rfl, if_pos (by rw [List.length_set]; omega)]
        have e1 : ∀ v u : V, ((σ.set 4 (some v)).set 4 (some u))[1]? = some (some (.int many)) := fun v u => by rw [List.getElem?_set, if_neg (by decide)]; exact g2 _ 4 (by decide)
        refine ⟨_, e4 _ _, ?_⟩
        refine ⟨_, _, rfl, rfl, ⟨by decide, by decide, by omega⟩, ?_⟩
        refine .inl ⟨_, rfl, ?_⟩
        refine ⟨_, _, rfl, rfl, (show (0 : Int) < 1000000007 by decide), ?_⟩
        refine ⟨_, e1 _ _, ?_⟩
        refine ⟨_, _, rfl, rfl, m0, ?_⟩
        show D.rt _ _
        rw [eD]
        exact fin _ _ cells' r' m' (Int.emod_nonneg _ (by omega)) (Int.emod_lt_of_pos _ m0) fr hs' hc' hm0 hm1
    refine ⟨_, pss_cons (ps_asg (pe_op op_add (pe_ix ix_list (pv 0) pe_int (fun _ _ => rfl)) pe_int) (pg_sub (pv 0) pe_int set_list (by intro _; rfl)))
      (pss_cons (ps_if (PW.pt (pw_and (pt_cmpR (op_eqD hu) (pe_ix ix_list (pv 0) pe_int (fun _ _ => rfl)) pe_int (nomark _)) (pw_and1 (pt_cmpR (op_neD hu) (pe_ix ix_list (pv 0) pe_int (fun _ _ => rfl)) (pe_lst pa_nil) (nomark _)))))
        (pss_cons (ps_set (i := 2) sc_draw.nd rfl (.inl rfl) (pe_bm PySem.F.plainAttrs_list PySem.F.slot_list_pop PySem.F.type_list_pop mt_popAt (pe_ix ix_list (pv 0) pe_int (fun _ _ => rfl)) (pa_cons pe_int pa_nil)))
          (pss_cons (ps_asg (pe_op op_mod (pe_callTy call_int1 (by rfl) T.f_int (by decide +kernel) (pa_cons (pe_op op_add (pe_op op_add (pe_op op_mul (pe_ix ix_list (pv 0) pe_int (fun _ _ => rfl)) pe_int) (pv 2)) pe_int) pa_nil)) pe_int) (pg_sub (pv 0) pe_int set_list (by intro _; rfl)))
            (pss_one (ps_if (pt_cmpR op_ge (pv 2) (pe_op op_pow pe_int pe_int) (nomark _)) (pss_one (ps_asg (pv 2) (pg_sub (pv 0) pe_int set_list (by intro _; rfl)))) pss_nil)))) pss_nil)
        p2), ?_⟩
    refine ixr rfl hs rfl ?_
    refine ⟨_, _, rfl, rfl, ?_⟩
    refine gsr (j := 2) rfl hs rfl (ys := [.ref c, .int rr, .int ((n : Int) + 1), .int mm]) rfl ?_
    have fr1 : ∀ b u, H b = some u → ¬ (b = s ∨ b = c) → (upd H s (.lst [.ref c, .int rr, .int ((n : Int) + 1), .int mm])) b = some u := upd_frame (fun b u e _ => e) (.inl (.inl rfl))
    have hs1 : (upd H s (.lst [.ref c, .int rr, .int ((n : Int) + 1), .int mm])) s = some (.lst [.ref c, .int rr, .int ((n : Int) + 1), .int mm]) := upd_same
    have hc1 : (upd H s (.lst [.ref c, .int rr, .int ((n : Int) + 1), .int mm])) c = some (.lst (cells.map V.int)) := by rw [upd_ne (Ne.symm ne)]; exact hc
    revert fr1 hs1 hc1
    generalize (upd H s (.lst [.ref c, .int rr, .int ((n : Int) + 1), .int mm])) = H1
    intro fr1 hs1 hc1
    refine ixr rfl hs1 rfl ?_
    refine ⟨_, _, .int _, .int _, rfl, rfl, _, rfl, ?_⟩
    refine if_run (fun hb => ?_) (fun hb => ?_)
    · refine ixr rfl hs1 rfl ?_
      refine ⟨Nat.zero_le _, fun p np => ?_⟩
      have pc : p ≠ c := fun z => by rw [z, hc1] at np; cases np
      have ps : p ≠ s := fun z => by rw [z, hs1] at np; cases np
      have hs2 : (upd H1 p (.lst [])) s = some (.lst [.ref c, .int rr, .int ((n : Int) + 1), .int mm]) := by rw [upd_ne (Ne.symm ps)]; exact hs1
      have hc2 : (upd H1 p (.lst [])) c = some (.lst (cells.map V.int)) := by rw [upd_ne (Ne.symm pc)]; exact hc1
      have fr2 : ∀ b u, H b = some u → ¬ (b = s ∨ b = c) → (upd H1 p (.lst [])) b = some u := fun b u e nb => by
        rw [upd_ne (fun z => by rw [z] at e nb; rw [fr1 p u e nb] at np; cases np)]
        exact fr1 b u e nb
      refine ⟨_, _, .lst (SqL.of hc2) (dp_ints cells), .lst (SqL.of upd_same) .nil, PySem.W.ke_shaped_ints cells, rfl, _, rfl, ?_⟩
      refine if_run (fun hb2 => ?_) (fun hb2 => ?_)
      · cases cells with
        | nil => exact nomatch hb2
        | cons x cells =>
          refine ixr rfl hs2 rfl ⟨.inl ⟨rfl, _, SqL.of hc2⟩, ?_⟩
          refine ⟨c, _, 0, 0, .int x, rfl, rfl, hc2, by decide, by decide, (ixN_seq (j := 0) (by unfold ixN; rw [if_pos (by decide), if_pos (by rw [List.length_map, List.length_cons]; omega)]; rfl)).1, rfl, ?_⟩
          have hs3 : (upd (upd H1 p (.lst [])) c (.lst (cells.map V.int))) s = some (.lst [.ref c, .int rr, .int ((n : Int) + 1), .int mm]) := by rw [upd_ne ne]; exact hs2
          have hc3 : (upd (upd H1 p (.lst [])) c (.lst (cells.map V.int))) c = some (.lst (cells.map V.int)) := upd_same
          have fr3 := upd_frame (o := .lst (cells.map V.int)) (a := c) (Rg := fun b => b = s ∨ b = c) fr2 (.inl (.inr rfl))
          show tSeq _ _ _ _ (upd (upd H1 p (.lst [])) c (.lst (cells.map V.int)))
          revert hs3 hc3 fr3
          generalize (upd (upd H1 p (.lst [])) c (.lst (cells.map V.int))) = H3
          intro hs3 hc3 fr3
          refine ixr rfl hs3 rfl ?_
          refine ⟨_, _, rfl, rfl, .inr (by decide), ?_⟩
          refine ⟨_, rfl, _, _, rfl, rfl, ?_⟩
          refine ⟨_, _, rfl, rfl, ?_⟩
          refine .inl ⟨_, rfl, ?_⟩
          refine ⟨_, _, rfl, rfl, (show (0 : Int) < 2147483647 by decide), ?_⟩
          refine gsr (j := 3) rfl hs3 rfl rfl ?_
          have q0 := Int.emod_nonneg (mm * 4099 + x + 13) (show (2147483647 : Int) ≠ 0 by decide)
          have q1 := Int.emod_lt_of_pos (mm * 4099 + x + 13) (show (0 : Int) < 2147483647 by decide)
          refine ⟨_, rfl, ?_⟩
          refine ⟨_, _, rfl, rfl, ⟨by decide, by decide, by decide⟩, ?_⟩
          refine ⟨_, _, rfl, rfl, _, rfl, ?_⟩
          refine if_run (fun hb3 => ?_) (fun hb3 => ?_)
          · refine ⟨_, rfl, ?_⟩
            refine gsr (j := 1) rfl upd_same rfl rfl ?_
            exact h2 _ _ _ cells x _ rfl rfl rfl rfl (upd_frame (upd_frame fr3 (.inl (.inl rfl))) (.inl (.inl rfl))) upd_same (by rw [upd_ne (Ne.symm ne), upd_ne (Ne.symm ne)]; exact hc3) q0 q1
          · exact h2 _ _ _ cells rr _ rfl rfl rfl rfl (upd_frame fr3 (.inl (.inl rfl))) upd_same (by rw [upd_ne (Ne.symm ne)]; exact hc3) q0 q1
      · exact h2 _ _ _ cells rr mm rfl rfl rfl rfl fr2 hs2 hc2 hm.1 hm.2
    · exact h2 _ _ _ cells rr mm rfl rfl rfl rfl fr1 hs1 hc1 hm.1 hm.2
end
end My

namespace My
open PySem PySem.Spec L2 DL
theorem cs_Filter : ("Filter" : Str) ∈ CS := by decide +kernel
theorem own_Filter : (∀ c, Ty.own "Filter" = .own c → c ∈ CS) ↔ True := ⟨fun _ => trivial, fun _ c e => by cases e; exact cs_Filter⟩
theorem isOb_Filter (s : String) : isaO sub "Filter" (.b s) = false := rfl
theorem mem_Filter : ("Filter" : Str) ∈ (["Filter"] : List Str) ↔ True := ⟨fun _ => trivial, fun _ => List.mem_singleton_self _⟩
theorem isO_Filter_Filter : isaO sub "Filter" (.own "Filter") = true := by decide +kernel
end My

namespace My
open PySem PySem.Spec L2 DL
section
variable {P : Program} {w : World} {K : PySem.W.Frag} {mg : Str → Option Value} {base : Heap}
theorem sc__law_tried : FnScope ["_law_ask"] ["_law_ask"] (defScope (top 38)) := ⟨rfl, rfl, rfl, by decide +kernel, rfl, by decide +kernel, by decide +kernel⟩
theorem sc_ZeroFilter___init__ : FnScope ["self"] ["self"] (defScope (inClass (top 11) 0)) := ⟨rfl, rfl, rfl, by decide +kernel, rfl, by decide +kernel, by decide +kernel⟩
theorem xg_ZeroFilter (T : Top K mg) : Xg P w K mg base "ZeroFilter" (spX0 K "ZeroFilter") 1 := by
  obtain ⟨fd, FD⟩ := T.d_ZeroFilter___init__
  refine ⟨excB_ok T.x_ZeroFilter, T.g_ZeroFilter, fd, ["self"], rfl, ?_, FD.bindsN (fun _ _ _ _ _ _ us hl => match us, hl with | [_], _ => rfl)⟩
  refine FD.ok sc_ZeroFilter___init__ (fun vs H Q E h => ?_) (fun cdv A outer sh H vs Q E hr h => ?_)
  · obtain ⟨a, rfl, _⟩ := h
    rfl
  · obtain ⟨a, rfl, ha, hq⟩ := h
    refine ⟨_, pss_one (ps_expr (pe_seinit T.base (by rfl) T.g_SeenError (pa_cons (pv 0) (pa_cons pe_str pa_nil)))), ?_⟩
    exact ⟨_, rfl, a, _, _, rfl, by show 1 ≤ 1000; decide, (excB_ok T.x_ZeroFilter).oex, ha, hq⟩
theorem sc_UnlikePrimes___init__ : FnScope ["self"] ["self"] (defScope (inClass (top 10) 0)) := ⟨rfl, rfl, rfl, by decide +kernel, rfl, by decide +kernel, by decide +kernel⟩
theorem xg_UnlikePrimes (T : Top K mg) : Xg P w K mg base "UnlikePrimes" (spX0 K "UnlikePrimes") 1 := by
  obtain ⟨fd, FD⟩ := T.d_UnlikePrimes___init__
  refine ⟨excB_ok T.x_UnlikePrimes, T.g_UnlikePrimes, fd, ["self"], rfl, ?_, FD.bindsN (fun _ _ _ _ _ _ us hl => match us, hl with | [_], _ => rfl)⟩
  refine FD.ok sc_UnlikePrimes___init__ (fun vs H Q E h => ?_) (fun cdv A outer sh H vs Q E hr h => ?_)
  · obtain ⟨a, rfl, _⟩ := h
    rfl
  · obtain ⟨a, rfl, ha, hq⟩ := h
    refine ⟨_, pss_one (ps_expr (pe_seinit T.base (by rfl) T.g_SeenError (pa_cons (pv 0) (pa_cons pe_str pa_nil)))), ?_⟩
    exact ⟨_, rfl, a, _, _, rfl, by show 1 ≤ 1000; decide, (excB_ok T.x_UnlikePrimes).oex, ha, hq⟩
end
end My


namespace My
abbrev Tm := List (Int × Int)
def getI (m : Tm) (k : Int) : Int := ((m.find? fun t => decide (t.1 = k)).map (·.2)).getD 0
def putI (m : Tm) (k v : Int) : Tm := if m.any fun t => decide (t.1 = k) then m.map fun t => if t.1 = k then (t.1, v) else t else m ++ [(k, v)]
def hstep (p : Int) (m : Tm) (t : Int × Int) : Tm := putI m t.1 ((getI m t.1 + t.2) % p)
def hsum (p : Int) (ts : Tm) : Tm := ts.foldl (hstep p) []
def srt (ks : List Int) : List Int := ks.mergeSort (fun a b => decide (a ≤ b))
def canon (p : Int) (ts : Tm) : Tm := ((srt ((hsum p ts).map (·.1))).filter fun k => decide (0 < getI (hsum p ts) k)).map fun k => (k, getI (hsum p ts) k)
def prods (ts us : Tm) : Tm := ts.flatMap fun t => us.map fun u => (t.1 + u.1, t.2 * u.2)
def mulF (p : Int) (ts us : Tm) : Tm := canon p (hsum p (prods ts us))
def powF (p : Int) (ts : Tm) : Nat → Tm
  | 0 => canon p [(0, 1)]
  | k + 1 => mulF p (powF p ts k) ts
def isPr (p : Int) : Bool := [2, 3, 5, 7].contains p
/-! the plain law -/
theorem sorted_unique : ∀ {l m : List Int}, l.Perm m → l.Pairwise (· ≤ ·) → m.Pairwise (· ≤ ·) → l = m
  | [], m, h, _, _ => (List.nil_perm.mp h).symm
  | a :: l, m, h, s, t => by
    cases m with
    | nil => exact (List.perm_nil.mp h)
    | cons b m =>
      have e : a = b := by
        rw [List.pairwise_cons] at s t
        have h1 : a ∈ b :: m := h.subset (List.mem_cons_self ..)
        have h2 : b ∈ a :: l := h.symm.subset (List.mem_cons_self ..)
        rcases List.mem_cons.mp h1 with e | h1
        · exact e
        · rcases List.mem_cons.mp h2 with e | h2
          · exact e.symm
          · have := s.1 b h2; have := t.1 a h1; omega
      subst e
      rw [List.pairwise_cons] at s t
      rw [sorted_unique (List.Perm.cons_inv h) s.2 t.2]
theorem srt_perm (ks : List Int) : (srt ks).Perm ks := List.mergeSort_perm _ _
theorem srt_sorted (ks : List Int) : (srt ks).Pairwise (· ≤ ·) := by
  have h := List.pairwise_mergeSort (le := fun a b : Int => decide (a ≤ b)) (fun a b c h1 h2 => by simp at *; omega) (fun a b => by simp; omega) ks
  exact h.imp (fun h => by simpa using h)
theorem srt_of {ks ms : List Int} (h : ms.Perm ks) (s : ms.Pairwise (· ≤ ·)) : ms = srt ks := sorted_unique (h.trans (srt_perm ks).symm) s (srt_sorted ks)
def csum (ts : Tm) (x : Int) : Int := ((ts.filter fun t => decide (t.1 = x)).map (·.2)).sum
theorem csum_cons (t : Int × Int) (ts : Tm) (x : Int) : csum (t :: ts) x = (if t.1 = x then t.2 else 0) + csum ts x := by
  unfold csum
  rw [List.filter_cons]
  by_cases h : t.1 = x
  · simp [h]
  · simp [h]
theorem csum_nil (x : Int) : csum [] x = 0 := rfl
theorem csum_append (a b : Tm) (x : Int) : csum (a ++ b) x = csum a x + csum b x := by
  induction a with
  | nil => simp [csum_nil]
  | cons t a ih => rw [List.cons_append, csum_cons, csum_cons, ih]; omega
theorem getI_nil (k : Int) : getI [] k = 0 := rfl
theorem getI_cons (t : Int × Int) (m : Tm) (k : Int) : getI (t :: m) k = if t.1 = k then t.2 else getI m k := by
  unfold getI
  rw [List.find?_cons]
  by_cases h : t.1 = k <;> simp [h]
theorem getI_out {m : Tm} {k : Int} (h : k ∉ m.map (·.1)) : getI m k = 0 := by
  induction m with
  | nil => rfl
  | cons t m ih =>
    rw [List.map_cons, List.mem_cons] at h
    rw [getI_cons, if_neg (fun z => h (.inl z.symm)), ih (fun z => h (.inr z))]
theorem any_iff (m : Tm) (k : Int) : (m.any fun t => decide (t.1 = k)) = true ↔ k ∈ m.map (·.1) := by
  rw [List.any_eq_true, List.mem_map]
  constructor
  · rintro ⟨t, h1, h2⟩; exact ⟨t, h1, by simpa using h2⟩
  · rintro ⟨t, h1, h2⟩; exact ⟨t, h1, by simpa using h2⟩
theorem putI_keys (m : Tm) (k v : Int) : (putI m k v).map (·.1) = if k ∈ m.map (·.1) then m.map (·.1) else m.map (·.1) ++ [k] := by
  unfold putI
  by_cases h : k ∈ m.map (·.1)
  · rw [if_pos h, if_pos ((any_iff m k).mpr h), List.map_map]
    refine List.map_congr_left fun t _ => ?_
    show (if t.1 = k then (t.1, v) else t).1 = t.1
    split <;> rfl
  · rw [if_neg h, if_neg (fun z => h ((any_iff m k).mp z)), List.map_append]
    rfl
theorem getI_map (k v j : Int) : ∀ m : Tm, getI (m.map fun t => if t.1 = k then (t.1, v) else t) j = if j = k then (if k ∈ m.map (·.1) then v else 0) else getI m j
  | [] => by simp [getI_nil]
  | t :: m => by
    rw [List.map_cons, getI_cons, getI_map k v j m, getI_cons]
    by_cases h : t.1 = k
    · rw [if_pos h]
      by_cases hj : j = k
      · subst hj
        simp [h]
      · rw [if_neg hj, if_neg hj]
        have hk : ¬ k = j := fun z => hj z.symm
        simp [h, hk]
    · rw [if_neg h]
      by_cases hj : j = k
      · subst hj
        have h' : ¬ j = t.1 := fun z => h z.symm
        rw [if_neg h, if_pos rfl, if_pos rfl]
        simp only [List.map_cons, List.mem_cons, h', false_or]
      · rw [if_neg hj, if_neg hj]
theorem getI_snoc (k v j : Int) : ∀ m : Tm, k ∉ m.map (·.1) → getI (m ++ [(k, v)]) j = if j = k then v else getI m j
  | [], _ => by
    rw [List.nil_append, getI_cons, getI_nil]
    by_cases h : j = k
    · simp [h]
    · have h' : ¬ k = j := fun z => h z.symm
      simp [h, h']
  | t :: m, h => by
    rw [List.map_cons, List.mem_cons] at h
    rw [List.cons_append, getI_cons, getI_cons, getI_snoc k v j m (fun z => h (.inr z))]
    by_cases hj : j = k
    · have h' : ¬ t.1 = j := fun z => h (.inl (by rw [z, hj]))
      rw [if_neg h', if_pos hj, if_pos hj]
    · rw [if_neg hj, if_neg hj]
theorem getI_put (m : Tm) (k v j : Int) : getI (putI m k v) j = if j = k then v else getI m j := by
  unfold putI
  by_cases h : k ∈ m.map (·.1)
  · rw [if_pos ((any_iff m k).mpr h), getI_map, if_pos h]
  · rw [if_neg (fun z => h ((any_iff m k).mp z)), getI_snoc k v j m h]
theorem putI_nodup {m : Tm} (h : (m.map (·.1)).Nodup) (k v : Int) : ((putI m k v).map (·.1)).Nodup := by
  rw [putI_keys]
  split
  · exact h
  · rename_i hk
    rw [List.nodup_append]
    exact ⟨h, List.nodup_cons.mpr ⟨List.not_mem_nil, List.nodup_nil⟩, fun a ha b hb z => by
      rw [List.mem_singleton] at hb
      rw [z, hb] at ha
      exact hk ha⟩
theorem putI_length (m : Tm) (k v : Int) : (putI m k v).length ≤ m.length + 1 := by
  unfold putI
  split <;> simp
theorem fold_nodup (p : Int) : ∀ (ts m : Tm), (m.map (·.1)).Nodup → ((ts.foldl (hstep p) m).map (·.1)).Nodup
  | [], m, h => h
  | t :: ts, m, h => fold_nodup p ts _ (putI_nodup h _ _)
theorem fold_length (p : Int) : ∀ (ts m : Tm), (ts.foldl (hstep p) m).length ≤ m.length + ts.length
  | [], m => by simp
  | t :: ts, m => by
    have h1 := fold_length p ts (hstep p m t)
    have h2 := putI_length m t.1 ((getI m t.1 + t.2) % p)
    rw [List.foldl_cons, List.length_cons]
    unfold hstep at h1 ⊢
    omega
theorem fold_get (p : Int) : ∀ (ts m : Tm) (k : Int), (ts.foldl (hstep p) m |> fun r => getI r k) % p = (getI m k + csum ts k) % p
  | [], m, k => by simp [csum_nil]
  | t :: ts, m, k => by
    have ih := fold_get p ts (hstep p m t) k
    show getI (ts.foldl (hstep p) (hstep p m t)) k % p = _
    have ih : getI (ts.foldl (hstep p) (hstep p m t)) k % p = (getI (hstep p m t) k + csum ts k) % p := ih
    rw [ih, csum_cons]
    unfold hstep
    rw [getI_put]
    by_cases h : k = t.1
    · rw [if_pos h, if_pos h.symm, h, Int.emod_add_emod, Int.add_assoc]
    · rw [if_neg h, if_neg (fun z => h z.symm), Int.zero_add]
theorem fold_small {p : Int} (hp : 0 < p) : ∀ (ts m : Tm), (∀ k, 0 ≤ getI m k ∧ getI m k < p) → ∀ k, 0 ≤ getI (ts.foldl (hstep p) m) k ∧ getI (ts.foldl (hstep p) m) k < p
  | [], m, h => h
  | t :: ts, m, h => fold_small hp ts _ fun k => by
    unfold hstep
    rw [getI_put]
    split
    · exact ⟨Int.emod_nonneg _ (by omega), Int.emod_lt_of_pos _ hp⟩
    · exact h k
theorem hsum_get {p : Int} (hp : 0 < p) (ts : Tm) (k : Int) : getI (hsum p ts) k = csum ts k % p := by
  have h1 := fold_get p ts [] k
  have h2 := fold_small hp ts [] (fun k => ⟨by rw [getI_nil]; omega, by rw [getI_nil]; omega⟩) k
  have h1 : getI (hsum p ts) k % p = (getI [] k + csum ts k) % p := h1
  rw [getI_nil, Int.zero_add] at h1
  rw [← h1]
  exact (Int.emod_eq_of_lt h2.1 h2.2).symm
theorem hsum_nodup (p : Int) (ts : Tm) : ((hsum p ts).map (·.1)).Nodup := fold_nodup p ts [] List.nodup_nil
theorem hsum_length (p : Int) (ts : Tm) : (hsum p ts).length ≤ ts.length := by
  have := fold_length p ts []
  simpa [hsum] using this
theorem canon_sorted (p : Int) (ts : Tm) : ((canon p ts).map (·.1)).Pairwise (· < ·) := by
  unfold canon
  rw [List.map_map]
  have e : ((fun t : Int × Int => t.1) ∘ fun k => (k, getI (hsum p ts) k)) = id := rfl
  rw [e, List.map_id]
  refine List.Pairwise.sublist List.filter_sublist ?_
  have h1 := srt_sorted ((hsum p ts).map (·.1))
  have h2 : (srt ((hsum p ts).map (·.1))).Pairwise (· ≠ ·) := (srt_perm _).symm.nodup (hsum_nodup p ts)
  exact List.Pairwise.imp (fun ⟨a, b⟩ => by omega) (List.Pairwise.and h1 h2)
theorem canon_nodup (p : Int) (ts : Tm) : ((canon p ts).map (·.1)).Nodup := (canon_sorted p ts).imp (fun h => by omega)
theorem canon_mem {p : Int} (hp : 0 < p) (ts : Tm) (k v : Int) : (k, v) ∈ canon p ts ↔ v = csum ts k % p ∧ 0 < v := by
  unfold canon
  rw [List.mem_map]
  constructor
  · rintro ⟨a, h1, h2⟩
    rw [List.mem_filter] at h1
    cases h2
    exact ⟨hsum_get hp ts k, by simpa using h1.2⟩
  · rintro ⟨rfl, h⟩
    refine ⟨k, ?_, by rw [hsum_get hp]⟩
    rw [List.mem_filter, (srt_perm _).mem_iff]
    refine ⟨?_, by rw [hsum_get hp]; simpa using h⟩
    by_cases z : k ∈ (hsum p ts).map (·.1)
    · exact z
    · have := getI_out z
      rw [hsum_get hp] at this
      omega
theorem canon_length (p : Int) (ts : Tm) : (canon p ts).length ≤ ts.length := by
  unfold canon
  rw [List.length_map]
  refine Nat.le_trans (List.length_filter_le _ _) ?_
  rw [(srt_perm _).length_eq, List.length_map]
  exact hsum_length p ts
theorem pair_ext : ∀ {l m : Tm}, (l.map (·.1)).Pairwise (· < ·) → (m.map (·.1)).Pairwise (· < ·) → (∀ k v, (k, v) ∈ l ↔ (k, v) ∈ m) → l = m
  | [], m, _, _, h => by
    cases m with
    | nil => rfl
    | cons b m => exact absurd ((h b.1 b.2).mpr (List.mem_cons_self ..)) List.not_mem_nil
  | a :: l, m, s, t, h => by
    cases m with
    | nil => exact absurd ((h a.1 a.2).mp (List.mem_cons_self ..)) List.not_mem_nil
    | cons b m =>
      rw [List.map_cons, List.pairwise_cons] at s t
      have e : a = b := by
        have h1 := (h a.1 a.2).mp (List.mem_cons_self ..)
        have h2 := (h b.1 b.2).mpr (List.mem_cons_self ..)
        rcases List.mem_cons.mp h1 with e | h1
        · exact e
        · rcases List.mem_cons.mp h2 with e | h2
          · exact e.symm
          · have := s.1 b.1 (List.mem_map.mpr ⟨_, h2, rfl⟩)
            have := t.1 a.1 (List.mem_map.mpr ⟨_, h1, rfl⟩)
            omega
      subst e
      rw [pair_ext s.2 t.2 fun k v => ?_]
      constructor
      · intro z
        rcases List.mem_cons.mp ((h k v).mp (List.mem_cons_of_mem _ z)) with e | z'
        · have := s.1 k (List.mem_map.mpr ⟨_, z, rfl⟩)
          rw [← e] at this
          exact absurd this (by simp)
        · exact z'
      · intro z
        rcases List.mem_cons.mp ((h k v).mpr (List.mem_cons_of_mem _ z)) with e | z'
        · have := t.1 k (List.mem_map.mpr ⟨_, z, rfl⟩)
          rw [← e] at this
          exact absurd this (by simp)
        · exact z'
theorem canon_ext {p : Int} (hp : 0 < p) {ts us : Tm} (h : ∀ x, csum ts x % p = csum us x % p) : canon p ts = canon p us :=
  pair_ext (canon_sorted p ts) (canon_sorted p us) fun k v => by rw [canon_mem hp, canon_mem hp, h k]
theorem csum_get : ∀ {m : Tm}, (m.map (·.1)).Nodup → ∀ k, csum m k = getI m k
  | [], _, k => rfl
  | t :: m, h, k => by
    rw [List.map_cons, List.nodup_cons] at h
    rw [csum_cons, getI_cons, csum_get h.2 k]
    by_cases e : t.1 = k
    · rw [if_pos e, if_pos e, getI_out (e ▸ h.1)]; omega
    · rw [if_neg e, if_neg e]; omega
theorem csum_hsum {p : Int} (hp : 0 < p) (ts : Tm) (x : Int) : csum (hsum p ts) x = csum ts x % p := by rw [csum_get (hsum_nodup p ts), hsum_get hp]
theorem getI_mem : ∀ {m : Tm} {k v : Int}, (m.map (·.1)).Nodup → (k, v) ∈ m → getI m k = v
  | t :: m, k, v, h, hm => by
    rw [List.map_cons, List.nodup_cons] at h
    rw [getI_cons]
    rcases List.mem_cons.mp hm with e | hm
    · rw [← e, if_pos rfl]
    · have : ¬ t.1 = k := fun z => h.1 (z ▸ List.mem_map.mpr ⟨_, hm, rfl⟩)
      rw [if_neg this]
      exact getI_mem h.2 hm
theorem csum_canon {p : Int} (hp : 0 < p) (ts : Tm) (x : Int) : csum (canon p ts) x = csum ts x % p := by
  rw [csum_get (canon_nodup p ts)]
  by_cases h : 0 < csum ts x % p
  · exact getI_mem (canon_nodup p ts) ((canon_mem hp ts x _).mpr ⟨rfl, h⟩)
  · have h0 := Int.emod_nonneg (csum ts x) (show p ≠ 0 by omega)
    have e : csum ts x % p = 0 := by omega
    rw [e]
    refine getI_out fun z => ?_
    obtain ⟨⟨k, v⟩, hm, rfl⟩ := List.mem_map.mp z
    obtain ⟨h1, h2⟩ := (canon_mem hp ts k v).mp hm
    have e : csum ts k % p = 0 := e
    omega
theorem canon_canon {p : Int} (hp : 0 < p) (ts : Tm) : canon p (canon p ts) = canon p ts := canon_ext hp fun x => by rw [csum_canon hp, Int.emod_emod_of_dvd _ (Int.dvd_refl p)]
theorem canon_hsum {p : Int} (hp : 0 < p) (ts : Tm) : canon p (hsum p ts) = canon p ts := canon_ext hp fun x => by rw [csum_hsum hp, Int.emod_emod_of_dvd _ (Int.dvd_refl p)]
theorem prods_cons (t : Int × Int) (ts us : Tm) : prods (t :: ts) us = (us.map fun u => (t.1 + u.1, t.2 * u.2)) ++ prods ts us := rfl
theorem prods_snd (u : Int × Int) (us : Tm) (x : Int) : ∀ ts : Tm, csum (prods ts (u :: us)) x = csum (ts.map fun t => (u.1 + t.1, u.2 * t.2)) x + csum (prods ts us) x
  | [] => by simp [prods, csum_nil]
  | t :: ts => by
    rw [prods_cons, prods_cons, List.map_cons, List.map_cons, List.cons_append, csum_cons, csum_append, csum_cons, csum_append, prods_snd u us x ts, Int.add_comm t.1 u.1, Int.mul_comm t.2 u.2]
    simp only []
    omega
theorem prods_comm (x : Int) : ∀ ts us : Tm, csum (prods ts us) x = csum (prods us ts) x
  | [], us => by
    have : prods us [] = [] := by induction us with
      | nil => rfl
      | cons u us ih => rw [prods_cons, ih]; rfl
    rw [this]; rfl
  | t :: ts, us => by rw [prods_cons, csum_append, prods_snd, prods_comm x ts us]
theorem mulF_eq {p : Int} (hp : 0 < p) (ts us : Tm) : mulF p ts us = canon p (prods ts us) := canon_hsum hp _
theorem mulF_comm {p : Int} (hp : 0 < p) (ts us : Tm) : mulF p us ts = canon p (prods ts us) := by rw [mulF_eq hp]; exact canon_ext hp fun x => by rw [prods_comm]
theorem prods_length (ts us : Tm) : (prods ts us).length = ts.length * us.length := by
  induction ts with
  | nil => simp [prods]
  | cons t ts ih => rw [prods_cons, List.length_append, List.length_map, ih, List.length_cons, Nat.succ_mul]; omega
theorem isPr_cases {p : Int} (h : isPr p = true) : p = 2 ∨ p = 3 ∨ p = 5 ∨ p = 7 := by simpa [isPr] using h
theorem isPr_pos {p : Int} (h : isPr p = true) : 0 < p ∧ p < 10 := by rcases isPr_cases h with h | h | h | h <;> omega
theorem canon_one {p : Int} (h : isPr p = true) : canon p [(0, 1)] = [(0, 1)] := by
  have hp := isPr_pos h
  have h1 : (1 : Int) % p = 1 := by rcases isPr_cases h with h | h | h | h <;> subst h <;> decide
  refine pair_ext (canon_sorted p _) (by simp) fun k v => ?_
  rw [canon_mem hp.1, csum_cons, csum_nil]
  by_cases e : (0 : Int) = k
  · subst e
    simp [h1]
    omega
  · have e' : ¬ k = 0 := fun z => e z.symm
    simp [e, e']
    omega
theorem canon_small {p : Int} (hp : 0 < p) (ts : Tm) : ∀ t ∈ canon p ts, 0 < t.2 ∧ t.2 < p := by
  rintro ⟨k, v⟩ h
  obtain ⟨rfl, h2⟩ := (canon_mem hp ts k v).mp h
  exact ⟨h2, Int.emod_lt_of_pos _ hp⟩
theorem powF_length (p : Int) (ts : Tm) (h : ts.length ≤ 3) : ∀ k, (powF p ts k).length ≤ 3 ^ k
  | 0 => by
    have := canon_length p [(0, 1)]
    simpa [powF] using this
  | k + 1 => by
    have h1 := canon_length p (hsum p (prods (powF p ts k) ts))
    have h2 := hsum_length p (prods (powF p ts k) ts)
    rw [prods_length] at h2
    have h3 := Nat.mul_le_mul (powF_length p ts h k) h
    show (mulF p (powF p ts k) ts).length ≤ 3 ^ k * 3
    unfold mulF
    omega
theorem powF_small {p : Int} (hp : 0 < p) (ts : Tm) : ∀ k, ∀ t ∈ powF p ts k, 0 < t.2 ∧ t.2 < p
  | 0 => canon_small hp _
  | k + 1 => canon_small hp _
end My

/-! M2: filters as a commutative ring. -/
namespace My
def wsum (a : Tm) (f : Int → Int) : Int := (a.map fun t => t.2 * f t.1).sum
theorem wsum_nil (f : Int → Int) : wsum [] f = 0 := rfl
theorem wsum_cons (t : Int × Int) (a : Tm) (f : Int → Int) : wsum (t :: a) f = t.2 * f t.1 + wsum a f := by unfold wsum; simp
theorem wsum_append (a b : Tm) (f : Int → Int) : wsum (a ++ b) f = wsum a f + wsum b f := by
  induction a with
  | nil => simp [wsum_nil]
  | cons t a ih => rw [List.cons_append, wsum_cons, wsum_cons, ih]; omega
theorem wsum_add (a : Tm) (f g : Int → Int) : wsum a (fun k => f k + g k) = wsum a f + wsum a g := by
  induction a with
  | nil => rfl
  | cons t a ih => rw [wsum_cons, wsum_cons, wsum_cons, ih, Int.mul_add]; omega
theorem wsum_mul (a : Tm) (c : Int) (f : Int → Int) : wsum a (fun k => c * f k) = c * wsum a f := by
  induction a with
  | nil => simp [wsum_nil]
  | cons t a ih => rw [wsum_cons, wsum_cons, ih, Int.mul_add, Int.mul_left_comm]
theorem wsum_congr_f {p : Int} (a : Tm) {f g : Int → Int} (h : ∀ k, f k % p = g k % p) : wsum a f % p = wsum a g % p := by
  induction a with
  | nil => rfl
  | cons t a ih =>
    rw [wsum_cons, wsum_cons, Int.add_emod, Int.mul_emod, h, ih, ← Int.mul_emod, ← Int.add_emod]
theorem sum_zero (L : List Int) (g : Int → Int) (h : ∀ k ∈ L, g k = 0) : (L.map g).sum = 0 := by
  induction L with
  | nil => rfl
  | cons a L ih => rw [List.map_cons, List.sum_cons, h a (List.mem_cons_self ..), ih fun k hk => h k (List.mem_cons_of_mem _ hk)]; rfl
theorem sum_add' (L : List Int) (g h : Int → Int) : (L.map fun k => g k + h k).sum = (L.map g).sum + (L.map h).sum := by
  induction L with
  | nil => rfl
  | cons a L ih => simp only [List.map_cons, List.sum_cons, ih]; omega
theorem sum_single (v k0 : Int) (f : Int → Int) : ∀ L : List Int, L.Nodup → k0 ∈ L → (L.map fun k => (if k0 = k then v else 0) * f k).sum = v * f k0
  | a :: L, hn, hm => by
    rw [List.nodup_cons] at hn
    rw [List.map_cons, List.sum_cons]
    by_cases h : k0 = a
    · subst h
      rw [if_pos rfl, sum_zero L _ fun k hk => by
        rw [if_neg (fun (z : k0 = k) => hn.1 (z.symm ▸ hk))]; simp]
      omega
    · rw [if_neg h, sum_single v k0 f L hn.2 (by rcases List.mem_cons.mp hm with z | z; exact absurd z h; exact z)]
      simp
theorem wsum_keys (f : Int → Int) (L : List Int) (hn : L.Nodup) : ∀ a : Tm, (∀ t ∈ a, t.1 ∈ L) → wsum a f = (L.map fun k => csum a k * f k).sum
  | [], _ => by rw [wsum_nil, sum_zero]; intro k _; rw [csum_nil]; simp
  | t :: a, h => by
    rw [wsum_cons, wsum_keys f L hn a fun u hu => h u (List.mem_cons_of_mem _ hu), ← sum_single t.2 t.1 f L hn (h t (List.mem_cons_self ..)), ← sum_add']
    congr 1
    refine List.map_congr_left fun k _ => ?_
    rw [csum_cons, Int.add_mul]
theorem sum_congr_mod {p : Int} (g h : Int → Int) (L : List Int) (e : ∀ k, g k % p = h k % p) : (L.map g).sum % p = (L.map h).sum % p := by
  induction L with
  | nil => rfl
  | cons a L ih => rw [List.map_cons, List.map_cons, List.sum_cons, List.sum_cons, Int.add_emod, e, ih, ← Int.add_emod]
theorem exists_nodup (l : List Int) : ∃ L : List Int, L.Nodup ∧ ∀ k ∈ l, k ∈ L := by
  induction l with
  | nil => exact ⟨[], List.nodup_nil, fun k h => h⟩
  | cons a l ih =>
    obtain ⟨L, h1, h2⟩ := ih
    by_cases h : a ∈ L
    · exact ⟨L, h1, fun k hk => by rcases List.mem_cons.mp hk with z | z; exact z ▸ h; exact h2 k z⟩
    · exact ⟨a :: L, List.nodup_cons.mpr ⟨h, h1⟩, fun k hk => by
        rcases List.mem_cons.mp hk with z | z
        · exact z ▸ List.mem_cons_self ..
        · exact List.mem_cons_of_mem _ (h2 k z)⟩
def Eqv (p : Int) (a b : Tm) : Prop := ∀ x, csum a x % p = csum b x % p
theorem wsum_congr {p : Int} {a b : Tm} (h : Eqv p a b) (f : Int → Int) : wsum a f % p = wsum b f % p := by
  obtain ⟨L, hn, hL⟩ := exists_nodup ((a ++ b).map (·.1))
  rw [wsum_keys f L hn a fun t ht => hL _ (List.mem_map.mpr ⟨t, List.mem_append.mpr (.inl ht), rfl⟩), wsum_keys f L hn b fun t ht => hL _ (List.mem_map.mpr ⟨t, List.mem_append.mpr (.inr ht), rfl⟩)]
  refine sum_congr_mod _ _ L fun k => ?_
  rw [Int.mul_emod, h k, ← Int.mul_emod]
theorem csum_shift (t : Int × Int) (b : Tm) (x : Int) : csum (b.map fun u => (t.1 + u.1, t.2 * u.2)) x = t.2 * csum b (x - t.1) := by
  induction b with
  | nil => simp [csum_nil]
  | cons u b ih =>
    rw [List.map_cons, csum_cons, csum_cons, ih, Int.mul_add]
    congr 1
    by_cases h : u.1 = x - t.1
    · rw [if_pos h, if_pos (by omega)]
    · rw [if_neg h, if_neg (by omega)]; simp
theorem csum_prods (a b : Tm) (x : Int) : csum (prods a b) x = wsum a fun k => csum b (x - k) := by
  induction a with
  | nil => rfl
  | cons t a ih => rw [prods_cons, csum_append, ih, csum_shift, wsum_cons]
theorem wsum_prods (a b : Tm) (f : Int → Int) : wsum (prods a b) f = wsum a fun i => wsum b fun j => f (i + j) := by
  induction a with
  | nil => rfl
  | cons t a ih =>
    rw [prods_cons, wsum_append, ih, wsum_cons]
    congr 1
    have : ∀ b : Tm, wsum (b.map fun u => (t.1 + u.1, t.2 * u.2)) f = t.2 * wsum b fun j => f (t.1 + j) := by
      intro b
      induction b with
      | nil => simp [wsum_nil]
      | cons u b ih => rw [List.map_cons, wsum_cons, wsum_cons, ih, Int.mul_add, Int.mul_assoc]
    exact this b
/-! ### the ring -/
def eqvS (p : Int) : Setoid Tm := ⟨Eqv p, fun a x => rfl, fun h x => (h x).symm, fun h g x => (h x).trans (g x)⟩
def LP (p : Int) : Type := Quotient (eqvS p)
def lp (p : Int) (a : Tm) : LP p := Quotient.mk (eqvS p) a
section
variable {p : Int}
theorem lp_eq {a b : Tm} : lp p a = lp p b ↔ Eqv p a b := ⟨fun h => Quotient.exact h, fun h => Quotient.sound h⟩
theorem lp_surj (x : LP p) : ∃ a, lp p a = x := Quotient.exists_rep x
def negT (a : Tm) : Tm := a.map fun t => (t.1, -t.2)
theorem csum_neg (a : Tm) (x : Int) : csum (negT a) x = -csum a x := by
  induction a with
  | nil => rfl
  | cons t a ih =>
    show csum ((t.1, -t.2) :: negT a) x = _
    rw [csum_cons, csum_cons, ih]
    by_cases h : t.1 = x
    · rw [if_pos h, if_pos h]; omega
    · rw [if_neg h, if_neg h]; omega
theorem emod_neg_congr {a b : Int} (h : a % p = b % p) : (-a) % p = (-b) % p := by
  have : (p : Int) ∣ a - b := Int.dvd_of_emod_eq_zero (by rw [Int.sub_emod, h]; simp)
  have h2 : p ∣ -a - -b := by
    obtain ⟨c, hc⟩ := this
    exact ⟨-c, by rw [Int.mul_neg, ← hc]; omega⟩
  exact Int.emod_emod_of_dvd _ (Int.dvd_refl p) ▸ (by
    have e : -a = -b + (-a - -b) := by omega
    rw [e, Int.add_emod, Int.emod_eq_zero_of_dvd h2]; simp)
def LP.add (x y : LP p) : LP p := Quotient.liftOn₂ x y (fun a b => lp p (a ++ b)) fun a b a' b' h h' => lp_eq.mpr fun x => by
  rw [csum_append, csum_append, Int.add_emod, h x, h' x, ← Int.add_emod]
def LP.mul (x y : LP p) : LP p := Quotient.liftOn₂ x y (fun a b => lp p (prods a b)) fun a b a' b' h h' => lp_eq.mpr fun x => by
  rw [csum_prods, csum_prods, wsum_congr h, wsum_congr_f a' fun k => h' (x - k)]
def LP.neg (x : LP p) : LP p := Quotient.liftOn x (fun a => lp p (negT a)) fun a b h => lp_eq.mpr fun x => by
  rw [csum_neg, csum_neg]; exact emod_neg_congr (h x)
instance : Add (LP p) := ⟨LP.add⟩
instance : Mul (LP p) := ⟨LP.mul⟩
instance : Neg (LP p) := ⟨LP.neg⟩
instance : Sub (LP p) := ⟨fun a b => a + -b⟩
instance : NatCast (LP p) := ⟨fun n => lp p [(0, (n : Int))]⟩
instance : IntCast (LP p) := ⟨fun n => lp p [(0, n)]⟩
instance (n : Nat) : OfNat (LP p) n := ⟨lp p [(0, (n : Int))]⟩
def LP.pow (x : LP p) : Nat → LP p
  | 0 => 1
  | n + 1 => LP.pow x n * x
instance : HPow (LP p) Nat (LP p) := ⟨LP.pow⟩
instance : SMul Nat (LP p) := ⟨fun n a => (n : LP p) * a⟩
instance : SMul Int (LP p) := ⟨fun n a => (n : LP p) * a⟩
theorem lp_add (a b : Tm) : lp p a + lp p b = lp p (a ++ b) := rfl
theorem lp_mul (a b : Tm) : lp p a * lp p b = lp p (prods a b) := rfl
theorem lp_neg (a : Tm) : -lp p a = lp p (negT a) := rfl
theorem lp_int (n : Int) : ((n : Int) : LP p) = lp p [(0, n)] := rfl
theorem lp_zero : (0 : LP p) = lp p [] := lp_eq.mpr fun x => by
  show csum [(0, ((0 : Nat) : Int))] x % p = _
  rw [csum_cons, csum_nil]; split <;> rfl
theorem lp_one : (1 : LP p) = lp p [(0, 1)] := rfl
theorem add_comm' (x y : LP p) : x + y = y + x := by
  obtain ⟨a, rfl⟩ := lp_surj x
  obtain ⟨b, rfl⟩ := lp_surj y
  exact lp_eq.mpr fun x => by rw [csum_append, csum_append, Int.add_comm]
theorem mul_comm' (x y : LP p) : x * y = y * x := by
  obtain ⟨a, rfl⟩ := lp_surj x
  obtain ⟨b, rfl⟩ := lp_surj y
  exact lp_eq.mpr fun x => by rw [prods_comm]
theorem mul_one' (x : LP p) : x * 1 = x := by
  obtain ⟨a, rfl⟩ := lp_surj x
  refine lp_eq.mpr fun x => ?_
  rw [prods_comm, csum_prods, wsum_cons, wsum_nil]
  simp
theorem distrib' (x y z : LP p) : x * (y + z) = x * y + x * z := by
  obtain ⟨a, rfl⟩ := lp_surj x
  obtain ⟨b, rfl⟩ := lp_surj y
  obtain ⟨c, rfl⟩ := lp_surj z
  refine lp_eq.mpr fun x => ?_
  rw [csum_prods, csum_append, csum_prods, csum_prods, ← wsum_add]
  congr 2
  funext k
  rw [csum_append]
instance : Lean.Grind.CommRing (LP p) where
  add_zero x := by
    obtain ⟨a, rfl⟩ := lp_surj x
    rw [lp_zero, lp_add, List.append_nil]
  add_comm := add_comm'
  add_assoc x y z := by
    obtain ⟨a, rfl⟩ := lp_surj x
    obtain ⟨b, rfl⟩ := lp_surj y
    obtain ⟨c, rfl⟩ := lp_surj z
    rw [lp_add, lp_add, lp_add, lp_add, List.append_assoc]
  mul_assoc x y z := by
    obtain ⟨a, rfl⟩ := lp_surj x
    obtain ⟨b, rfl⟩ := lp_surj y
    obtain ⟨c, rfl⟩ := lp_surj z
    refine lp_eq.mpr fun x => ?_
    rw [csum_prods, wsum_prods, csum_prods]
    congr 2
    funext i
    rw [csum_prods]
    congr 1
    funext j
    congr 1
    omega
  mul_one := mul_one'
  one_mul x := by rw [mul_comm', mul_one']
  left_distrib := distrib'
  right_distrib x y z := by rw [mul_comm', distrib', mul_comm' z, mul_comm' z]
  zero_mul x := by
    obtain ⟨a, rfl⟩ := lp_surj x
    rw [lp_zero, lp_mul]; rfl
  mul_zero x := by
    rw [mul_comm']
    obtain ⟨a, rfl⟩ := lp_surj x
    rw [lp_zero, lp_mul]; rfl
  pow_zero x := rfl
  pow_succ x n := rfl
  ofNat_succ n := by
    refine lp_eq.mpr fun x => ?_
    rw [csum_cons, csum_nil, csum_append, csum_cons, csum_cons, csum_nil]
    by_cases h : (0 : Int) = x
    · subst h; simp
    · simp [h]
  neg_add_cancel x := by
    obtain ⟨a, rfl⟩ := lp_surj x
    rw [lp_zero, lp_neg, lp_add]
    refine lp_eq.mpr fun x => ?_
    rw [csum_append, csum_neg, csum_nil]
    congr 1
    omega
  sub_eq_add_neg x y := rfl
  neg_zsmul i x := by
    obtain ⟨a, rfl⟩ := lp_surj x
    refine lp_eq.mpr fun x => ?_
    rw [csum_neg, csum_prods, csum_prods, wsum_cons, wsum_cons, wsum_nil]
    congr 1
    rw [Int.add_zero, Int.add_zero, Int.neg_mul]
  intCast_neg i := by
    refine lp_eq.mpr fun x => ?_
    rw [csum_neg, csum_cons, csum_cons, csum_nil]
    congr 1
    split <;> omega
  mul_comm := mul_comm'
example (f g h : LP p) : f * (g + h) - f * h = g * f := by grind
example (f g h : LP p) : (f + g) * (f + g) = f * f + 2 * f * g + g * g := by grind
end
end My

/-! M3: coefficients, canonical terms, bounds, the top term, no zero divisors. -/
namespace My
section
variable {p : Int}
def cf (x : LP p) (k : Int) : Int := Quotient.liftOn x (fun a => csum a k % p) fun a b h => h k
theorem cf_lp (a : Tm) (k : Int) : cf (lp p a) k = csum a k % p := rfl
theorem cf_ext {x y : LP p} (h : ∀ k, cf x k = cf y k) : x = y := by
  obtain ⟨a, rfl⟩ := lp_surj x
  obtain ⟨b, rfl⟩ := lp_surj y
  exact lp_eq.mpr h
theorem cf_mod (x : LP p) (k : Int) : cf x k % p = cf x k := by
  obtain ⟨a, rfl⟩ := lp_surj x
  rw [cf_lp, Int.emod_emod_of_dvd _ (Int.dvd_refl p)]
theorem cf_add (x y : LP p) (k : Int) : cf (x + y) k = (cf x k + cf y k) % p := by
  obtain ⟨a, rfl⟩ := lp_surj x
  obtain ⟨b, rfl⟩ := lp_surj y
  rw [lp_add, cf_lp, cf_lp, cf_lp, csum_append, ← Int.add_emod]
theorem cf_neg (x : LP p) (k : Int) : cf (-x) k = (-cf x k) % p := by
  obtain ⟨a, rfl⟩ := lp_surj x
  rw [lp_neg, cf_lp, cf_lp, csum_neg]
  exact emod_neg_congr (Int.emod_emod_of_dvd _ (Int.dvd_refl p)).symm
theorem cf_sub (x y : LP p) (k : Int) : cf (x - y) k = (cf x k - cf y k) % p := by
  show cf (x + -y) k = _
  rw [cf_add, cf_neg, Int.sub_eq_add_neg, Int.add_emod, Int.emod_emod_of_dvd _ (Int.dvd_refl p), ← Int.add_emod]
theorem cf_zero (k : Int) : cf (0 : LP p) k = 0 := by rw [lp_zero, cf_lp, csum_nil]; exact Int.zero_emod p
def mono (p k c : Int) : LP p := lp p [(k, c)]
theorem cf_mono (k c j : Int) : cf (mono p k c) j = if k = j then c % p else 0 := by
  unfold mono
  rw [cf_lp, csum_cons, csum_nil]
  split
  · simp
  · simp
theorem cf_mono_mul (k c : Int) (x : LP p) (j : Int) : cf (mono p k c * x) j = (c * cf x (j - k)) % p := by
  obtain ⟨a, rfl⟩ := lp_surj x
  unfold mono
  rw [lp_mul, cf_lp, cf_lp, csum_prods, wsum_cons, wsum_nil, Int.add_zero]
  show c * csum a (j - k) % p = _
  rw [Int.mul_emod, Int.mul_emod c (csum a (j - k) % p), Int.emod_emod_of_dvd _ (Int.dvd_refl p)]
theorem cf_int_mul (c : Int) (x : LP p) (j : Int) : cf (((c : Int) : LP p) * x) j = (c * cf x j) % p := by
  have := cf_mono_mul (p := p) 0 c x j
  rw [Int.sub_zero] at this
  exact this
theorem mono_add (k a b : Int) : mono p k a + mono p k b = mono p k (a + b) := lp_eq.mpr fun x => by
  rw [csum_append, csum_cons, csum_cons, csum_cons, csum_nil]
  congr 1
  split <;> omega
theorem mono_mul (k j a b : Int) : mono p k a * mono p j b = mono p (k + j) (a * b) := lp_eq.mpr fun x => rfl
theorem mono_one : mono p 0 1 = 1 := rfl
theorem mono_mod (k c : Int) : mono p k (c % p) = mono p k c := cf_ext fun j => by
  rw [cf_mono, cf_mono, Int.emod_emod_of_dvd _ (Int.dvd_refl p)]
/-! ### canonical terms -/
noncomputable def can (x : LP p) : Tm := canon p (Classical.choose (lp_surj x))
theorem can_lp (hp : 0 < p) (a : Tm) : can (lp p a) = canon p a := by
  unfold can
  exact canon_ext hp (lp_eq.mp (Classical.choose_spec (lp_surj (lp p a))))
theorem lp_canon (hp : 0 < p) (a : Tm) : lp p (canon p a) = lp p a := lp_eq.mpr fun x => by rw [csum_canon hp, Int.emod_emod_of_dvd _ (Int.dvd_refl p)]
theorem lp_can (hp : 0 < p) (x : LP p) : lp p (can x) = x := by
  obtain ⟨a, rfl⟩ := lp_surj x
  rw [can_lp hp, lp_canon hp]
theorem can_inj (hp : 0 < p) {x y : LP p} (h : can x = can y) : x = y := by rw [← lp_can hp x, h, lp_can hp]
theorem can_sorted (x : LP p) : ((can x).map (·.1)).Pairwise (· < ·) := canon_sorted p _
theorem can_nodup (x : LP p) : ((can x).map (·.1)).Nodup := canon_nodup p _
theorem can_mem (hp : 0 < p) (x : LP p) (k v : Int) : (k, v) ∈ can x ↔ v = cf x k ∧ 0 < v := by
  obtain ⟨a, rfl⟩ := lp_surj x
  rw [can_lp hp, canon_mem hp, cf_lp]
theorem can_small (hp : 0 < p) (x : LP p) : ∀ t ∈ can x, 0 < t.2 ∧ t.2 < p := canon_small hp _
theorem canon_can (hp : 0 < p) (x : LP p) : canon p (can x) = can x := canon_canon hp _
theorem csum_can (hp : 0 < p) (x : LP p) (k : Int) : csum (can x) k = cf x k := by
  obtain ⟨a, rfl⟩ := lp_surj x
  rw [can_lp hp, csum_canon hp, cf_lp]
theorem getI_can (hp : 0 < p) (x : LP p) (k : Int) : getI (can x) k = cf x k := by rw [← csum_get (can_nodup x), csum_can hp]
theorem can_zero (hp : 0 < p) : can (0 : LP p) = [] := by rw [lp_zero, can_lp hp]; simp [canon, hsum, srt]
theorem can_nil (hp : 0 < p) {x : LP p} : can x = [] ↔ x = 0 := ⟨fun h => can_inj hp (h.trans (can_zero hp).symm), fun h => by rw [h, can_zero hp]⟩
theorem cf_range (hp : 0 < p) (x : LP p) (k : Int) : 0 ≤ cf x k ∧ cf x k < p := by
  rw [← cf_mod]
  exact ⟨Int.emod_nonneg _ (by omega), Int.emod_lt_of_pos _ hp⟩
noncomputable def nt (x : LP p) : Nat := (can x).length
theorem nt_lp (hp : 0 < p) (a : Tm) : nt (lp p a) ≤ a.length := by unfold nt; rw [can_lp hp]; exact canon_length p a
theorem nt_add (hp : 0 < p) (x y : LP p) : nt (x + y) ≤ nt x + nt y := by
  have h := nt_lp hp (can x ++ can y)
  rw [← lp_add, lp_can hp, lp_can hp, List.length_append] at h
  exact h
theorem nt_neg (hp : 0 < p) (x : LP p) : nt (-x) ≤ nt x := by
  have h := nt_lp hp (negT (can x))
  rw [← lp_neg, lp_can hp] at h
  simpa [negT, nt] using h
theorem nt_mul (hp : 0 < p) (x y : LP p) : nt (x * y) ≤ nt x * nt y := by
  have h := nt_lp hp (prods (can x) (can y))
  rw [← lp_mul, lp_can hp, lp_can hp, prods_length] at h
  exact h
/-! ### bounds of the offsets -/
def Bd (x : LP p) (lo hi : Int) : Prop := ∀ k, cf x k ≠ 0 → lo ≤ k ∧ k ≤ hi
theorem Bd.mono {x : LP p} {lo hi lo' hi' : Int} (h : Bd x lo hi) (h1 : lo' ≤ lo) (h2 : hi ≤ hi') : Bd x lo' hi' := fun k hk => by have := h k hk; omega
theorem Bd.mem (hp : 0 < p) {x : LP p} {lo hi : Int} (h : Bd x lo hi) : ∀ t ∈ can x, lo ≤ t.1 ∧ t.1 ≤ hi := fun t ht => by
  obtain ⟨h1, h2⟩ := (can_mem hp x t.1 t.2).mp ht
  exact h t.1 (by omega)
theorem Bd.of (hp : 0 < p) {x : LP p} {lo hi : Int} (h : ∀ t ∈ can x, lo ≤ t.1 ∧ t.1 ≤ hi) : Bd x lo hi := fun k hk => by
  have r := cf_range hp x k
  exact h (k, cf x k) ((can_mem hp x k _).mpr ⟨rfl, by omega⟩)
theorem Bd.zero (lo hi : Int) : Bd (0 : LP p) lo hi := fun k hk => absurd (cf_zero k) hk
theorem Bd.add {x y : LP p} {lo hi : Int} (h : Bd x lo hi) (h' : Bd y lo hi) : Bd (x + y) lo hi := fun k hk => by
  by_cases e : cf x k = 0
  · by_cases e' : cf y k = 0
    · rw [cf_add, e, e'] at hk; exact absurd (Int.zero_emod p) hk
    · exact h' k e'
  · exact h k e
theorem Bd.neg {x : LP p} {lo hi : Int} (h : Bd x lo hi) : Bd (-x) lo hi := fun k hk => by
  by_cases e : cf x k = 0
  · rw [cf_neg, e] at hk; exact absurd (by simp) hk
  · exact h k e
theorem Bd.sub {x y : LP p} {lo hi : Int} (h : Bd x lo hi) (h' : Bd y lo hi) : Bd (x - y) lo hi := Bd.add h h'.neg
theorem Bd.mono_mul {x : LP p} {lo hi : Int} (h : Bd x lo hi) (k c : Int) : Bd (My.mono p k c * x) (lo + k) (hi + k) := fun j hj => by
  rw [cf_mono_mul] at hj
  by_cases e : cf x (j - k) = 0
  · rw [e] at hj; exact absurd (by simp) hj
  · have := h _ e; omega
theorem lp_cons (t : Int × Int) (a : Tm) : lp p (t :: a) = My.mono p t.1 t.2 + lp p a := rfl
theorem Bd.mul (hp : 0 < p) {x y : LP p} {lo hi lo' hi' : Int} (h : Bd x lo hi) (h' : Bd y lo' hi') : Bd (x * y) (lo + lo') (hi + hi') := by
  have go : ∀ a : Tm, (∀ t ∈ a, lo ≤ t.1 ∧ t.1 ≤ hi) → Bd (lp p a * y) (lo + lo') (hi + hi') := by
    intro a
    induction a with
    | nil => intro _; rw [← lp_zero]; rw [show (0 : LP p) * y = 0 by grind]; exact Bd.zero _ _
    | cons t a ih =>
      intro ha
      have ht := ha t (List.mem_cons_self ..)
      rw [lp_cons, show (My.mono p t.1 t.2 + lp p a) * y = My.mono p t.1 t.2 * y + lp p a * y by grind]
      exact Bd.add ((h'.mono_mul t.1 t.2).mono (by omega) (by omega)) (ih fun u hu => ha u (List.mem_cons_of_mem _ hu))
  have := go (can x) (h.mem hp)
  rwa [lp_can hp] at this
theorem Bd.lp {a : Tm} {lo hi : Int} (h : ∀ t ∈ a, lo ≤ t.1 ∧ t.1 ≤ hi) : Bd (lp p a) lo hi := fun k hk => by
  rw [cf_lp] at hk
  by_cases e : k ∈ a.map (·.1)
  · obtain ⟨t, ht, rfl⟩ := List.mem_map.mp e
    exact h t ht
  · exfalso
    refine hk ?_
    have : csum a k = 0 := by
      clear hk h
      induction a with
      | nil => rfl
      | cons t a ih =>
        rw [List.map_cons, List.mem_cons] at e
        rw [csum_cons, if_neg (fun z => e (.inl z.symm)), ih fun z => e (.inr z)]; rfl
    rw [this]; exact Int.zero_emod p
theorem sorted_length : ∀ {L : List Int} {lo hi : Int}, L.Pairwise (· < ·) → (∀ k ∈ L, lo ≤ k ∧ k ≤ hi) → (L.length : Int) ≤ max 0 (hi - lo + 1)
  | [], lo, hi, _, _ => by simp; omega
  | a :: L, lo, hi, s, h => by
    rw [List.pairwise_cons] at s
    have ha := h a (List.mem_cons_self ..)
    have := sorted_length (L := L) (lo := a + 1) (hi := hi) s.2 fun k hk => ⟨by have := s.1 k hk; omega, (h k (List.mem_cons_of_mem _ hk)).2⟩
    rw [List.length_cons]
    push_cast
    omega
theorem Bd.nt (hp : 0 < p) {x : LP p} {lo hi : Int} (h : Bd x lo hi) : (My.nt x : Int) ≤ max 0 (hi - lo + 1) := by
  have := sorted_length (can_sorted x) (lo := lo) (hi := hi) fun k hk => by
    obtain ⟨t, ht, rfl⟩ := List.mem_map.mp hk
    exact h.mem hp t ht
  rw [List.length_map] at this
  exact this
/-! ### the top and the bottom term -/
def Hi (x : LP p) (h : Int) : Prop := cf x h ≠ 0 ∧ ∀ k, h < k → cf x k = 0
def Lo (x : LP p) (l : Int) : Prop := cf x l ≠ 0 ∧ ∀ k, k < l → cf x k = 0
theorem Hi.uniq {x : LP p} {h h' : Int} (a : Hi x h) (b : Hi x h') : h = h' := by
  rcases Int.lt_trichotomy h h' with z | z | z
  · exact absurd (a.2 _ z) b.1
  · exact z
  · exact absurd (b.2 _ z) a.1
theorem Lo.uniq {x : LP p} {h h' : Int} (a : Lo x h) (b : Lo x h') : h = h' := by
  rcases Int.lt_trichotomy h h' with z | z | z
  · exact absurd (b.2 _ z) a.1
  · exact z
  · exact absurd (a.2 _ z) b.1
theorem Hi.ne {x : LP p} {h : Int} (a : Hi x h) : x ≠ 0 := fun z => a.1 (by rw [z, cf_zero])
theorem Lo.ne {x : LP p} {h : Int} (a : Lo x h) : x ≠ 0 := fun z => a.1 (by rw [z, cf_zero])
theorem Bd.of_hl {x : LP p} {h l : Int} (a : Hi x h) (b : Lo x l) : Bd x l h := fun k hk => by
  refine ⟨?_, ?_⟩
  · exact Int.not_lt.mp fun z => hk (b.2 k z)
  · exact Int.not_lt.mp fun z => hk (a.2 k z)
theorem sorted_last : ∀ {a : Tm} {t : Int × Int}, (a.map (·.1)).Pairwise (· < ·) → a.getLast? = some t → ∀ u ∈ a, u.1 ≤ t.1
  | a, t, s, h, u, hu => by
    obtain ⟨b, rfl⟩ := List.getLast?_eq_some_iff.mp h
    rw [List.map_append, List.pairwise_append] at s
    rcases List.mem_append.mp hu with z | z
    · exact Int.le_of_lt (s.2.2 u.1 (List.mem_map.mpr ⟨u, z, rfl⟩) t.1 (by simp))
    · rw [List.mem_singleton.mp z]; exact Int.le_refl _
theorem sorted_head {a : Tm} {t : Int × Int} (s : (a.map (·.1)).Pairwise (· < ·)) (h : a.head? = some t) : ∀ u ∈ a, t.1 ≤ u.1 := by
  intro u hu
  cases a with
  | nil => cases h
  | cons b a =>
    cases h
    rw [List.map_cons, List.pairwise_cons] at s
    rcases List.mem_cons.mp hu with z | z
    · rw [z]; exact Int.le_refl _
    · exact Int.le_of_lt (s.1 u.1 (List.mem_map.mpr ⟨u, z, rfl⟩))
theorem hi_of (hp : 0 < p) {x : LP p} {t : Int × Int} (h : (can x).getLast? = some t) : Hi x t.1 ∧ cf x t.1 = t.2 := by
  have hm : t ∈ can x := List.mem_of_getLast? h
  obtain ⟨h1, h2⟩ := (can_mem hp x t.1 t.2).mp hm
  refine ⟨⟨by omega, fun k hk => ?_⟩, h1.symm⟩
  have r := cf_range hp x k
  by_cases e : 0 < cf x k
  · have := sorted_last (can_sorted x) h (k, cf x k) ((can_mem hp x k _).mpr ⟨rfl, e⟩)
    dsimp only at this
    omega
  · omega
theorem lo_of (hp : 0 < p) {x : LP p} {t : Int × Int} (h : (can x).head? = some t) : Lo x t.1 ∧ cf x t.1 = t.2 := by
  have hm : t ∈ can x := List.mem_of_head? h
  obtain ⟨h1, h2⟩ := (can_mem hp x t.1 t.2).mp hm
  refine ⟨⟨by omega, fun k hk => ?_⟩, h1.symm⟩
  have r := cf_range hp x k
  by_cases e : 0 < cf x k
  · have := sorted_head (can_sorted x) h (k, cf x k) ((can_mem hp x k _).mpr ⟨rfl, e⟩)
    dsimp only at this
    omega
  · omega
theorem exists_hi (hp : 0 < p) {x : LP p} (h : x ≠ 0) : ∃ k, Hi x k := by
  cases e : (can x).getLast? with
  | none => exact absurd ((can_nil hp).mp (List.getLast?_eq_none_iff.mp e)) h
  | some t => exact ⟨t.1, (hi_of hp e).1⟩
theorem exists_lo (hp : 0 < p) {x : LP p} (h : x ≠ 0) : ∃ k, Lo x k := by
  cases e : (can x).head? with
  | none => exact absurd ((can_nil hp).mp (List.head?_eq_none_iff.mp e)) h
  | some t => exact ⟨t.1, (lo_of hp e).1⟩
theorem lo_le_hi {x : LP p} {l h : Int} (a : Lo x l) (b : Hi x h) : l ≤ h := Int.not_lt.mp fun z => a.1 (b.2 l z)
/-! ### digits -/
theorem dig_mul {a b : Int} (hp : isPr p = true) (ha : a % p ≠ 0) (hb : b % p ≠ 0) : (a * b) % p ≠ 0 := by
  have h1 := Int.emod_nonneg a (show p ≠ 0 by have := isPr_pos hp; omega)
  have h2 := Int.emod_lt_of_pos a (isPr_pos hp).1
  have h3 := Int.emod_nonneg b (show p ≠ 0 by have := isPr_pos hp; omega)
  have h4 := Int.emod_lt_of_pos b (isPr_pos hp).1
  rw [Int.mul_emod]
  generalize a % p = a at *
  generalize b % p = b at *
  rcases isPr_cases hp with rfl | rfl | rfl | rfl
  · have : a = 1 := by omega
    have : b = 1 := by omega
    subst a b; decide
  · have : a = 1 ∨ a = 2 := by omega
    have : b = 1 ∨ b = 2 := by omega
    rcases ‹a = 1 ∨ a = 2› with rfl | rfl <;> rcases ‹b = 1 ∨ b = 2› with rfl | rfl <;> decide
  · have : a = 1 ∨ a = 2 ∨ a = 3 ∨ a = 4 := by omega
    have : b = 1 ∨ b = 2 ∨ b = 3 ∨ b = 4 := by omega
    rcases ‹a = 1 ∨ _› with rfl | rfl | rfl | rfl <;> rcases ‹b = 1 ∨ _› with rfl | rfl | rfl | rfl <;> decide
  · have : a = 1 ∨ a = 2 ∨ a = 3 ∨ a = 4 ∨ a = 5 ∨ a = 6 := by omega
    have : b = 1 ∨ b = 2 ∨ b = 3 ∨ b = 4 ∨ b = 5 ∨ b = 6 := by omega
    rcases ‹a = 1 ∨ _› with rfl | rfl | rfl | rfl | rfl | rfl <;> rcases ‹b = 1 ∨ _› with rfl | rfl | rfl | rfl | rfl | rfl <;> decide
def invD (p a : Int) : Int := if p = 2 then 1 else if p = 3 then a else if p = 5 then (a * a * a) % 5 else (a * a * a * a * a) % 7
theorem invD_mul {a : Int} (hp : isPr p = true) (h0 : 0 < a) (h1 : a < p) : (invD p a * a) % p = 1 ∧ 1 ≤ invD p a ∧ invD p a < p := by
  unfold invD
  rcases isPr_cases hp with rfl | rfl | rfl | rfl
  · have : a = 1 := by omega
    subst a; decide
  · have : a = 1 ∨ a = 2 := by omega
    rcases this with rfl | rfl <;> decide
  · have : a = 1 ∨ a = 2 ∨ a = 3 ∨ a = 4 := by omega
    rcases this with rfl | rfl | rfl | rfl <;> decide
  · have : a = 1 ∨ a = 2 ∨ a = 3 ∨ a = 4 ∨ a = 5 ∨ a = 6 := by omega
    rcases this with rfl | rfl | rfl | rfl | rfl | rfl <;> decide
/-! ### products -/
theorem cf_mul_top (hp : 0 < p) {x y : LP p} {h h' : Int} (a : ∀ k, h < k → cf x k = 0) (b : ∀ k, h' < k → cf y k = 0) : cf (x * y) (h + h') = (cf x h * cf y h') % p ∧ ∀ k, h + h' < k → cf (x * y) k = 0 := by
  have key : ∀ (l : Tm), (∀ t ∈ l, t.1 ≤ h) → (cf (lp p l * y) (h + h') = (csum l h * cf y h') % p) ∧ ∀ k, h + h' < k → cf (lp p l * y) k = 0 := by
    intro l
    induction l with
    | nil =>
      intro _
      rw [← lp_zero, show (0 : LP p) * y = 0 by grind, csum_nil]
      exact ⟨by rw [cf_zero]; simp, fun k _ => cf_zero k⟩
    | cons t l ih =>
      intro hl
      obtain ⟨i1, i2⟩ := ih fun u hu => hl u (List.mem_cons_of_mem _ hu)
      have ht := hl t (List.mem_cons_self ..)
      rw [lp_cons, show (mono p t.1 t.2 + lp p l) * y = mono p t.1 t.2 * y + lp p l * y by grind]
      refine ⟨?_, fun k hk => ?_⟩
      · rw [cf_add, i1, cf_mono_mul, csum_cons]
        by_cases e : t.1 = h
        · rw [if_pos e, e, show h + h' - h = h' by omega, ← Int.add_emod, Int.add_mul]
        · rw [if_neg e, b (h + h' - t.1) (by omega)]
          simp
      · rw [cf_add, i2 k hk, cf_mono_mul, b (k - t.1) (by omega)]
        simp
  have r := key (can x) fun t ht => by
    obtain ⟨h1, h2⟩ := (can_mem hp x t.1 t.2).mp ht
    exact Int.not_lt.mp fun z => by have := a t.1 z; omega
  rw [lp_can hp, csum_can hp] at r
  exact r
theorem cf_mul_bot (hp : 0 < p) {x y : LP p} {h h' : Int} (a : ∀ k, k < h → cf x k = 0) (b : ∀ k, k < h' → cf y k = 0) : cf (x * y) (h + h') = (cf x h * cf y h') % p ∧ ∀ k, k < h + h' → cf (x * y) k = 0 := by
  have key : ∀ (l : Tm), (∀ t ∈ l, h ≤ t.1) → (cf (lp p l * y) (h + h') = (csum l h * cf y h') % p) ∧ ∀ k, k < h + h' → cf (lp p l * y) k = 0 := by
    intro l
    induction l with
    | nil =>
      intro _
      rw [← lp_zero, show (0 : LP p) * y = 0 by grind, csum_nil]
      exact ⟨by rw [cf_zero]; simp, fun k _ => cf_zero k⟩
    | cons t l ih =>
      intro hl
      obtain ⟨i1, i2⟩ := ih fun u hu => hl u (List.mem_cons_of_mem _ hu)
      have ht := hl t (List.mem_cons_self ..)
      rw [lp_cons, show (mono p t.1 t.2 + lp p l) * y = mono p t.1 t.2 * y + lp p l * y by grind]
      refine ⟨?_, fun k hk => ?_⟩
      · rw [cf_add, i1, cf_mono_mul, csum_cons]
        by_cases e : t.1 = h
        · rw [if_pos e, e, show h + h' - h = h' by omega, ← Int.add_emod, Int.add_mul]
        · rw [if_neg e, b (h + h' - t.1) (by omega)]
          simp
      · rw [cf_add, i2 k hk, cf_mono_mul, b (k - t.1) (by omega)]
        simp
  have r := key (can x) fun t ht => by
    obtain ⟨h1, h2⟩ := (can_mem hp x t.1 t.2).mp ht
    exact Int.not_lt.mp fun z => by have := a t.1 z; omega
  rw [lp_can hp, csum_can hp] at r
  exact r
theorem Hi.mul (hp : isPr p = true) {x y : LP p} {h h' : Int} (a : Hi x h) (b : Hi y h') : Hi (x * y) (h + h') := by
  obtain ⟨c, d⟩ := cf_mul_top (isPr_pos hp).1 a.2 b.2
  exact ⟨by rw [c]; exact dig_mul hp (by rw [cf_mod]; exact a.1) (by rw [cf_mod]; exact b.1), d⟩
theorem Lo.mul (hp : isPr p = true) {x y : LP p} {h h' : Int} (a : Lo x h) (b : Lo y h') : Lo (x * y) (h + h') := by
  obtain ⟨c, d⟩ := cf_mul_bot (isPr_pos hp).1 a.2 b.2
  exact ⟨by rw [c]; exact dig_mul hp (by rw [cf_mod]; exact a.1) (by rw [cf_mod]; exact b.1), d⟩
theorem mul_ne (hp : isPr p = true) {x y : LP p} (h : x ≠ 0) (h' : y ≠ 0) : x * y ≠ 0 := by
  obtain ⟨a, ha⟩ := exists_hi (isPr_pos hp).1 h
  obtain ⟨b, hb⟩ := exists_hi (isPr_pos hp).1 h'
  exact (ha.mul hp hb).ne
theorem mul_zero_or (hp : isPr p = true) {x y : LP p} (h : x * y = 0) : x = 0 ∨ y = 0 := by
  by_cases e : x = 0
  · exact .inl e
  · by_cases e' : y = 0
    · exact .inr e'
    · exact absurd h (mul_ne hp e e')
theorem mul_cancel (hp : isPr p = true) {x y z : LP p} (hz : z ≠ 0) (h : x * z = y * z) : x = y := by
  have : (x - y) * z = 0 := by grind
  rcases mul_zero_or hp this with e | e
  · grind
  · exact absurd e hz
/-- a filter with offsets 0 .. n - 1 alone that h divides, of a span of at least n, is zero -/
theorem rem_zero (hp : isPr p = true) {r q g : LP p} {l h : Int} (hl : Lo g l) (hh : Hi g h) (hr : Bd r 0 (h - l - 1)) (e : r = q * g) : r = 0 := by
  by_cases hq : q = 0
  · rw [e, hq]; grind
  · exfalso
    obtain ⟨a, ha⟩ := exists_hi (isPr_pos hp).1 hq
    obtain ⟨b, hb⟩ := exists_lo (isPr_pos hp).1 hq
    have h1 := ha.mul hp hh
    have h2 := hb.mul hp hl
    rw [← e] at h1 h2
    have := hr _ h1.1
    have := hr _ h2.1
    have := lo_le_hi hb ha
    omega
end
end My

/-! M4: spans, normal filters, remainders, divisors. -/
namespace My
section
variable {p : Int}
noncomputable def lo (x : LP p) : Int := ((can x).head?.map (·.1)).getD 0
noncomputable def hi (x : LP p) : Int := ((can x).getLast?.map (·.1)).getD 0
noncomputable def sp (x : LP p) : Int := hi x - lo x
theorem lo_ok (hp : 0 < p) {x : LP p} (h : x ≠ 0) : Lo x (lo x) := by
  unfold lo
  cases e : (can x).head? with
  | none => exact absurd ((can_nil hp).mp (List.head?_eq_none_iff.mp e)) h
  | some t => exact (lo_of hp e).1
theorem hi_ok (hp : 0 < p) {x : LP p} (h : x ≠ 0) : Hi x (hi x) := by
  unfold hi
  cases e : (can x).getLast? with
  | none => exact absurd ((can_nil hp).mp (List.getLast?_eq_none_iff.mp e)) h
  | some t => exact (hi_of hp e).1
theorem sp_nonneg (hp : 0 < p) {x : LP p} (h : x ≠ 0) : 0 ≤ sp x := by
  have := lo_le_hi (lo_ok hp h) (hi_ok hp h)
  unfold sp; omega
theorem Lo.lo (hp : 0 < p) {x : LP p} {l : Int} (h : Lo x l) : My.lo x = l := (lo_ok hp h.ne).uniq h
theorem Hi.hi (hp : 0 < p) {x : LP p} {l : Int} (h : Hi x l) : My.hi x = l := (hi_ok hp h.ne).uniq h
theorem bd_hl (hp : 0 < p) {x : LP p} (h : x ≠ 0) : Bd x (lo x) (hi x) := .of_hl (hi_ok hp h) (lo_ok hp h)
theorem Bd.lo (hp : 0 < p) {x : LP p} {l h : Int} (b : Bd x l h) (hx : x ≠ 0) : l ≤ My.lo x ∧ My.lo x ≤ h := b _ (lo_ok hp hx).1
theorem Bd.hi (hp : 0 < p) {x : LP p} {l h : Int} (b : Bd x l h) (hx : x ≠ 0) : l ≤ My.hi x ∧ My.hi x ≤ h := b _ (hi_ok hp hx).1
theorem lo_mul (hp : isPr p = true) {x y : LP p} (hx : x ≠ 0) (hy : y ≠ 0) : lo (x * y) = lo x + lo y := ((lo_ok (isPr_pos hp).1 hx).mul hp (lo_ok (isPr_pos hp).1 hy)).lo (isPr_pos hp).1
theorem hi_mul (hp : isPr p = true) {x y : LP p} (hx : x ≠ 0) (hy : y ≠ 0) : hi (x * y) = hi x + hi y := ((hi_ok (isPr_pos hp).1 hx).mul hp (hi_ok (isPr_pos hp).1 hy)).hi (isPr_pos hp).1
theorem sp_mul (hp : isPr p = true) {x y : LP p} (hx : x ≠ 0) (hy : y ≠ 0) : sp (x * y) = sp x + sp y := by
  unfold sp; rw [lo_mul hp hx hy, hi_mul hp hx hy]; omega
theorem one_mod (hp : isPr p = true) : (1 : Int) % p = 1 := by rcases isPr_cases hp with rfl | rfl | rfl | rfl <;> decide
theorem mono_lo (k : Int) {c : Int} (h : c % p ≠ 0) : Lo (mono p k c) k := ⟨by rw [cf_mono, if_pos rfl]; exact h, fun j hj => by rw [cf_mono, if_neg (by omega)]⟩
theorem mono_hi (k : Int) {c : Int} (h : c % p ≠ 0) : Hi (mono p k c) k := ⟨by rw [cf_mono, if_pos rfl]; exact h, fun j hj => by rw [cf_mono, if_neg (by omega)]⟩
theorem one_ne (hp : isPr p = true) : (1 : LP p) ≠ 0 := (mono_lo (p := p) 0 (c := 1) (by rw [one_mod hp]; decide)).ne
/-! ### divisors -/
def Dv (x y : LP p) : Prop := ∃ q, y = q * x
theorem Dv.refl (x : LP p) : Dv x x := ⟨1, by grind⟩
theorem Dv.trans {x y z : LP p} (h : Dv x y) (h' : Dv y z) : Dv x z := by
  obtain ⟨a, rfl⟩ := h
  obtain ⟨b, rfl⟩ := h'
  exact ⟨b * a, by grind⟩
theorem Dv.zero (x : LP p) : Dv x 0 := ⟨0, by grind⟩
theorem Dv.add {x y z : LP p} (h : Dv x y) (h' : Dv x z) : Dv x (y + z) := by
  obtain ⟨a, rfl⟩ := h
  obtain ⟨b, rfl⟩ := h'
  exact ⟨a + b, by grind⟩
theorem Dv.neg {x y : LP p} (h : Dv x y) : Dv x (-y) := by
  obtain ⟨a, rfl⟩ := h
  exact ⟨-a, by grind⟩
theorem Dv.sub {x y z : LP p} (h : Dv x y) (h' : Dv x z) : Dv x (y - z) := by
  obtain ⟨a, rfl⟩ := h
  obtain ⟨b, rfl⟩ := h'
  exact ⟨a - b, by grind⟩
theorem Dv.mul {x y : LP p} (h : Dv x y) (z : LP p) : Dv x (z * y) := by
  obtain ⟨a, rfl⟩ := h
  exact ⟨z * a, by grind⟩
theorem Dv.mul' {x y : LP p} (h : Dv x y) (z : LP p) : Dv x (y * z) := by
  obtain ⟨a, rfl⟩ := h
  exact ⟨a * z, by grind⟩
theorem Dv.cancel (hp : isPr p = true) {x y z : LP p} (hz : z ≠ 0) (h : Dv (x * z) (y * z)) : Dv x y := by
  obtain ⟨a, e⟩ := h
  exact ⟨a, mul_cancel hp hz (by grind)⟩
theorem Dv.mulr {x y : LP p} (h : Dv x y) (z : LP p) : Dv (x * z) (y * z) := by
  obtain ⟨a, rfl⟩ := h
  exact ⟨a, by grind⟩
theorem dv_zero {x : LP p} (h : Dv 0 x) : x = 0 := by obtain ⟨a, rfl⟩ := h; grind
/-! ### units -/
theorem unit_mono {u : LP p} {a : Int} (h : Hi u a) (l : Lo u a) : u = mono p a (cf u a) := cf_ext fun j => by
  rw [cf_mono]
  split
  · rename_i e; subst e; rw [cf_mod]
  · rename_i e
    rcases Int.lt_or_gt_of_ne (fun z => e z.symm) with z | z
    · exact l.2 j z
    · exact h.2 j z
theorem unit_of (hp : isPr p = true) {u v : LP p} (h : u * v = 1) : ∃ a c, u = mono p a c ∧ 0 < c ∧ c < p := by
  have h0 := (isPr_pos hp).1
  have hu : u ≠ 0 := fun z => one_ne hp (by rw [← h, z]; grind)
  have hv : v ≠ 0 := fun z => one_ne hp (by rw [← h, z]; grind)
  have h1 := lo_mul hp hu hv
  have h2 := hi_mul hp hu hv
  have l1 : lo (1 : LP p) = 0 := (mono_lo (p := p) 0 (c := 1) (by rw [one_mod hp]; decide)).lo h0
  have l2 : hi (1 : LP p) = 0 := (mono_hi (p := p) 0 (c := 1) (by rw [one_mod hp]; decide)).hi h0
  rw [h] at h1 h2
  have s1 := lo_le_hi (lo_ok h0 hu) (hi_ok h0 hu)
  have s2 := lo_le_hi (lo_ok h0 hv) (hi_ok h0 hv)
  have e : lo u = hi u := by omega
  have hl := lo_ok h0 hu
  rw [e] at hl
  refine ⟨hi u, cf u (hi u), unit_mono (hi_ok h0 hu) hl, ?_, (cf_range h0 u _).2⟩
  have := (cf_range h0 u (hi u)).1
  have := hl.1
  omega
theorem mono_unit (hp : isPr p = true) {a c : Int} (h0 : 0 < c) (h1 : c < p) : mono p (-a) (invD p c) * mono p a c = 1 := by
  rw [mono_mul, ← mono_mod, (invD_mul hp h0 h1).1, show -a + a = 0 by omega]
  rfl
/-! ### normal filters -/
def Nrm (x : LP p) : Prop := x = 0 ∨ (Lo x 0 ∧ cf x (hi x) = 1)
noncomputable def nrm (x : LP p) : LP p := mono p (-lo x) (invD p (cf x (hi x))) * x
theorem cf_hi (hp : 0 < p) {x : LP p} (h : x ≠ 0) : 0 < cf x (hi x) ∧ cf x (hi x) < p := by
  have := (hi_ok hp h).1
  have := cf_range hp x (hi x)
  omega
theorem cf_lo (hp : 0 < p) {x : LP p} (h : x ≠ 0) : 0 < cf x (lo x) ∧ cf x (lo x) < p := by
  have := (lo_ok hp h).1
  have := cf_range hp x (lo x)
  omega
theorem nrm_zero : nrm (0 : LP p) = 0 := by unfold nrm; grind
theorem inv_ne (hp : isPr p = true) {c : Int} (h0 : 0 < c) (h1 : c < p) : invD p c % p ≠ 0 := by
  obtain ⟨a, b, d⟩ := invD_mul hp h0 h1
  rw [Int.emod_eq_of_lt (by omega) d]
  omega
theorem nrm_unit (hp : isPr p = true) {x : LP p} (h : x ≠ 0) : ∃ u v : LP p, u * v = 1 ∧ nrm x = u * x ∧ x = v * nrm x := by
  have h0 := (isPr_pos hp).1
  obtain ⟨c0, c1⟩ := cf_hi h0 h
  have := mono_unit hp (a := lo x) c0 c1
  refine ⟨mono p (-lo x) (invD p (cf x (hi x))), mono p (lo x) (cf x (hi x)), this, rfl, ?_⟩
  unfold nrm
  grind
theorem nrm_ne (hp : isPr p = true) {x : LP p} (h : x ≠ 0) : nrm x ≠ 0 := by
  obtain ⟨u, v, e, e1, e2⟩ := nrm_unit hp h
  intro z
  rw [z] at e2
  exact h (by rw [e2]; grind)
theorem nrm_hl (hp : isPr p = true) {x : LP p} (h : x ≠ 0) : Lo (nrm x) 0 ∧ Hi (nrm x) (sp x) ∧ cf (nrm x) (sp x) = 1 := by
  have h0 := (isPr_pos hp).1
  obtain ⟨c0, c1⟩ := cf_hi h0 h
  have hi' := inv_ne hp c0 c1
  have a := (mono_lo (-lo x) hi').mul hp (lo_ok h0 h)
  have b := (mono_hi (-lo x) hi').mul hp (hi_ok h0 h)
  rw [show -lo x + lo x = 0 by omega] at a
  rw [show -lo x + hi x = sp x by unfold sp; omega] at b
  refine ⟨a, b, ?_⟩
  unfold nrm
  rw [cf_mono_mul, show sp x - -lo x = hi x by unfold sp; omega]
  exact (invD_mul hp c0 c1).1
theorem nrm_nrm (hp : isPr p = true) (x : LP p) : Nrm (nrm x) := by
  by_cases h : x = 0
  · rw [h, nrm_zero]; exact .inl rfl
  · obtain ⟨a, b, c⟩ := nrm_hl hp h
    exact .inr ⟨a, by rw [b.hi (isPr_pos hp).1]; exact c⟩
theorem sp_nrm (hp : isPr p = true) {x : LP p} (h : x ≠ 0) : sp (nrm x) = sp x := by
  obtain ⟨a, b, c⟩ := nrm_hl hp h
  unfold sp
  rw [a.lo (isPr_pos hp).1, b.hi (isPr_pos hp).1]
  unfold sp
  omega
theorem dv_nrm (hp : isPr p = true) (x : LP p) : Dv x (nrm x) := ⟨_, rfl⟩
theorem nrm_dv (hp : isPr p = true) (x : LP p) : Dv (nrm x) x := by
  by_cases h : x = 0
  · rw [h]; exact .zero _
  · obtain ⟨u, v, e, e1, e2⟩ := nrm_unit hp h
    exact ⟨v, e2⟩
theorem nrm_uniq (hp : isPr p = true) {x y : LP p} (hx : Nrm x) (hy : Nrm y) (h : Dv x y) (h' : Dv y x) : x = y := by
  have h0 := (isPr_pos hp).1
  by_cases e : x = 0
  · rw [e] at h ⊢; exact (dv_zero h).symm
  · have ey : y ≠ 0 := fun z => e (dv_zero (z ▸ h'))
    obtain ⟨u, eu⟩ := h
    obtain ⟨v, ev⟩ := h'
    have huv : u * v = 1 := mul_cancel hp e (by grind)
    obtain ⟨a, c, rfl, c0, c1⟩ := unit_of hp huv
    rcases hx with hx | ⟨lx, cx⟩
    · exact absurd hx e
    rcases hy with hy | ⟨ly, cy⟩
    · exact absurd hy ey
    have hc : c % p ≠ 0 := by rw [Int.emod_eq_of_lt (by omega) c1]; omega
    have l2 := (mono_lo a hc).mul hp lx
    have h2 := (mono_hi a hc).mul hp (hi_ok h0 e)
    rw [← eu] at l2 h2
    have ea : a = 0 := by have := l2.uniq ly; omega
    subst ea
    have e1 := h2.hi h0
    rw [e1, eu, cf_mono_mul, show 0 + hi x - 0 = hi x by omega, cx, Int.mul_one, Int.emod_eq_of_lt (by omega) c1] at cy
    rw [eu, cy, mono_one]
    grind
theorem nrm_of (hp : isPr p = true) {x : LP p} (h : Nrm x) : nrm x = x := nrm_uniq hp (nrm_nrm hp x) h (nrm_dv hp x) (dv_nrm hp x)
theorem nrm_eq (hp : isPr p = true) {x y : LP p} (h : Dv x y) (h' : Dv y x) : nrm x = nrm y :=
  nrm_uniq hp (nrm_nrm hp x) (nrm_nrm hp y) (((nrm_dv hp x).trans h).trans (dv_nrm hp y)) (((nrm_dv hp y).trans h').trans (dv_nrm hp x))
theorem Nrm.mul (hp : isPr p = true) {x y : LP p} (hx : Nrm x) (hy : Nrm y) : Nrm (x * y) := by
  have h0 := (isPr_pos hp).1
  by_cases ex : x = 0
  · rw [ex]; exact .inl (by grind)
  by_cases ey : y = 0
  · rw [ey]; exact .inl (by grind)
  rcases hx with hx | ⟨lx, cx⟩
  · exact absurd hx ex
  rcases hy with hy | ⟨ly, cy⟩
  · exact absurd hy ey
  refine .inr ⟨lx.mul hp ly, ?_⟩
  rw [hi_mul hp ex ey, (cf_mul_top h0 (hi_ok h0 ex).2 (hi_ok h0 ey).2).1, cx, cy, Int.mul_one]
  exact one_mod hp
theorem nrm_mul (hp : isPr p = true) (x y : LP p) : nrm (x * y) = nrm x * nrm y := by
  refine nrm_uniq hp (nrm_nrm hp _) ((nrm_nrm hp x).mul hp (nrm_nrm hp y)) ?_ ?_
  · refine (nrm_dv hp _).trans ?_
    obtain ⟨a, ha⟩ := dv_nrm hp x
    obtain ⟨b, hb⟩ := dv_nrm hp y
    exact ⟨a * b, by rw [ha, hb]; grind⟩
  · refine Dv.trans ?_ (dv_nrm hp _)
    obtain ⟨a, ha⟩ := nrm_dv hp x
    obtain ⟨b, hb⟩ := nrm_dv hp y
    refine ⟨a * b, ?_⟩
    calc x * y = (a * nrm x) * (b * nrm y) := by rw [← ha, ← hb]
      _ = _ := by grind
/-! ### remainders -/
def IsMod (f g r : LP p) : Prop := (∃ q, f = q * g + r) ∧ Bd r 0 (sp g - 1)
def IsQuo (f g q : LP p) : Prop := ∃ r, f = q * g + r ∧ Bd r 0 (sp g - 1)
theorem IsMod.dv {f g r : LP p} (h : IsMod f g r) : Dv g (f - r) := by obtain ⟨⟨q, e⟩, _⟩ := h; exact ⟨q, by grind⟩
theorem mod_uniq (hp : isPr p = true) {f f' g r r' : LP p} (hg : g ≠ 0) (h : IsMod f g r) (h' : IsMod f' g r') (d : Dv g (f - f')) : r = r' := by
  have h0 := (isPr_pos hp).1
  obtain ⟨q, e⟩ := (h'.dv.sub h.dv).add d
  have e : r - r' = q * g := by rw [← e]; grind
  have := rem_zero hp (lo_ok h0 hg) (hi_ok h0 hg) (r := r - r') ((h.2.sub h'.2).mono (by omega) (by unfold sp; omega)) e
  grind
theorem quo_uniq (hp : isPr p = true) {f g q q' : LP p} (hg : g ≠ 0) (h : IsQuo f g q) (h' : IsQuo f g q') : q = q' := by
  obtain ⟨r, e, b⟩ := h
  obtain ⟨r', e', b'⟩ := h'
  have := mod_uniq hp hg (f := f) (f' := f) ⟨⟨q, e⟩, b⟩ ⟨⟨q', e'⟩, b'⟩ (by rw [show f - f = 0 by grind]; exact .zero _)
  subst this
  exact mul_cancel hp hg (by grind)
theorem mod_of_dv (hp : isPr p = true) {f g r : LP p} (hg : g ≠ 0) (h : IsMod f g r) (d : Dv g f) : r = 0 :=
  mod_uniq hp hg h (f' := 0) ⟨⟨0, by grind⟩, .zero _ _⟩ (by rw [show f - 0 = f by grind]; exact d)
theorem dv_of_mod {f g : LP p} (h : IsMod f g 0) : Dv g f := by have := h.dv; rwa [show f - 0 = f by grind] at this
theorem IsMod.nrm (hp : isPr p = true) {f g r : LP p} (hg : g ≠ 0) (h : IsMod f (nrm g) r) : IsMod f g r := by
  obtain ⟨⟨q, e⟩, b⟩ := h
  obtain ⟨u, eu⟩ := dv_nrm hp g
  exact ⟨⟨q * u, by rw [e, eu]; grind⟩, by rw [← sp_nrm hp hg]; exact b⟩
/-! ### greatest common divisors -/
def IsGcd (d f g : LP p) : Prop := Nrm d ∧ Dv d f ∧ Dv d g ∧ ∃ u v, d = u * f + v * g
theorem IsGcd.uniq (hp : isPr p = true) {d e f g : LP p} (h : IsGcd d f g) (h' : IsGcd e f g) : d = e := by
  obtain ⟨n, a, b, u, v, ed⟩ := h
  obtain ⟨n', a', b', u', v', ee⟩ := h'
  refine nrm_uniq hp n n' ?_ ?_
  · rw [ee]; exact (a.mul _).add (b.mul _)
  · rw [ed]; exact (a'.mul _).add (b'.mul _)
theorem IsGcd.of (hp : isPr p = true) {d f g : LP p} (h : IsGcd d f g) {f' g' : LP p} (h1 : Dv d f') (h2 : Dv d g') (h3 : ∃ a b, f = a * f' + b * g') (h4 : ∃ a b, g = a * f' + b * g') : IsGcd d f' g' := by
  obtain ⟨n, a, b, u, v, ed⟩ := h
  obtain ⟨c1, c2, e1⟩ := h3
  obtain ⟨c3, c4, e2⟩ := h4
  exact ⟨n, h1, h2, u * c1 + v * c3, u * c2 + v * c4, by rw [ed, e1, e2]; grind⟩
theorem IsGcd.zero (hp : isPr p = true) (f : LP p) : IsGcd (nrm f) f 0 := by
  obtain ⟨u, e⟩ := dv_nrm hp f
  exact ⟨nrm_nrm hp f, nrm_dv hp f, .zero _, u, 0, by rw [e]; grind⟩
theorem IsGcd.ne (hp : isPr p = true) {d f g : LP p} (h : IsGcd d f g) (hf : f ≠ 0 ∨ g ≠ 0) : d ≠ 0 := fun z => by
  obtain ⟨_, a, b, _⟩ := h
  rw [z] at a b
  rcases hf with hf | hf
  · exact hf (dv_zero a)
  · exact hf (dv_zero b)
theorem IsGcd.mulr (hp : isPr p = true) {d f g : LP p} (h : IsGcd d f g) (k : LP p) : IsGcd (nrm (d * k)) (f * k) (g * k) := by
  obtain ⟨n, a, b, u, v, ed⟩ := h
  obtain ⟨w, ew⟩ := dv_nrm hp (d * k)
  refine ⟨nrm_nrm hp _, (nrm_dv hp _).trans (a.mulr k), (nrm_dv hp _).trans (b.mulr k), w * u, w * v, ?_⟩
  rw [ew, ed]
  grind
def IsLcm (m f g : LP p) : Prop := ∃ d q, IsGcd d f g ∧ f * g = q * d ∧ ((f = 0 ∨ g = 0) → m = 0) ∧ (f ≠ 0 → g ≠ 0 → m = nrm q)
end
end My

namespace My
open PySem PySem.Spec L2 DL
/-- data that isinstance can be asked of -/
def okD (d : D) : Prop := ∃ t, tyD d = some t ∧ ∀ c, t = .own c → c ∈ CS
def isInt : D → Bool
  | .int _ => true
  | _ => false
def isLst : D → Bool
  | .lst _ => true
  | .tup _ => true
  | _ => false
def trm (t : Int × Int) : D := .tup [.int t.1, .int t.2]
def kvp (t : Int × Int) : Key × D := (.inl t.1, .int t.2)
def flt (p : Int) (ts : Tm) : List (Str × D) := [("prime", .int p), ("kept", .lst (ts.map trm)), ("held", .dct (ts.map kvp))]
def fob (p : Int) (ts : Tm) : D := .obj "Filter" (flt p ts)
theorem find_kvp (k : Int) : ∀ m : Tm, (m.map kvp).find? (fun kv => decide (kv.1 = Sum.inl k)) = (m.find? fun t => decide (t.1 = k)).map kvp
  | [] => rfl
  | t :: m => by
    rw [List.map_cons, List.find?_cons, List.find?_cons, find_kvp k m]
    have e : decide ((kvp t).1 = (Sum.inl k : Key)) = decide (t.1 = k) := by simp [kvp]
    rw [e]
    cases decide (t.1 = k) <;> rfl
theorem get_kvp (m : Tm) (k : Int) : (DL.getD (m.map kvp) (.inl k)).getD (.int 0) = .int (getI m k) := by
  unfold DL.getD getI
  rw [find_kvp]
  cases m.find? (fun t => decide (t.1 = k)) <;> rfl
theorem get_kvp' {m : Tm} {k : Int} (h : k ∈ m.map (·.1)) : DL.getD (m.map kvp) (.inl k) = some (.int (getI m k)) := by
  have e := get_kvp m k
  cases q : DL.getD (m.map kvp) (.inl k) with
  | some d => rw [q] at e; exact congrArg some e
  | none =>
    unfold DL.getD at q
    rw [find_kvp] at q
    have q1 := Option.map_eq_none_iff.mp (Option.map_eq_none_iff.mp q)
    rw [List.find?_eq_none] at q1
    obtain ⟨t, h1, h2⟩ := List.mem_map.mp h
    exact absurd (by simpa using h2) (q1 t h1)
theorem put_kvp (m : Tm) (k v : Int) : putD (m.map kvp) (.inl k) (.int v) = (putI m k v).map kvp := by
  have e : ((m.map kvp).any fun kv => decide (kv.1 = Sum.inl k)) = m.any fun t => decide (t.1 = k) := by
    rw [List.any_map]
    congr 1
    funext t
    simp [kvp]
  unfold putD putI
  rw [e]
  split
  · rw [List.map_map, List.map_map]
    refine List.map_congr_left fun t _ => ?_
    by_cases h : t.1 = k
    · simp [kvp, h]
    · simp [kvp, h]
  · rw [List.map_append]
    rfl
theorem keys_kvp (m : Tm) : ((m.map kvp).map fun kv => keyOf kv.1) = (m.map (·.1)).map D.int := by
  rw [List.map_map, List.map_map]
  rfl
theorem ok_int (i : Int) : okD (.int i) := ⟨_, rfl, fun c e => nomatch e⟩
theorem ok_lst (ds : List D) : okD (.lst ds) := ⟨_, rfl, fun c e => nomatch e⟩
theorem ok_tup (ds : List D) : okD (.tup ds) := ⟨_, rfl, fun c e => nomatch e⟩
theorem ok_obj {c : Str} (h : c ∈ CS) (fs : List (Str × D)) : okD (.obj c fs) := ⟨_, rfl, fun c' e => by cases e; exact h⟩
theorem ok_fob (p : Int) (ts : Tm) : okD (fob p ts) := ok_obj cs_Filter _
theorem ok_non : okD .non := ⟨_, rfl, fun c e => nomatch e⟩
theorem ok_bl (b : Bool) : okD (.bl b) := ⟨_, rfl, fun c e => nomatch e⟩
theorem ok_str (b : Str) : okD (.str b) := ⟨_, rfl, fun c e => nomatch e⟩
theorem ok_dct (b : List (Key × D)) : okD (.dct b) := ⟨_, rfl, fun c e => nomatch e⟩
theorem isa_int_int : isaB "int" (.b "int") = true := by decide
theorem isa_int_bool : isaB "int" (.b "bool") = true := by decide
theorem isa_int_list : isaB "int" (.b "list") = false := by decide
theorem isa_int_tuple : isaB "int" (.b "tuple") = false := by decide
theorem isa_int_str : isaB "int" (.b "str") = false := by decide
theorem isa_int_NoneType : isaB "int" (.b "NoneType") = false := by decide
theorem isa_int_dict : isaB "int" (.b "dict") = false := by decide
theorem isa_int_own (c : Str) : isaB "int" (.own c) = false := rfl
theorem isa_bool_int : isaB "bool" (.b "int") = false := by decide
theorem isa_bool_bool : isaB "bool" (.b "bool") = true := by decide
theorem isa_bool_list : isaB "bool" (.b "list") = false := by decide
theorem isa_bool_tuple : isaB "bool" (.b "tuple") = false := by decide
theorem isa_bool_str : isaB "bool" (.b "str") = false := by decide
theorem isa_bool_NoneType : isaB "bool" (.b "NoneType") = false := by decide
theorem isa_bool_dict : isaB "bool" (.b "dict") = false := by decide
theorem isa_bool_own (c : Str) : isaB "bool" (.own c) = false := rfl
theorem isa_list_int : isaB "list" (.b "int") = false := by decide
theorem isa_list_bool : isaB "list" (.b "bool") = false := by decide
theorem isa_list_list : isaB "list" (.b "list") = true := by decide
theorem isa_list_tuple : isaB "list" (.b "tuple") = false := by decide
theorem isa_list_str : isaB "list" (.b "str") = false := by decide
theorem isa_list_NoneType : isaB "list" (.b "NoneType") = false := by decide
theorem isa_list_dict : isaB "list" (.b "dict") = false := by decide
theorem isa_list_own (c : Str) : isaB "list" (.own c) = false := rfl
theorem isa_tuple_int : isaB "tuple" (.b "int") = false := by decide
theorem isa_tuple_bool : isaB "tuple" (.b "bool") = false := by decide
theorem isa_tuple_list : isaB "tuple" (.b "list") = false := by decide
theorem isa_tuple_tuple : isaB "tuple" (.b "tuple") = true := by decide
theorem isa_tuple_str : isaB "tuple" (.b "str") = false := by decide
theorem isa_tuple_NoneType : isaB "tuple" (.b "NoneType") = false := by decide
theorem isa_tuple_dict : isaB "tuple" (.b "dict") = false := by decide
theorem isa_tuple_own (c : Str) : isaB "tuple" (.own c) = false := rfl
theorem ty_int (i : Int) : tyD (.int i) = some (.b "int") := rfl
theorem ty_bl (i : Bool) : tyD (.bl i) = some (.b "bool") := rfl
theorem ty_str (i : Str) : tyD (.str i) = some (.b "str") := rfl
theorem ty_lst (i : List D) : tyD (.lst i) = some (.b "list") := rfl
theorem ty_tup (i : List D) : tyD (.tup i) = some (.b "tuple") := rfl
theorem ty_dct (i : List (Key × D)) : tyD (.dct i) = some (.b "dict") := rfl
theorem ty_non : tyD .non = some (.b "NoneType") := rfl
theorem ty_obj (c : Str) (fs : List (Str × D)) : tyD (.obj c fs) = some (.own c) := rfl
theorem own_b {P : Str → Prop} (s : String) : (∀ c, Ty.b s = .own c → P c) ↔ True := ⟨fun _ => trivial, fun _ c e => nomatch e⟩
def enumF (i : Nat) : List D → List D
  | [] => []
  | d :: ds => .tup [.int (i : Int), d] :: enumF (i + 1) ds
theorem enumF_get : ∀ (ds : List D) (i j : Nat), (enumF i ds)[j]? = ds[j]?.map fun d => D.tup [.int ((i + j : Nat) : Int), d]
  | [], i, j => by simp [enumF]
  | d :: ds, i, 0 => by simp [enumF]
  | d :: ds, i, j + 1 => by
    rw [enumF, List.getElem?_cons_succ, List.getElem?_cons_succ, enumF_get ds (i + 1) j]
    rw [show i + 1 + j = i + (j + 1) by omega]
theorem enumD_eq (ds : List D) : enumD ds = enumF 0 ds := by
  refine List.ext_getElem? fun j => ?_
  rw [enumF_get, enumD, List.getElem?_map]
  by_cases h : j < ds.length
  · rw [List.getElem?_range h, List.getElem?_eq_getElem h]
    simp [List.getD, h]
  · rw [List.getElem?_eq_none (by simpa using h), List.getElem?_eq_none (by omega)]
    rfl
theorem forD_nil {γ : DG} {b : DS} {E : DEnds} {ρ : DL.Env} {n : Nat} : forD γ b [] E ρ n = E.nx ρ n := rfl
theorem forD_cons {γ : DG} {b : DS} {E : DEnds} {ρ : DL.Env} {n : Nat} {d : D} {ds : List D} : forD γ b (d :: ds) E ρ n = γ d ρ fun ρ1 => b { E with nx := forD γ b ds E, ct := forD γ b ds E, bk := E.nx } ρ1 n := rfl
theorem ix0 (a b : D) : atI [a, b] 0 = some a := rfl
theorem ix1 (a b : D) : atI [a, b] 1 = some b := rfl
theorem kvp_len (m : Tm) : (m.map kvp).length = m.length := List.length_map ..
theorem trm_len (m : Tm) : (m.map trm).length = m.length := List.length_map ..
/-- a comprehension whose parts draw nothing -/
theorem lcD_map {w : Wd} {γ : DG} {tt : DT} {te : DE} {ρ : DL.Env} {n : Nat} (f : D → Option D) : ∀ (ds acc : List D) (q : List D → Nat → Prop), (∀ d ∈ ds, ∀ K : Option D → Nat → Prop, K (f d) n → γ d ρ fun ρ1 => tt (x0 w) ρ1 n fun b n1 => if b = true then te (x0 w) ρ1 n1 (fun y n2 => K (some y) n2) else K none n1) →
    acc.length + ds.length < 16777216 → q (acc ++ ds.filterMap f) n → lcD w γ tt te ds ρ n acc q
  | [], acc, q, _, _, h => by simpa [lcD] using h
  | d :: ds, acc, q, hs, hl, h => by
    rw [List.length_cons] at hl
    refine hs d (List.mem_cons_self ..) (fun o n' => match o with
      | some y => acc.length < 16777216 ∧ lcD w γ tt te ds ρ n' (acc ++ [y]) q
      | none => lcD w γ tt te ds ρ n' acc q) ?_
    rw [List.filterMap_cons] at h
    cases e : f d with
    | none =>
      rw [e] at h
      exact lcD_map f ds acc q (fun d hd => hs d (List.mem_cons_of_mem _ hd)) (by omega) h
    | some y =>
      rw [e] at h
      refine ⟨by omega, lcD_map f ds (acc ++ [y]) q (fun d hd => hs d (List.mem_cons_of_mem _ hd)) (by rw [List.length_append, List.length_singleton]; omega) ?_⟩
      rw [List.append_assoc]
      exact h
theorem lcD_of {α : Type} {w : Wd} {γ : DG} {tt : DT} {te : DE} {ρ : DL.Env} {n : Nat} (g : α → D) (f : α → Option D) : ∀ (xs : List α) (acc : List D) (q : List D → Nat → Prop), (∀ a ∈ xs, ∀ K : Option D → Nat → Prop, K (f a) n → γ (g a) ρ fun ρ1 => tt (x0 w) ρ1 n fun b n1 => if b = true then te (x0 w) ρ1 n1 (fun y n2 => K (some y) n2) else K none n1) →
    acc.length + xs.length < 16777216 → q (acc ++ xs.filterMap f) n → lcD w γ tt te (xs.map g) ρ n acc q
  | [], acc, q, _, _, h => by simpa [lcD] using h
  | d :: ds, acc, q, hs, hl, h => by
    rw [List.length_cons] at hl
    rw [List.map_cons]
    refine hs d (List.mem_cons_self ..) (fun o n' => match o with
      | some y => acc.length < 16777216 ∧ lcD w γ tt te (ds.map g) ρ n' (acc ++ [y]) q
      | none => lcD w γ tt te (ds.map g) ρ n' acc q) ?_
    rw [List.filterMap_cons] at h
    cases e : f d with
    | none =>
      rw [e] at h
      exact lcD_of g f ds acc q (fun d hd => hs d (List.mem_cons_of_mem _ hd)) (by omega) h
    | some y =>
      rw [e] at h
      refine ⟨by omega, lcD_of g f ds (acc ++ [y]) q (fun d hd => hs d (List.mem_cons_of_mem _ hd)) (by rw [List.length_append, List.length_singleton]; omega) ?_⟩
      rw [List.append_assoc]
      exact h
/-- every item gives one -/
theorem lcD_all {α : Type} {w : Wd} {γ : DG} {tt : DT} {te : DE} {ρ : DL.Env} {n : Nat} (g f : α → D) (xs : List α) (q : List D → Nat → Prop) (h : ∀ a ∈ xs, ∀ K : Option D → Nat → Prop, K (some (f a)) n → γ (g a) ρ fun ρ1 => tt (x0 w) ρ1 n fun b n1 => if b = true then te (x0 w) ρ1 n1 (fun y n2 => K (some y) n2) else K none n1)
    (hl : xs.length < 16777216) (hq : q (xs.map f) n) : lcD w γ tt te (xs.map g) ρ n [] q := by
  refine lcD_of g (fun a => some (f a)) xs [] q h (by simpa using hl) ?_
  rw [List.nil_append]
  have : xs.filterMap (fun a => some (f a)) = xs.map f := by
    clear h hl hq
    induction xs with
    | nil => rfl
    | cons a xs ih => rw [List.filterMap_cons]; simp [ih]
  rw [this]
  exact hq
theorem intsD_map : ∀ ks : List Int, intsD (ks.map D.int) = some ks
  | [] => rfl
  | k :: ks => by rw [List.map_cons, intsD, intsD_map ks]; rfl
theorem fm_some (ds : List D) : ds.filterMap some = ds := List.filterMap_some ..
theorem fm_if (g : Int → Bool) (h : Int → D) : ∀ ks : List Int, (ks.filterMap fun k => if g k = true then some (h k) else none) = (ks.filter g).map h
  | [] => rfl
  | k :: ks => by
    rw [List.filterMap_cons, List.filter_cons]
    cases e : g k
    · rw [if_neg Bool.false_ne_true, if_neg Bool.false_ne_true, fm_if g h ks]
    · rw [if_pos rfl, if_pos rfl, List.map_cons, fm_if g h ks]
theorem pairs_trm : ∀ m : Tm, pairsD (m.map trm) = some (m.map kvp)
  | [] => rfl
  | t :: m => by
    rw [List.map_cons, List.map_cons]
    show ((keyD (D.int t.1)).bind fun j => (pairsD (m.map trm)).map ((j, D.int t.2) :: ·)) = _
    rw [pairs_trm m]
    rfl
theorem merge_kvp : ∀ (m a : Tm), ((a ++ m).map (·.1)).Nodup → mergeD (a.map kvp) (m.map kvp) = (a ++ m).map kvp
  | [], a, _ => by rw [List.append_nil]; rfl
  | t :: m, a, h => by
    rw [List.map_cons]
    show mergeD (putD (a.map kvp) (.inl t.1) (.int t.2)) (m.map kvp) = _
    have nm : t.1 ∉ a.map (·.1) := fun z => by
      rw [List.map_append, List.nodup_append] at h
      exact h.2.2 t.1 z t.1 (by rw [List.map_cons]; exact List.mem_cons_self ..) rfl
    have e : putI a t.1 t.2 = a ++ [t] := by
      unfold putI
      rw [if_neg (fun z => nm ((any_iff a t.1).mp z))]
    rw [put_kvp, e, merge_kvp m (a ++ [t]) (by rw [List.append_assoc]; exact h), List.append_assoc]
    rfl
theorem merge_kvp0 {m : Tm} (h : (m.map (·.1)).Nodup) : mergeD [] (m.map kvp) = m.map kvp := merge_kvp m [] h
theorem set_flt (a b c : D) : setF "held" c (setF "kept" b (setF "prime" a [])) = ([("prime", a), ("kept", b), ("held", c)] : List (Str × D)) := rfl
theorem hsum_key {p : Int} {ts : Tm} {k : Int} (h : k ∈ srt ((hsum p ts).map (·.1))) : k ∈ (hsum p ts).map (·.1) := (srt_perm _).mem_iff.mp h
def keepF (S : Tm) : D → Option D
  | .int k => if decide (0 < getI S k) = true then some (trm (k, getI S k)) else none
  | _ => none
theorem keepF_eq (p : Int) (ts : Tm) : ((srt ((hsum p ts).map (·.1))).map D.int).filterMap (keepF (hsum p ts)) = (canon p ts).map trm := by
  rw [List.filterMap_map]
  have e := fm_if (fun k => decide (0 < getI (hsum p ts) k)) (fun k => trm (k, getI (hsum p ts) k)) (srt ((hsum p ts).map (·.1)))
  exact e.trans (by unfold canon; rw [List.map_map]; rfl)
theorem lk_kept (a b : D) : List.lookup ("kept" : Str) (setF "kept" b (setF "prime" a [])) = some b := rfl
theorem lk1 (p : Int) (ts : Tm) : List.lookup ("prime" : Str) (flt p ts) = some (.int p) := rfl
theorem lk2 (p : Int) (ts : Tm) : List.lookup ("kept" : Str) (flt p ts) = some (.lst (ts.map trm)) := rfl
theorem lk3 (p : Int) (ts : Tm) : List.lookup ("held" : Str) (flt p ts) = some (.dct (ts.map kvp)) := rfl
theorem lkT (p : Int) (ts : Tm) : List.lookup ("terms" : Str) (flt p ts) = none := rfl
def pairF (S : Tm) : D → Option D
  | .int k => some (trm (k, getI S k))
  | _ => none
theorem pairF_eq' (S : Tm) : ∀ ts : Tm, (∀ t ∈ ts, getI S t.1 = t.2) → ((ts.map (·.1)).map D.int).filterMap (pairF S) = ts.map trm
  | [], _ => rfl
  | t :: ts, h => by
    rw [List.map_cons, List.map_cons, List.filterMap_cons, pairF_eq' S ts (fun u hu => h u (List.mem_cons_of_mem _ hu))]
    simp only [pairF]
    rw [h t (List.mem_cons_self ..)]
    rfl
theorem pairF_eq {ts : Tm} (h : (ts.map (·.1)).Nodup) : ((ts.map (·.1)).map D.int).filterMap (pairF ts) = ts.map trm := pairF_eq' ts ts fun t ht => getI_mem h ht
theorem putI_new {m : Tm} {k : Int} (v : Int) (h : k ∉ m.map (·.1)) : putI m k v = m ++ [(k, v)] := by
  unfold putI
  rw [if_neg (fun z => h ((any_iff m k).mp z))]
theorem items_kvp (m : Tm) : itemsD (m.map kvp) = m.map trm := by
  unfold itemsD
  rw [List.map_map]
  rfl
theorem rng_len (lo : Int) (n : Nat) : (rngD lo n).length = n := by simp [rngD]
theorem sh_int (i : Int) : SeqAt.shaped (pyD (.int i)) = true := rfl
theorem sh_bl (b : Bool) : SeqAt.shaped (pyD (.bl b)) = true := rfl
theorem eq_int (i : Int) : (pyD (.int i)).eqv (pyD (.int i)) = true := SeqAt.eqv_refl _ rfl
theorem eq_bl (b : Bool) : (pyD (.bl b)).eqv (pyD (.bl b)) = true := SeqAt.eqv_refl _ rfl
theorem zip_self (ds : List D) : zipD ds ds = ds.map fun d => D.tup [d, d] := by
  unfold zipD
  induction ds with
  | nil => rfl
  | cons d ds ih => rw [List.zip_cons_cons, List.map_cons, List.map_cons, ih]
def yesF : D → Option D := fun _ => some (.bl true)
theorem bools_yes : ∀ ds : List D, boolsD (ds.filterMap yesF) = some (List.replicate ds.length true)
  | [] => rfl
  | d :: ds => by
    show (boolsD (ds.filterMap yesF)).map (true :: ·) = _
    rw [bools_yes ds]
    rfl
theorem all_yes (n : Nat) : (List.replicate n true).all id = true := by simp
/-- a loop by what stands before each turn; k: the turns left -/
theorem forD_ind {γ : DG} {b : DS} {E : DEnds} (I : DL.Env → Nat → Nat → Prop)
    (step : ∀ (ρ : DL.Env) (n k : Nat) (d : D) (R : DL.Env → Nat → Prop), I ρ n (k + 1) → (∀ ρ' n', I ρ' n' k → R ρ' n') → γ d ρ fun ρ1 => b { E with nx := R, ct := R, bk := E.nx } ρ1 n)
    (done : ∀ ρ n, I ρ n 0 → E.nx ρ n) : ∀ (ds : List D) (ρ : DL.Env) (n : Nat), I ρ n ds.length → forD γ b ds E ρ n
  | [], ρ, n, h => done ρ n h
  | d :: ds, ρ, n, h => step ρ n ds.length d (forD γ b ds E) h fun ρ' n' h' => forD_ind I step done ds ρ' n' h'

/-! loops, comprehensions by what stands before each turn -/
theorem forD_pre {α : Type} {γ : DG} {b : DS} {E : DEnds} {f : α → D} (xs : List α) (I : List α → DL.Env → Nat → Prop)
    (step : ∀ pre a post, xs = pre ++ a :: post → ∀ (ρ : DL.Env) (n : Nat) (R : DL.Env → Nat → Prop), I pre ρ n → (∀ ρ' n', I (pre ++ [a]) ρ' n' → R ρ' n') → γ (f a) ρ fun ρ1 => b { E with nx := R, ct := R, bk := E.nx } ρ1 n)
    (done : ∀ ρ n, I xs ρ n → E.nx ρ n) {ρ : DL.Env} {n : Nat} (h0 : I [] ρ n) : forD γ b (xs.map f) E ρ n := by
  have go : ∀ (post pre : List α), xs = pre ++ post → ∀ ρ n, I pre ρ n → forD γ b (post.map f) E ρ n := by
    intro post
    induction post with
    | nil => intro pre e ρ n h; rw [List.append_nil] at e; subst e; exact done ρ n h
    | cons a post ih =>
      intro pre e ρ n h
      rw [List.map_cons, forD_cons]
      exact step pre a post e ρ n _ h fun ρ' n' h' => ih (pre ++ [a]) (by rw [e, List.append_assoc]; rfl) ρ' n' h'
  exact go xs [] rfl ρ n h0
theorem while_inv {τ : DT} {b : DS} {E : DEnds} (I : Nat → DL.Env → Nat → Prop)
    (step : ∀ (m : Nat) (ρ : DL.Env) (n : Nat) (R : DL.Env → Nat → Prop), I m ρ n → (∀ m' ρ' n', m = m' + 1 → I m' ρ' n' → R ρ' n') → τ (E.xx ρ) ρ n fun c n1 => if c = true then b { E with nx := R, ct := R, bk := E.nx } ρ n1 else E.nx ρ n1) :
    ∀ (m : Nat) (ρ : DL.Env) (n : Nat), I m ρ n → whileD τ b (m + 1) E ρ n
  | 0, ρ, n, h => step 0 ρ n (whileD τ b 0 E) h fun m' _ _ e _ => nomatch e
  | m + 1, ρ, n, h => step (m + 1) ρ n (whileD τ b (m + 1) E) h fun m' ρ' n' e h' => by cases e; exact while_inv I step m ρ' n' h'
theorem while_run {τ : DT} {b : DS} {E : DEnds} {ρ : DL.Env} {n : Nat} (I : Nat → DL.Env → Nat → Prop) (m : Nat) (h0 : I m ρ n)
    (step : ∀ (m : Nat) (ρ : DL.Env) (n : Nat) (R : DL.Env → Nat → Prop), I m ρ n → (∀ m' ρ' n', m = m' + 1 → I m' ρ' n' → R ρ' n') → τ (E.xx ρ) ρ n fun c n1 => if c = true then b { E with nx := R, ct := R, bk := E.nx } ρ n1 else E.nx ρ n1) : dWhile τ b E ρ n := ⟨m + 1, while_inv I step m ρ n h0⟩
/-- a comprehension with a word about what is gathered -/
theorem lcD_pre {α : Type} {w : Wd} {γ : DG} {tt : DT} {te : DE} {ρ : DL.Env} {q : List D → Nat → Prop} (g : α → D) (xs : List α) (I : List α → List D → Nat → Prop)
    (step : ∀ pre a post, xs = pre ++ a :: post → ∀ (acc : List D) (n : Nat) (R : List D → Nat → Prop), I pre acc n → (∀ acc' n', I (pre ++ [a]) acc' n' → R acc' n') → γ (g a) ρ fun ρ1 => tt (x0 w) ρ1 n fun b n1 => if b = true then te (x0 w) ρ1 n1 (fun y n2 => acc.length < 16777216 ∧ R (acc ++ [y]) n2) else R acc n1)
    (done : ∀ acc n, I xs acc n → q acc n) {n : Nat} (h0 : I [] [] n) : lcD w γ tt te (xs.map g) ρ n [] q := by
  have go : ∀ (post pre : List α), xs = pre ++ post → ∀ acc n, I pre acc n → lcD w γ tt te (post.map g) ρ n acc q := by
    intro post
    induction post with
    | nil =>
      intro pre e acc n h
      rw [List.append_nil] at e
      exact done acc n (e ▸ h)
    | cons a post ih =>
      intro pre e acc n h
      exact step pre a post e acc n (fun acc' n' => lcD w γ tt te (post.map g) ρ n' acc' q) h fun acc' n' h' => ih (pre ++ [a]) (by rw [e, List.append_assoc]; rfl) acc' n' h'
  exact go xs [] rfl [] n h0
theorem rngD_map (lo : Int) (n : Nat) : rngD lo n = (List.range n).map fun (i : Nat) => D.int (lo + (i : Int)) := rfl
theorem rngC_map (lo c : Int) (n : Nat) : rngC lo c n = (List.range n).map fun (i : Nat) => D.int (lo + (i : Int) * c) := rfl
/-! == of plain data -/
theorem eqv_int (a b : Int) : (pyD (.int a)).eqv (pyD (.int b)) = decide (a = b) := by
  show PyData.eqv (.int a) (.int b) = _
  simp [PyData.eqv]
  rfl
theorem eqv_trm (t u : Int × Int) : (pyD (trm t)).eqv (pyD (trm u)) = decide (t = u) := by
  obtain ⟨a, b⟩ := t
  obtain ⟨c, d⟩ := u
  have e1 := eqv_int a c
  have e2 := eqv_int b d
  simp only [pyD] at e1 e2
  simp only [trm, pyD, pyL, PyData.eqv, PyData.eqvAll, Prod.mk.injEq] at e1 e2 ⊢
  simp [Bool.and_true, e1, e2]
theorem eqvAll_trm : ∀ ts us : Tm, PyData.eqvAll (pyL (ts.map trm)) (pyL (us.map trm)) = decide (ts = us)
  | [], [] => by simp [pyL, PyData.eqvAll]
  | [], u :: us => by simp [pyL, PyData.eqvAll]
  | t :: ts, [] => by simp [pyL, PyData.eqvAll]
  | t :: ts, u :: us => by
    rw [List.map_cons, List.map_cons, pyL, pyL, PyData.eqvAll, eqv_trm, eqvAll_trm ts us]
    by_cases h1 : t = u <;> by_cases h2 : ts = us <;> simp [h1, h2]
theorem eqv_trms (ts us : Tm) : (pyD (.lst (ts.map trm))).eqv (pyD (.lst (us.map trm))) = decide (ts = us) := by
  simp only [pyD, PyData.eqv]
  exact eqvAll_trm ts us
theorem lay_trms : ∀ ts : Tm, PyData.canLayAll0 (pyL (ts.map trm)) = true
  | [] => rfl
  | t :: ts => by
    rw [List.map_cons, pyL]
    show (PyData.canLay0 (pyD (trm t)) && PyData.canLayAll0 (pyL (ts.map trm))) = true
    rw [lay_trms ts]
    rfl
theorem depth_trms : ∀ ts : Tm, PyData.depthAll (pyL (ts.map trm)) ≤ 2
  | [] => by decide
  | t :: ts => by
    rw [List.map_cons, pyL]
    have := depth_trms ts
    show max (PyData.depth (pyD (trm t))) (PyData.depthAll (pyL (ts.map trm))) ≤ 2
    have : PyData.depth (pyD (trm t)) ≤ 2 := by simp [trm, pyD, pyL, PyData.depth, PyData.depthAll]
    omega
theorem sh_trms (ts : Tm) : SeqAt.shaped (pyD (.lst (ts.map trm))) = true := by
  unfold SeqAt.shaped
  rw [Bool.and_eq_true_iff]
  refine ⟨by simpa [pyD, PyData.canLay0] using lay_trms ts, ?_⟩
  have := depth_trms ts
  simp only [pyD, PyData.depth]
  exact decide_eq_true (by omega)
theorem at0 (a : D) (l : List D) : atI (a :: l) 0 = some a := atI_nat (j := 0) rfl
theorem atLast {l : List D} {a : D} (h : l.getLast? = some a) : atI l (-1) = some a := by
  obtain ⟨ys, rfl⟩ := List.getLast?_eq_some_iff.mp h
  unfold atI
  have e : ixN (ys ++ [a]).length (-1) = some ys.length := by
    unfold ixN
    rw [if_neg (by decide), if_pos (by rw [List.length_append, List.length_singleton]; omega)]
    congr 1
    rw [List.length_append, List.length_singleton]
    omega
  rw [e]
  show (ys ++ [a])[ys.length]? = some a
  simp
def F_is_integer : DF := fun _ ds n q _ => match ds with
  | [d] => okD d ∧ q (.bl (isInt d)) n
  | _ => False
def F_is_list : DF := fun _ ds n q _ => match ds with
  | [d] => okD d ∧ q (.bl (isLst d)) n
  | _ => False
def F_is_prime : DF := fun _ ds n q _ => match ds with
  | [.int p] => q (.bl (isPr p)) n
  | _ => False
def F_check_primes : DF := fun _ ds n q xx => match ds with
  | [.obj c fs, .obj d gs] => c = "Filter" ∧ d = "Filter" ∧ ∃ p : Int, fs.lookup ("prime" : Str) = some (.int p) ∧ (gs.lookup ("prime" : Str) = some (.int p) ∧ q .non n ∨ ∃ p' : Int, p ≠ p' ∧ gs.lookup ("prime" : Str) = some (.int p') ∧ xx ("UnlikePrimes", []) n)
  | _ => False
def F_is_term : DF := fun _ ds n q _ => match ds with
  | [.tup [.int _, .int _]] => q (.bl true) n
  | _ => False
def F_Filter___init__ : DFI := fun _ ds n q _ => ∃ p d ts, ds = [.int p, d] ∧ seqD d = some (ts.map trm) ∧ isPr p = true ∧ ts.length < 8000000 ∧ q (flt p (canon p ts)) n
def F__law_pick : DF := fun W ds n q _ => match ds with
  | [.hnd s, .lst es] => (∃ c, W = sprW s c) ∧ 0 < es.length ∧ es.length < 1000000 ∧ n < 1000000 ∧ ∀ d ∈ es, q d (n + 1)
  | _ => False
/-- plain data of depth at most k -/
def pl : Nat → D → Prop
  | 0, d => match d with
    | .int _ => True
    | .bl _ => True
    | _ => False
  | k + 1, d => match d with
    | .lst ds => ds.length < 10000000 ∧ ∀ d ∈ ds, pl k d
    | .tup ds => ds.length < 10000000 ∧ ∀ d ∈ ds, pl k d
    | .int _ => True
    | .bl _ => True
    | _ => False
def F__law_same (k : Nat) : DF := fun _ ds n q _ => ∃ d, ds = [d, d] ∧ pl k d ∧ q (.bl true) n
abbrev F__law_same3 : DF := F__law_same 3
def F__law_held : DF := fun _ ds n q _ => ∃ p ts, ds = [.int p, .lst (ts.map trm)] ∧ 0 < p ∧ ts.length < 1000000 ∧ q (.dct ((canon p ts).map kvp)) n
def F__law_pairs : DF := fun _ ds n q _ => ∃ ts : Tm, ds = [.dct (ts.map kvp)] ∧ (ts.map (·.1)).Nodup ∧ ts.length < 1000000 ∧ q (.lst (ts.map trm)) n
def F__law_prime : DF := fun W ds n q _ => ∃ s, ds = [.hnd s] ∧ (∃ c, W = sprW s c) ∧ n < 1000000 ∧ ∀ p, isPr p = true → q (.int p) (n + 1)
end My

/-! P0: what the defs about filters promise. -/
namespace My
open PySem PySem.Spec L2 DL
noncomputable def fo {p : Int} (x : LP p) : D := fob p (can x)
noncomputable def dk {p : Int} (x : LP p) : D := .dct ((can x).map kvp)
noncomputable def tl {p : Int} (x : LP p) : D := .lst ((can x).map trm)
/-- the digits 0 .. n - 1 -/
noncomputable def dg {p : Int} (x : LP p) (n : Nat) : List Int := (List.range n).map fun (i : Nat) => cf x (i : Int)
def F_Filter_terms : DF := fun _ ds n q _ => ∃ p ts, ds = [fob p ts] ∧ q (.lst (ts.map trm)) n
def F_Filter___bool__ : DF := fun _ ds n q _ => ∃ p ts, ds = [fob p ts] ∧ q (.bl (!ts.isEmpty)) n
def F_Filter___getitem__ : DF := fun _ ds n q _ => ∃ p ts k, ds = [fob p ts, .int k] ∧ q (.int (getI ts k)) n
def F_Filter___eq__ : DF := fun _ ds n q _ => ∃ p ts p' ts', ds = [fob p ts, fob p' ts'] ∧ ts.length < 1000000 ∧ ts'.length < 1000000 ∧ q (.bl (decide (p = p' ∧ ts = ts'))) n
def oi : Option Int → D
  | some i => .int i
  | none => .non
def F_Filter_low : DF := fun _ ds n q _ => ∃ p ts, ds = [fob p ts] ∧ q (oi (ts.head?.map (·.1))) n
def F_Filter_high : DF := fun _ ds n q _ => ∃ p ts, ds = [fob p ts] ∧ q (oi (ts.getLast?.map (·.1))) n
def F_Filter_span : DF := fun _ ds n q _ => ∃ p ts, ds = [fob p ts] ∧ q (oi (ts.getLast?.bind fun b => ts.head?.map fun a => b.1 - a.1)) n
def F_Filter_normal : DF := fun _ ds n q _ => ∃ p, ∃ x : LP p, ds = [fo x] ∧ isPr p = true ∧ nt x < 2000000 ∧ q (fo (nrm x)) n
def F_Filter___add__ : DF := fun _ ds n q xx => (∃ p, ∃ x y : LP p, ds = [fo x, fo y] ∧ isPr p = true ∧ nt x + nt y < 1000000 ∧ q (fo (x + y)) n) ∨ ∃ p p', ∃ x : LP p, ∃ y : LP p', ds = [fo x, fo y] ∧ p ≠ p' ∧ xx ("UnlikePrimes", []) n
def F_Filter___sub__ : DF := fun _ ds n q xx => (∃ p, ∃ x y : LP p, ds = [fo x, fo y] ∧ isPr p = true ∧ nt x + nt y < 1000000 ∧ q (fo (x - y)) n) ∨ ∃ p p', ∃ x : LP p, ∃ y : LP p', ds = [fo x, fo y] ∧ p ≠ p' ∧ xx ("UnlikePrimes", []) n
def F_Filter___neg__ : DF := fun _ ds n q _ => ∃ p, ∃ x : LP p, ds = [fo x] ∧ isPr p = true ∧ nt x < 1000000 ∧ q (fo (-x)) n
def F_Filter___mul__ : DF := fun _ ds n q xx => ∃ p, ∃ x : LP p, isPr p = true ∧ ((∃ y : LP p, ds = [fo x, fo y] ∧ nt x * nt y < 1000000 ∧ q (fo (x * y)) n) ∨ (∃ i : Int, ds = [fo x, .int i] ∧ nt x < 1000000 ∧ q (fo (((i : Int) : LP p) * x)) n) ∨ ∃ p', ∃ y : LP p', ds = [fo x, fo y] ∧ p ≠ p' ∧ xx ("UnlikePrimes", []) n)
def F_Filter___rmul__ : DF := fun _ ds n q _ => ∃ p, ∃ x : LP p, ∃ i : Int, isPr p = true ∧ ds = [fo x, .int i] ∧ nt x < 1000000 ∧ q (fo (((i : Int) : LP p) * x)) n
def F_Filter___pow__ : DF := fun _ ds n q _ => ∃ p, ∃ x : LP p, ∃ k : Nat, ds = [fo x, .int k] ∧ isPr p = true ∧ k ≤ 1000 ∧ (∀ j, j < k → nt (x ^ j) * nt x < 1000000) ∧ q (fo (x ^ k)) n
def F_inverse : DF := fun _ ds n q _ => ∃ p c, ds = [.int p, .int c] ∧ isPr p = true ∧ 0 < c ∧ c < p ∧ q (.int (invD p c)) n
def F_divisor_of : DF := fun _ ds n q _ => ∃ p, ∃ x : LP p, ds = [fo x] ∧ isPr p = true ∧ x ≠ 0 ∧ nt x < 2000000 ∧ sp x ≤ 1000000 ∧ q (.lst ((dg (nrm x) ((sp x).toNat + 1)).map D.int)) n
def F_divided : DF := fun _ ds n k _ => ∃ p, ∃ f g : LP p, ∃ m : Nat, ds = [.int p, tl f, .lst ((dg g (m + 1)).map D.int)] ∧ isPr p = true ∧ Lo g 0 ∧ Hi g m ∧ cf g m = 1 ∧ m ≤ 1000000 ∧ Bd f (-1000000) 1000000 ∧
  ∀ (Q : Tm) (r : LP p), (Q.map (·.1)).Nodup → Q.length ≤ 3000000 → f = lp p Q * g + r → Bd r 0 ((m : Int) - 1) → (∀ t ∈ Q, 0 ≤ t.2 ∧ t.2 < p) → k (.tup [.dct (Q.map kvp), .lst ((dg r m).map D.int)]) n
/-- a divisor: digits 0 .. m, the first is not 0, the last is 1 -/
def Dvr {p : Int} (g : LP p) (m : Nat) : Prop := Lo g 0 ∧ Hi g m ∧ cf g m = 1
def F_product_rest : DF := fun _ ds n q _ => ∃ p, ∃ g a b : LP p, ∃ m : Nat, ds = [.int p, .lst ((dg g (m + 1)).map D.int), .lst ((dg a m).map D.int), .lst ((dg b m).map D.int)] ∧ isPr p = true ∧ Dvr g m ∧ 0 < m ∧ m ≤ 1000000 ∧ Bd a 0 ((m : Int) - 1) ∧ Bd b 0 ((m : Int) - 1) ∧
  ∀ r, Dv g (a * b - r) → Bd r 0 ((m : Int) - 1) → q (.lst ((dg r m).map D.int)) n
def F_shift_rest : DF := fun _ ds n q _ => ∃ p, ∃ g : LP p, ∃ (m : Nat) (back : Bool), ds = [.int p, .lst ((dg g (m + 1)).map D.int), .bl back] ∧ isPr p = true ∧ Dvr g m ∧ 0 < m ∧ m ≤ 1000000 ∧
  ∀ r, Dv g (mono p (if back = true then -1 else 1) 1 - r) → Bd r 0 ((m : Int) - 1) → q (.lst ((dg r m).map D.int)) n
def F_moved_rest : DF := fun _ ds n q _ => ∃ p, ∃ g a : LP p, ∃ m : Nat, ds = [.int p, .lst ((dg g (m + 1)).map D.int), .lst ((dg a m).map D.int)] ∧ isPr p = true ∧ Dvr g m ∧ 0 < m ∧ m ≤ 1000000 ∧ Bd a 0 ((m : Int) - 1) ∧
  ∀ r, Dv g (mono p 1 1 * a - r) → Bd r 0 ((m : Int) - 1) → q (.lst ((dg r m).map D.int)) n
def F_far_rest : DF := fun _ ds n q _ => ∃ p, ∃ g : LP p, ∃ (m : Nat) (k : Int), ds = [.int p, .lst ((dg g (m + 1)).map D.int), .int k] ∧ isPr p = true ∧ Dvr g m ∧ m ≤ 1000000 ∧
  ∀ r, Dv g (mono p k 1 - r) → Bd r 0 ((m : Int) - 1) → q (.lst ((dg r m).map D.int)) n
/-- a divisor without terms, one of another prime -/
def Dbad (ds : List D) (n : Nat) (xx : Xn → Nat → Prop) : Prop := (∃ p p', ∃ f : LP p, ds = [fo f, fo (0 : LP p')] ∧ 0 < p' ∧ xx ("ZeroFilter", []) n) ∨ ∃ p p', ∃ f : LP p, ∃ g : LP p', ds = [fo f, fo g] ∧ 0 < p' ∧ g ≠ 0 ∧ p ≠ p' ∧ xx ("UnlikePrimes", []) n
def F_Filter___mod__ : DF := fun _ ds n q xx => (∃ p, ∃ f g : LP p, ds = [fo f, fo g] ∧ isPr p = true ∧ g ≠ 0 ∧ sp g ≤ 1000000 ∧ nt g < 2000000 ∧ nt f < 1000000 ∧ (Bd f (-2000) 2000 ∨ (nt f : Int) * (sp g + 1) < 1000000) ∧ ∀ r, IsMod f g r → q (fo r) n) ∨ Dbad ds n xx
def F_Filter___floordiv__ : DF := fun _ ds n k xx => (∃ p, ∃ f g : LP p, ds = [fo f, fo g] ∧ isPr p = true ∧ g ≠ 0 ∧ sp g ≤ 1000000 ∧ nt g < 2000000 ∧ Bd f (-1000000) 1000000 ∧ ∀ q, IsQuo f g q → k (fo q) n) ∨ Dbad ds n xx
def F_divides : DF := fun _ ds n q xx => (∃ p, ∃ g f : LP p, ds = [fo g, fo f] ∧ isPr p = true ∧ sp g ≤ 1000 ∧ nt g < 1000000 ∧ nt f < 1000000 ∧ Bd f (-2000) 2000 ∧ ∀ b : Bool, (b = true ↔ Dv g f) → q (.bl b) n) ∨ ∃ p p', ∃ x : LP p, ∃ y : LP p', ds = [fo x, fo y] ∧ p ≠ p' ∧ xx ("UnlikePrimes", []) n
def F_gcd : DF := fun _ ds n q xx => (∃ p, ∃ f g : LP p, ds = [fo f, fo g] ∧ isPr p = true ∧ (f ≠ 0 → sp f ≤ 1000) ∧ (g ≠ 0 → sp g ≤ 1000) ∧ nt f < 1000000 ∧ nt g < 1000000 ∧ ∀ d, IsGcd d f g → q (fo d) n) ∨ ∃ p p', ∃ x : LP p, ∃ y : LP p', ds = [fo x, fo y] ∧ p ≠ p' ∧ xx ("UnlikePrimes", []) n
def F_lcm : DF := fun _ ds n q xx => (∃ p, ∃ f g : LP p, ds = [fo f, fo g] ∧ isPr p = true ∧ Bd f (-300) 300 ∧ Bd g (-300) 300 ∧ ∀ m, IsLcm m f g → q (fo m) n) ∨ ∃ p p', ∃ x : LP p, ∃ y : LP p', ds = [fo x, fo y] ∧ p ≠ p' ∧ xx ("UnlikePrimes", []) n
/-! helpers of the laws -/
def F__law_times : DF := fun _ ds n q _ => ∃ p, ∃ x y : LP p, ds = [.int p, dk x, dk y] ∧ isPr p = true ∧ nt y < 1000000 ∧ nt x * nt y < 1000000 ∧ q (dk (x * y)) n
def F__law_drawn : DF := fun W ds n q _ => ∃ s p, ∃ most reach : Nat, ds = [.hnd s, .int p, .int most, .int reach] ∧ (∃ c, W = sprW s c) ∧ isPr p = true ∧ most < 100 ∧ reach < 1000 ∧ n < 900000 ∧ ∀ (x : LP p) (n' : Nat), nt x ≤ most → Bd x (-(reach : Int)) reach → n' ≤ n + 1 + 2 * most → q (dk x) n'
def F__law_some : DF := fun W ds n q _ => ∃ s p, ∃ most reach : Nat, ds = [.hnd s, .int p, .int most, .int reach] ∧ (∃ c, W = sprW s c) ∧ isPr p = true ∧ 0 < most ∧ most < 100 ∧ reach < 1000 ∧ n < 900000 ∧ ∀ (x : LP p) (n' : Nat), x ≠ 0 → nt x ≤ most → Bd x (-(reach : Int)) reach → n' ≤ n + 3 + 2 * most → q (dk x) n'
def F__law_made : DF := fun _ ds n q _ => ∃ p, ∃ x : LP p, ds = [.int p, dk x] ∧ isPr p = true ∧ nt x < 1000000 ∧ q (fo x) n
def F__law_is : DF := fun _ ds n q _ => ∃ p, ∃ x : LP p, ds = [fo x, .int p, dk x] ∧ isPr p = true ∧ nt x < 1000000 ∧ q (.bl true) n
theorem can_of {p : Int} (hp : 0 < p) {ts : Tm} {x : LP p} (h : lp p ts = x) : canon p ts = can x := by rw [← h, can_lp hp]
theorem lp_negF {p : Int} (hp : 0 < p) (x : LP p) : lp p ((can x).map fun t => (t.1, 0 - t.2)) = -x := by
  have e : ((can x).map fun t => (t.1, 0 - t.2)) = negT (can x) := by
    unfold negT
    refine List.map_congr_left fun t _ => ?_
    rw [Int.zero_sub]
  rw [e, ← lp_neg, lp_can hp]
theorem lp_scale {p : Int} (hp : 0 < p) (k c : Int) (x : LP p) : lp p ((can x).map fun t => (t.1 - k, c * t.2)) = mono p (-k) c * x := by
  have e : mono p (-k) c * x = lp p (prods [(-k, c)] (can x)) := by
    rw [← lp_mul, lp_can hp]; rfl
  rw [e, prods_cons, show prods [] (can x) = [] from rfl, List.append_nil]
  congr 1
  refine List.map_congr_left fun t _ => ?_
  show (t.1 - k, c * t.2) = (-k + t.1, c * t.2)
  rw [show t.1 - k = -k + t.1 by omega]
theorem lp_scaleT {p : Int} (k c : Int) (ts : Tm) : lp p (ts.map fun t => (t.1 - k, c * t.2)) = mono p (-k) c * lp p ts := by
  rw [mono, lp_mul, prods_cons, show prods [] ts = [] from rfl, List.append_nil]
  congr 1
  refine List.map_congr_left fun t _ => ?_
  show (t.1 - k, c * t.2) = (-k + t.1, c * t.2)
  rw [show t.1 - k = -k + t.1 by omega]
theorem csum_dg {p : Int} (r : LP p) : ∀ (m : Nat) (k : Int), csum ((List.range m).map fun (i : Nat) => ((i : Int), cf r (i : Int))) k = if 0 ≤ k ∧ k < (m : Int) then cf r k else 0
  | 0, k => by simp [csum_nil]; omega
  | m + 1, k => by
    rw [List.range_succ, List.map_append, csum_append, csum_dg r m k, List.map_cons, List.map_nil, csum_cons, csum_nil]
    by_cases h : (m : Int) = k
    · subst h
      rw [if_neg (by omega), if_pos rfl, if_pos (by push_cast; omega)]; omega
    · rw [if_neg (show ¬ ((m : Int), cf r (m : Int)).1 = k from h)]
      by_cases h2 : 0 ≤ k ∧ k < (m : Int)
      · rw [if_pos h2, if_pos (by push_cast; omega)]; omega
      · rw [if_neg h2, if_neg (by push_cast; omega)]; rfl
theorem lp_dg {p : Int} {r : LP p} {m : Nat} (h : Bd r 0 ((m : Int) - 1)) : lp p ((List.range m).map fun (i : Nat) => ((i : Int), cf r (i : Int))) = r := cf_ext fun k => by
  rw [cf_lp, csum_dg]
  by_cases hk : 0 ≤ k ∧ k < (m : Int)
  · rw [if_pos hk, cf_mod]
  · rw [if_neg hk]
    by_cases e : cf r k = 0
    · rw [e]; exact Int.zero_emod p
    · have := h k e; omega
theorem enum_dgT {p : Int} (g : LP p) (k : Nat) : enumD ((dg g k).map D.int) = ((List.range k).map fun (i : Nat) => ((i : Int), cf g (i : Int))).map trm := by
  unfold enumD dg
  simp only [List.length_map, List.length_range, List.map_map]
  refine List.map_congr_left fun i hi => ?_
  rw [List.mem_range] at hi
  simp [List.getD, hi, trm]
theorem isE {p : Int} (hp : 0 < p) {x : LP p} (h : x ≠ 0) : (can x).isEmpty = false := by
  cases e : can x with
  | nil => exact absurd ((can_nil hp).mp e) h
  | cons _ _ => rfl
theorem isE0 {p : Int} (hp : 0 < p) : (can (0 : LP p)).isEmpty = true := by rw [can_zero hp]; rfl
theorem hd_lo {p : Int} (hp : 0 < p) {x : LP p} (h : x ≠ 0) : (can x).head?.map (·.1) = some (lo x) := by
  unfold lo
  cases e : (can x).head? with
  | none => exact absurd ((can_nil hp).mp (List.head?_eq_none_iff.mp e)) h
  | some t => rfl
theorem gl_hi {p : Int} (hp : 0 < p) {x : LP p} (h : x ≠ 0) : (can x).getLast?.map (·.1) = some (hi x) := by
  unfold hi
  cases e : (can x).getLast? with
  | none => exact absurd ((can_nil hp).mp (List.getLast?_eq_none_iff.mp e)) h
  | some t => rfl
theorem Nrm.bd {p : Int} (hp : 0 < p) {x : LP p} (h : Nrm x) : Bd x 0 (sp x) := by
  by_cases e : x = 0
  · rw [e]; exact .zero _ _
  · rcases h with h | ⟨h1, h2⟩
    · exact absurd h e
    · have := bd_hl hp e
      have l := h1.lo hp
      unfold sp
      rw [l] at this ⊢
      rw [Int.sub_zero]
      exact this
theorem mapTrm (f : Int × Int → Int × Int) (ts : Tm) : (ts.map fun t => trm (f t)) = (ts.map f).map trm := by rw [List.map_map]; rfl
theorem fo_def {p : Int} (x : LP p) : fo x = .obj "Filter" (flt p (can x)) := rfl
theorem dk_def {p : Int} (x : LP p) : dk x = .dct ((can x).map kvp) := rfl
theorem range_split {n : Nat} {pre post : List Nat} {a : Nat} (h : List.range n = pre ++ a :: post) : a = pre.length ∧ pre.length < n := by
  have h1 : (List.range n)[pre.length]? = some a := by rw [h]; simp
  have h2 : pre.length < n := by
    have := congrArg List.length h
    simp at this
    omega
  rw [List.getElem?_range h2] at h1
  exact ⟨(Option.some.inj h1).symm, h2⟩
theorem nodup_len {L : List Int} {lo hi : Int} (nd : L.Nodup) (h : ∀ k ∈ L, lo ≤ k ∧ k ≤ hi) : (L.length : Int) ≤ max 0 (hi - lo + 1) := by
  have s1 := srt_sorted L
  have s2 : (srt L).Nodup := (srt_perm L).nodup_iff.mpr nd
  have s3 : (srt L).Pairwise (· < ·) := by
    refine List.Pairwise.imp₂ (R := fun a b => a ≤ b) (S := fun a b => a ≠ b) (fun a b h1 h2 => by omega) s1 s2
  have := sorted_length s3 (fun k hk => h k ((srt_perm L).mem_iff.mp hk))
  rwa [(srt_perm L).length_eq] at this
theorem enum_dg {p : Int} (g : LP p) (k : Nat) : enumD ((dg g k).map D.int) = (List.range k).map fun (i : Nat) => D.tup [.int (i : Int), .int (cf g (i : Int))] := by
  rw [enum_dgT, List.map_map]
  rfl
theorem dg_at {p : Int} (g : LP p) {m i : Nat} (h : i < m) : atI ((dg g m).map D.int) (i : Int) = some (.int (cf g (i : Int))) := atI_nat (j := i) (by simp [dg, h])
theorem dg_len {p : Int} (g : LP p) (m : Nat) : ((dg g m).map D.int).length = m := by simp [dg]
/-- the first i digits -/
noncomputable def trc {p : Int} (a : LP p) (i : Nat) : LP p := lp p ((List.range i).map fun (t : Nat) => ((t : Int), cf a (t : Int)))
theorem trc_zero {p : Int} (a : LP p) : trc a 0 = 0 := by unfold trc; rw [List.range_zero, List.map_nil]; exact lp_zero.symm
theorem trc_succ {p : Int} (a : LP p) (i : Nat) : trc a (i + 1) = trc a i + mono p (i : Int) (cf a (i : Int)) := by
  unfold trc
  rw [List.range_succ, List.map_append, ← lp_add]
  rfl
theorem trc_all {p : Int} {a : LP p} {m : Nat} (h : Bd a 0 ((m : Int) - 1)) : trc a m = a := lp_dg h
theorem putI_mem {m : Tm} {k v x : Int} : x ∈ (putI m k v).map (·.1) ↔ x ∈ m.map (·.1) ∨ x = k := by
  rw [putI_keys]
  split
  · rename_i h
    exact ⟨.inl, fun z => z.elim id fun e => e ▸ h⟩
  · rw [List.mem_append, List.mem_singleton]
theorem emod_sub_congr {p a b c : Int} (h : a % p = b % p) : (a - c) % p = (b - c % p) % p := by
  rw [Int.sub_emod, h, Int.sub_emod b (c % p), Int.emod_emod_of_dvd c (Int.dvd_refl p)]
theorem emod_add_congr {p a b c : Int} (h : a % p = b % p) : (a + c) % p = (b + c % p) % p := by
  rw [Int.add_emod, h, Int.add_emod b (c % p), Int.emod_emod_of_dvd c (Int.dvd_refl p)]
theorem cut_from {ds : List D} {k : Nat} (h : k ≤ ds.length) : cutD ds (some (k : Int)) none = ds.drop k := by
  unfold cutD
  have e1 : HT.sIx ds.length 0 (some (k : Int)) = k := by rw [HT.sIx_nat]; omega
  have e2 : HT.sIx ds.length ds.length none = ds.length := rfl
  rw [e1, e2]
  exact List.take_of_length_le (by rw [List.length_drop]; omega)
theorem cut_to {ds : List D} {k : Nat} (h : k ≤ ds.length) : cutD ds none (some (k : Int)) = ds.take k := by
  unfold cutD
  have e1 : HT.sIx ds.length ds.length (some (k : Int)) = k := by rw [HT.sIx_nat]; omega
  have e2 : HT.sIx ds.length 0 none = 0 := rfl
  rw [e1, e2, List.drop_zero, Nat.sub_zero]
theorem span_eq {p : Int} (hp : 0 < p) {x : LP p} (hx : x ≠ 0) : ((can x).getLast?.bind fun b => (can x).head?.map fun a => b.1 - a.1) = some (sp x) := by
  cases ea : (can x).head? with
  | none => exact absurd ((can_nil hp).mp (List.head?_eq_none_iff.mp ea)) hx
  | some a =>
    cases eb : (can x).getLast? with
    | none => exact absurd ((can_nil hp).mp (List.getLast?_eq_none_iff.mp eb)) hx
    | some b =>
      show some (b.1 - a.1) = _
      unfold sp hi lo
      rw [ea, eb]
      rfl
theorem mono_run {p : Int} (hp : 0 < p) (k c : Int) : nt (mono p k c) ≤ 1 := nt_lp hp _
end My

/-! P1: runs of the operations on filters with bounded offsets. -/
namespace My
open PySem PySem.Spec L2 DL
def Nb {p : Int} (x : LP p) (a : Nat) : Prop := Bd x (-(a : Int)) (a : Int)
section
variable {p : Int} {x y : LP p} {a b : Nat} {W : Wd} {n : Nat} {q : D → Nat → Prop} {xx : DL.Xn → Nat → Prop}
theorem Nb.le (h : Nb x a) (l : a ≤ b) : Nb x b := Bd.mono h (by omega) (by omega)
theorem Nb.add (h : Nb x a) (h' : Nb y b) : Nb (x + y) (a + b) := Bd.add (h.le (by omega)) (h'.le (by omega))
theorem Nb.sub (h : Nb x a) (h' : Nb y b) : Nb (x - y) (a + b) := Bd.sub (h.le (by omega)) (h'.le (by omega))
theorem Nb.neg (h : Nb x a) : Nb (-x) a := Bd.neg h
theorem Nb.mul (hp : isPr p = true) (h : Nb x a) (h' : Nb y b) : Nb (x * y) (a + b) := Bd.mono (Bd.mul (isPr_pos hp).1 h h') (by omega) (by omega)
theorem Nb.nt (hp : isPr p = true) (h : Nb x a) : My.nt x ≤ 2 * a + 1 := by
  have := Bd.nt (isPr_pos hp).1 h
  omega
theorem Nb.int (c : Int) : Nb ((c : Int) : LP p) 0 := fun k hk => by
  have e : ((c : Int) : LP p) = ((c : Int) : LP p) * 1 := by grind
  have e2 : cf (1 : LP p) k ≠ 0 := fun z => hk (by rw [e, cf_int_mul, z, Int.mul_zero]; exact Int.zero_emod p)
  have e3 := cf_mono (p := p) 0 1 k
  rw [mono_one] at e3
  by_cases h : (0 : Int) = k
  · omega
  · rw [if_neg h] at e3; exact absurd e3 e2
theorem Nb.one (hp : isPr p = true) : Nb (1 : LP p) 0 := fun k hk => by
  have e3 := cf_mono (p := p) 0 1 k
  rw [mono_one] at e3
  by_cases h : (0 : Int) = k
  · omega
  · rw [if_neg h] at e3; exact absurd e3 hk
theorem Nb.sp (hp : isPr p = true) (h : Nb x a) (hx : x ≠ 0) : My.sp x ≤ 2 * a := by
  have h1 := Bd.lo (isPr_pos hp).1 h hx
  have h2 := Bd.hi (isPr_pos hp).1 h hx
  unfold My.sp
  omega
theorem Nb.nrm (hp : isPr p = true) (h : Nb x a) : Nb (nrm x) (2 * a) := by
  by_cases e : x = 0
  · rw [e, nrm_zero]; exact .zero _ _
  · have := h.sp hp e
    have z := (nrm_nrm hp x).bd (isPr_pos hp).1
    rw [sp_nrm hp e] at z
    exact z.mono (by omega) (by omega)
theorem Nb.of_nrm (hp : isPr p = true) (h : Nrm x) (l : x ≠ 0 → My.sp x ≤ a) : Nb x a := by
  by_cases e : x = 0
  · rw [e]; exact .zero _ _
  · have := l e
    exact (h.bd (isPr_pos hp).1).mono (by omega) (by omega)
theorem sp_dv (hp : isPr p = true) {d f : LP p} (h : Dv d f) (hf : f ≠ 0) : d ≠ 0 ∧ My.sp d ≤ My.sp f := by
  obtain ⟨q, e⟩ := h
  have hd : d ≠ 0 := fun z => hf (by rw [e, z]; grind)
  have hq : q ≠ 0 := fun z => hf (by rw [e, z]; grind)
  refine ⟨hd, ?_⟩
  rw [e, sp_mul hp hq hd]
  have := sp_nonneg (isPr_pos hp).1 hq
  omega
theorem Nb.gcd (hp : isPr p = true) {d : LP p} (h : IsGcd d x y) (hx : Nb x a) (hy : Nb y b) : Nb d (2 * (a + b)) := by
  refine .of_nrm hp h.1 fun hd => ?_
  by_cases e : x = 0
  · by_cases e2 : y = 0
    · obtain ⟨_, _, _, u, v, z⟩ := h
      exact absurd (by rw [z, e, e2]; grind) hd
    · have := (sp_dv hp h.2.2.1 e2).2
      have := hy.sp hp e2
      omega
  · have := (sp_dv hp h.2.1 e).2
    have := hx.sp hp e
    omega
theorem Nb.lcm (hp : isPr p = true) {m : LP p} (h : IsLcm m x y) (hx : Nb x a) (hy : Nb y b) : Nb m (2 * (a + b)) := by
  obtain ⟨d, q, hd, e, h1, h2⟩ := h
  by_cases ex : x = 0
  · rw [h1 (.inl ex)]; exact .zero _ _
  by_cases ey : y = 0
  · rw [h1 (.inr ey)]; exact .zero _ _
  rw [h2 ex ey]
  have exy := mul_ne hp ex ey
  have := sp_dv hp (d := q) (f := x * y) ⟨d, by rw [e]; grind⟩ exy
  refine .of_nrm hp (nrm_nrm hp q) fun _ => ?_
  rw [sp_nrm hp this.1]
  have z := (hx.mul hp hy).sp hp exy
  omega
theorem Nb.mod (hp : isPr p = true) {r g : LP p} (h : IsMod x g r) (hg : Nb g b) (g0 : g ≠ 0) : Nb r (2 * b) := by
  have := hg.sp hp g0
  exact h.2.mono (by omega) (by omega)
theorem Nb.quo (hp : isPr p = true) {r g : LP p} (h : IsQuo x g r) (hx : Nb x a) (hg : Nb g b) (g0 : g ≠ 0) : Nb r (a + 3 * b) := by
  obtain ⟨s, e, hs⟩ := h
  by_cases r0 : r = 0
  · rw [r0]; exact .zero _ _
  have hp0 := (isPr_pos hp).1
  have hsN : Nb s (2 * b) := Nb.mod hp (x := x) ⟨⟨r, e⟩, hs⟩ hg g0
  have e2 : r * g = x - s := by rw [e]; grind
  have n0 := mul_ne hp r0 g0
  have b2 : Nb (r * g) (a + 2 * b) := by rw [e2]; exact hx.sub hsN
  have h1 := Bd.lo hp0 b2 n0
  have h2 := Bd.hi hp0 b2 n0
  rw [lo_mul hp r0 g0] at h1
  rw [hi_mul hp r0 g0] at h2
  have h3 := Bd.lo hp0 hg g0
  have h4 := Bd.hi hp0 hg g0
  exact (bd_hl hp0 r0).mono (by omega) (by omega)
/-! runs -/
theorem add_run (hp : isPr p = true) (hx : Nb x a) (hy : Nb y b) (l : a + b < 1000) (k : Nb (x + y) (a + b) → q (fo (x + y)) n) : F_Filter___add__ W [fo x, fo y] n q xx :=
  .inl ⟨p, x, y, rfl, hp, by have := hx.nt hp; have := hy.nt hp; omega, k (hx.add hy)⟩
theorem sub_run (hp : isPr p = true) (hx : Nb x a) (hy : Nb y b) (l : a + b < 1000) (k : Nb (x - y) (a + b) → q (fo (x - y)) n) : F_Filter___sub__ W [fo x, fo y] n q xx :=
  .inl ⟨p, x, y, rfl, hp, by have := hx.nt hp; have := hy.nt hp; omega, k (hx.sub hy)⟩
theorem neg_run (hp : isPr p = true) (hx : Nb x a) (l : a < 1000) (k : Nb (-x) a → q (fo (-x)) n) : F_Filter___neg__ W [fo x] n q xx :=
  ⟨p, x, rfl, hp, by have := hx.nt hp; omega, k hx.neg⟩
theorem nt2 (hp : isPr p = true) (hx : Nb x a) (hy : Nb y b) (l : a + b < 400) : nt x * nt y < 1000000 := by
  have h1 := hx.nt hp
  have h2 := hy.nt hp
  have := Nat.mul_le_mul (show nt x ≤ 801 by omega) (show nt y ≤ 801 by omega)
  omega
theorem mul_run (hp : isPr p = true) (hx : Nb x a) (hy : Nb y b) (l : a + b < 400) (k : Nb (x * y) (a + b) → q (fo (x * y)) n) : F_Filter___mul__ W [fo x, fo y] n q xx :=
  ⟨p, x, hp, .inl ⟨y, rfl, nt2 hp hx hy l, k (hx.mul hp hy)⟩⟩
theorem rmul_run (hp : isPr p = true) {i : Int} (hx : Nb x a) (l : a < 400) (k : Nb (((i : Int) : LP p) * x) a → q (fo (((i : Int) : LP p) * x)) n) : F_Filter___rmul__ W [fo x, .int i] n q xx :=
  ⟨p, x, i, hp, rfl, by have := hx.nt hp; omega, k (by have := (Nb.int (p := p) i).mul hp hx; rwa [Nat.zero_add] at this)⟩
theorem Nb.pow (hp : isPr p = true) (hx : Nb x a) : ∀ k : Nat, Nb (x ^ k) (k * a)
  | 0 => by
    have e : x ^ 0 = 1 := rfl
    rw [e]; exact (Nb.one hp).le (by omega)
  | k + 1 => by
    have e : x ^ (k + 1) = x ^ k * x := rfl
    rw [e, Nat.succ_mul]; exact (Nb.pow hp hx k).mul hp hx
theorem pow_run (hp : isPr p = true) (hx : Nb x a) (m : Nat) (l : (m + 1) * a < 400 ∧ m < 400) (k : Nb (x ^ m) (m * a) → q (fo (x ^ m)) n) : F_Filter___pow__ W [fo x, .int m] n q xx := by
  refine ⟨p, x, m, rfl, hp, by omega, fun j hj => ?_, k (hx.pow hp m)⟩
  refine nt2 hp (hx.pow hp j) hx ?_
  have : (j + 1) * a ≤ (m + 1) * a := Nat.mul_le_mul_right a (by omega)
  rw [Nat.succ_mul] at this
  omega
theorem normal_run (hp : isPr p = true) (hx : Nb x a) (l : a < 1000) (k : Nb (nrm x) (2 * a) → q (fo (nrm x)) n) : F_Filter_normal W [fo x] n q xx :=
  ⟨p, x, rfl, hp, by have := hx.nt hp; omega, k (hx.nrm hp)⟩
theorem mod_run (hp : isPr p = true) (hg : y ≠ 0) (hx : Nb x a) (hy : Nb y b) (l : a < 1000 ∧ b < 400) (k : ∀ r, IsMod x y r → Nb r (2 * b) → q (fo r) n) : F_Filter___mod__ W [fo x, fo y] n q xx :=
  .inl ⟨p, x, y, rfl, hp, hg, by have := hy.sp hp hg; omega, by have := hy.nt hp; omega, by have := hx.nt hp; omega, .inl (Bd.mono hx (by omega) (by omega)), fun r hr => k r hr (.mod hp hr hy hg)⟩
theorem quo_run (hp : isPr p = true) (hg : y ≠ 0) (hx : Nb x a) (hy : Nb y b) (l : a < 1000 ∧ b < 400) (k : ∀ r, IsQuo x y r → Nb r (a + 3 * b) → q (fo r) n) : F_Filter___floordiv__ W [fo x, fo y] n q xx :=
  .inl ⟨p, x, y, rfl, hp, hg, by have := hy.sp hp hg; omega, by have := hy.nt hp; omega, Bd.mono hx (by omega) (by omega), fun r hr => k r hr (.quo hp hr hx hy hg)⟩
theorem divides_run (hp : isPr p = true) (hx : Nb x a) (hy : Nb y b) (l : a < 400 ∧ b < 1000) (k : ∀ r : Bool, (r = true ↔ Dv x y) → q (.bl r) n) : F_divides W [fo x, fo y] n q xx := by
  refine .inl ⟨p, x, y, rfl, hp, ?_, by have := hx.nt hp; omega, by have := hy.nt hp; omega, Bd.mono hy (by omega) (by omega), k⟩
  by_cases e : x = 0
  · subst e
    unfold My.sp lo hi
    rw [can_zero (isPr_pos hp).1]; decide
  · have := hx.sp hp e; omega
theorem gcd_run (hp : isPr p = true) (hx : Nb x a) (hy : Nb y b) (l : a < 400 ∧ b < 400) (k : ∀ d, IsGcd d x y → Nb d (2 * (a + b)) → q (fo d) n) : F_gcd W [fo x, fo y] n q xx :=
  .inl ⟨p, x, y, rfl, hp, fun e => by have := hx.sp hp e; omega, fun e => by have := hy.sp hp e; omega, by have := hx.nt hp; omega, by have := hy.nt hp; omega, fun d hd => k d hd (.gcd hp hd hx hy)⟩
theorem lcm_run (hp : isPr p = true) (hx : Nb x a) (hy : Nb y b) (l : a < 300 ∧ b < 300) (k : ∀ d, IsLcm d x y → Nb d (2 * (a + b)) → q (fo d) n) : F_lcm W [fo x, fo y] n q xx :=
  .inl ⟨p, x, y, rfl, hp, Bd.mono hx (by omega) (by omega), Bd.mono hy (by omega) (by omega), fun d hd => k d hd (.lcm hp hd hx hy)⟩
theorem eq_run (hp : isPr p = true) (hx : Nb x a) (l : a < 1000) (e : x = y) (k : q (.bl true) n) : F_Filter___eq__ W [fo x, fo y] n q xx := by
  subst e
  have h : (can x).length < 1000000 := by have := hx.nt hp; unfold nt at this; omega
  exact ⟨p, can x, p, can x, rfl, h, h, by simpa using k⟩
end
/-- a list of pairs of equal filters -/
inductive EqPr (p : Int) : List D → Prop
  | nil : EqPr p []
  | cons {x y : LP p} {a : Nat} {l : List D} (h : Nb x a) (la : a < 1000) (e : x = y) (t : EqPr p l) : EqPr p (.tup [fo x, fo y] :: l)
theorem eqp_run {p : Int} (hp : isPr p = true) {CS : List Str} (hcs : Str.ofString "Filter" ∈ CS) {W : Wd} {n : Nat} {q : List D → Nat → Prop} {a b c d : Option Sl} {L : List D} (h : EqPr p L) : ∀ acc : List D, acc.length + L.length < 1000 → q (acc ++ List.replicate L.length (.bl true)) n →
    lcD W (gTn 2 (gsC (gN 4) (gsC (gN 5) gs0))) dYes (dEqO CS (Str.ofString "Filter") F_Filter___eq__ (dVar 4) (dVar 5)) L [a, b, c, d, none, none] n acc q := by
  induction h with
  | nil => intro acc _ hq; rw [List.length_nil, List.replicate_zero, List.append_nil] at hq; exact hq
  | @cons x y k l hx la e t ih =>
    intro acc hl hq
    rw [List.length_cons] at hl
    simp only [lcD, gTn, gsC, gN, gs0, dYes, dEqO, dVar, fo, fob, bq, opt, if_true, List.getElem?_cons_zero, List.getElem?_cons_succ, List.set_cons_zero, List.set_cons_succ, List.length_cons, List.length_nil]
    refine ⟨trivial, trivial, ⟨_, rfl⟩, ?_⟩
    show (∀ c', Ty.own (Str.ofString "Filter") = Ty.own c' → c' ∈ CS) ∧ _
    refine ⟨(fun c' h => ?_), ?_⟩
    · injection h with h; rw [← h]; exact hcs
    · refine eq_run (x := x) (y := y) hp hx la e ?_
      refine ⟨by omega, ih _ (by rw [List.length_append, List.length_singleton]; omega) ?_⟩
      rw [List.append_assoc]
      exact hq
end My

namespace My
open PySem PySem.Spec L2 DL
def F__law_plus : DF := fun _ ds n q _ => ∃ p, ∃ x y : LP p, ∃ s : Int, ds = [.int p, dk x, dk y, .int s] ∧ isPr p = true ∧ nt x < 1000 ∧ nt y < 1000 ∧ q (dk (x + ((s : Int) : LP p) * y)) n
def F__law_other : DF := fun W ds n q _ => ∃ s p, ds = [.hnd s, .int p] ∧ (∃ c, W = sprW s c) ∧ isPr p = true ∧ n < 900000 ∧ ∀ p', isPr p' = true → p' ≠ p → q (.int p') (n + 1)
def F_Filter_shift : DF := fun _ ds n q _ => ∃ p k, ds = [.int p, .int k] ∧ isPr p = true ∧ q (fo (mono p k 1)) n
def F__law_far : DF := fun W ds n q _ => ∃ s, ds = [.hnd s] ∧ (∃ c, W = sprW s c) ∧ n < 900000 ∧ ∀ (k : Int) (n' : Nat), n' ≤ n + 5 → q (.int k) n'
def F__law_refuses (K : PySem.W.Frag) : DF := fun W ds n q _ => ∃ s p, ∃ f : LP p, ds = [.hnd s, .int p, fo f] ∧ (∃ c, W = sprW s c) ∧ LW K "_law_refuses" W ∧ isPr p = true ∧ nt f < 1000 ∧ n < 900000 ∧ ∀ n' : Nat, n' ≤ n + 5 → q (.bl true) n'
def F__law_far_right : DF := fun W ds n q _ => ∃ s p, ds = [.hnd s, .int p] ∧ (∃ c, W = sprW s c) ∧ isPr p = true ∧ n < 800000 ∧ ∀ n' : Nat, n' ≤ n + 100 → q (.bl true) n'
def F__law_shifts_right : DF := fun W ds n q _ => ∃ s p, ∃ g : LP p, ds = [.hnd s, .int p, fo g] ∧ (∃ c, W = sprW s c) ∧ isPr p = true ∧ g ≠ 0 ∧ sp g ≤ 100 ∧ nt g < 1000 ∧ n < 800000 ∧ ∀ n' : Nat, n' ≤ n + 100 → q (.bl true) n'
end My

open DL in
local macro_rules | `(tactic| walk_at "d") => `(tactic| simp only [dNext, dSeq, dRet, dRetN, dExp, dIfS, dBreak, dCont, dSet, dOwn, dFrz, dApp, dPut, dSetIx, dFldSet, dPar, dPar2, slV, slO, dExt, dItems, dDisp, kv0, kvC, iKy, iIt, iEn, iZp, dNever, dNeverE, dBinO, dAugO, dEqO, dNeO, dGetO, dNegO, dTruO, dNotO, dRmulO, dLEn, dLZp, dLR2, dLR3, dStarD, iEnK, iZpK, fBoolL, dRetF, dRetO, endsF, fEqDct, dTry, dRaise, dRaise0, dLam, catchD, dPop, dPop0, dAsg, dFor, dAnd, dOr, dNot, dIf, dAndT, dOrT, dNotT, dTest, bq, bd, dVar, bVar, dC, dOp, fI0, fI, fAdd, fSub, fMul, fDiv, fMod, fPow, fLt, fLe, fGt, fGe, fEq, fNe, fIs, fIsNot, fIn, isNonD, flatD, seqD, dNil, dCons, dTup, dLst, dEmp, fIx, fDg, keyD, dCB, f1, fLen, lenD, fAbs, fInt, fList, fTuple, fSeqInts, fSum, fMax, fMin, fSorted, fBools, gN, gs0, gsC, gT, gTn, iSq, iR1, iR2, iR3, dCall, dMeth, dMake, dMakeV, dCMeth, dFld, dNeg, dChain, truD, dTru, oNone, oSome, dSl, dRev, dGet2, fDin, isD, fDict, opt, endsD, endsI, qI, startD, startI, DEnds.xx, dLc, wipeD, dYes, List.map_cons, List.map_nil, List.length_cons, List.length_nil, List.cons_append, List.nil_append, List.append_nil, List.getElem?_cons_zero, List.getElem?_cons_succ, List.set_cons_zero, List.set_cons_succ, List.replicate_succ, List.replicate_zero, Nat.reduceAdd, Nat.reduceSub, Nat.reduceLT, true_and, and_true, Bool.false_eq_true, if_true, if_false, ite_true, ite_false, My.isa_int_int, My.isa_int_bool, My.isa_int_list, My.isa_int_tuple, My.isa_int_str, My.isa_int_NoneType, My.isa_int_dict, My.isa_int_own, My.isa_bool_int, My.isa_bool_bool, My.isa_bool_list, My.isa_bool_tuple, My.isa_bool_str, My.isa_bool_NoneType, My.isa_bool_dict, My.isa_bool_own, My.isa_list_int, My.isa_list_bool, My.isa_list_list, My.isa_list_tuple, My.isa_list_str, My.isa_list_NoneType, My.isa_list_dict, My.isa_list_own, My.isa_tuple_int, My.isa_tuple_bool, My.isa_tuple_list, My.isa_tuple_tuple, My.isa_tuple_str, My.isa_tuple_NoneType, My.isa_tuple_dict, My.isa_tuple_own, My.ty_int, My.ty_bl, My.ty_str, My.ty_lst, My.ty_tup, My.ty_dct, My.ty_non, My.ty_obj, My.own_b, My.own_Filter, My.isOb_Filter, My.mem_Filter, My.isO_Filter_Filter, List.any_cons, List.any_nil, Bool.or_false, Bool.or_true, Bool.false_or, Bool.true_or, Bool.not_true, Bool.not_false, and_self, My.trm, My.ix0, My.ix1, My.get_kvp, My.put_kvp, My.keys_kvp, List.length_map, My.lk1, My.lk2, My.lk3, My.lkT, My.fob, My.fo, My.dk, My.tl, My.sh_int, My.sh_bl, My.eq_int, My.eq_bl])

namespace My
open PySem PySem.Spec L2 DL
theorem sc_Filter___bool__ : FnScope ["self"] ["self"] (defScope (inClass (top 22) 4)) := ⟨rfl, rfl, rfl, by decide +kernel, rfl, by decide +kernel, by decide +kernel⟩
section
variable {P : Program} {w : World} {K : PySem.W.Frag} {mg : Str → Option Value} {base : Heap}
theorem ok_Filter___bool__ (T : Top K mg) : Mg P w K mg base "Filter" "__bool__" 1 1 F_Filter___bool__ [] := by
  obtain ⟨fd, FD⟩ := T.d_Filter___bool__
  refine ⟨T.cl_Filter, _, fd, ["self"], [], [], ?_, T.m_Filter___bool__, FD.bindsN (fun _ _ _ _ _ _ us hl => match us, hl with | [_], _ => rfl), .nil, fun _ => .nil⟩
  refine ok_def FD sc_Filter___bool__ rfl ?_
  rintro X E W ds n q xx ⟨cdv, A, outer, s, H, rfl⟩ hr tk pso hl hF
  have hu := hr.units
  have hu1 := hu_of hr
  refine ⟨_, (pss_oneD (ps_retD (pd_callTy call_boolL dcall_boolL (by rfl) T.f_bool (by decide +kernel) (pab_cons (PD.pb (pd_fld ["Filter"] T.fld_Filter_kept (pb_var 0))) pab_nil)))), ?_⟩
  clear hr tk pso hl hu hu1
  obtain ⟨p, ts, rfl, hq⟩ := hF
  walk_at "d"
  rw [List.isEmpty_map]
  exact hq
end

end My

namespace My
open PySem PySem.Spec L2 DL
theorem sc_Filter___getitem__ : FnScope ["self", "offset"] ["self", "offset"] (defScope (inClass (top 22) 2)) := ⟨rfl, rfl, rfl, by decide +kernel, rfl, by decide +kernel, by decide +kernel⟩
section
variable {P : Program} {w : World} {K : PySem.W.Frag} {mg : Str → Option Value} {base : Heap}
theorem ok_Filter___getitem__ (T : Top K mg) : Mg P w K mg base "Filter" "__getitem__" 1 2 F_Filter___getitem__ [] := by
  obtain ⟨fd, FD⟩ := T.d_Filter___getitem__
  refine ⟨T.cl_Filter, _, fd, ["self", "offset"], [], [], ?_, T.m_Filter___getitem__, FD.bindsN (fun _ _ _ _ _ _ us hl => match us, hl with | [_, _], _ => rfl), .nil, fun _ => .nil⟩
  refine ok_def FD sc_Filter___getitem__ rfl ?_
  rintro X E W ds n q xx ⟨cdv, A, outer, s, H, rfl⟩ hr tk pso hl hF
  have hu := hr.units
  have hu1 := hu_of hr
  refine ⟨_, (pss_oneD (ps_retD (pd_get2 hu1 (PD.pb (pd_fld ["Filter"] T.fld_Filter_held (pb_var 0))) (pb_var 1) pd_int))), ?_⟩
  clear hr tk pso hl hu hu1
  obtain ⟨p, ts, k, rfl, hq⟩ := hF
  walk_at "d"
  exact hq
end

end My

namespace My
open PySem PySem.Spec L2 DL
theorem sc_is_list : FnScope ["thing"] ["thing"] (defScope (top 3)) := ⟨rfl, rfl, rfl, by decide +kernel, rfl, by decide +kernel, by decide +kernel⟩
section
variable {P : Program} {w : World} {K : PySem.W.Frag} {mg : Str → Option Value} {base : Heap}
theorem ok_is_list (T : Top K mg) : Sg P w K mg base "is_list" 1 1 F_is_list [] := by
  obtain ⟨fd, FD⟩ := T.d_is_list
  refine ⟨_, fd, ["thing"], [], [], ?_, T.g_is_list, FD.kp, FD.bindsN (fun _ _ _ _ _ _ us hl => match us, hl with | [_], _ => rfl), .nil, fun _ => .nil⟩
  refine ok_def FD sc_is_list rfl ?_
  rintro X E W ds n q xx ⟨cdv, A, outer, s, H, rfl⟩ hr tk pso hl hF
  have hu := hr.units
  have hu1 := hu_of hr
  refine ⟨_, (pss_oneD (ps_retD (pd_isiT T.tyf (T.kt_list_tuple) (by rfl) T.f_isinstance (pa_cons (pe_bltn (v := .ty "list") (by rfl) T.f_list (by decide +kernel) rfl) (pa_cons (pe_bltn (v := .ty "tuple") (by rfl) T.f_tuple (by decide +kernel) rfl) pa_nil)) (fun _ _ _ h => h) (.cons (.ty "list") (.cons (.ty "tuple") .nil)) (by decide) (pb_var 0)))), ?_⟩
  clear hr tk pso hl hu hu1
  match ds, hF with
  | [d], hF =>
    obtain ⟨⟨t, e, hc⟩, hq⟩ := hF
    walk_at "d"
    rw [e]
    refine ⟨hc, ?_⟩
    cases d <;> cases e <;> simpa [isLst, isaB] using hq
end

end My

namespace My
open PySem PySem.Spec L2 DL
theorem sc_is_integer : FnScope ["thing"] ["thing"] (defScope (top 2)) := ⟨rfl, rfl, rfl, by decide +kernel, rfl, by decide +kernel, by decide +kernel⟩
section
variable {P : Program} {w : World} {K : PySem.W.Frag} {mg : Str → Option Value} {base : Heap}
theorem ok_is_integer (T : Top K mg) : Sg P w K mg base "is_integer" 1 1 F_is_integer [] := by
  obtain ⟨fd, FD⟩ := T.d_is_integer
  refine ⟨_, fd, ["thing"], [], [], ?_, T.g_is_integer, FD.kp, FD.bindsN (fun _ _ _ _ _ _ us hl => match us, hl with | [_], _ => rfl), .nil, fun _ => .nil⟩
  refine ok_def FD sc_is_integer rfl ?_
  rintro X E W ds n q xx ⟨cdv, A, outer, s, H, rfl⟩ hr tk pso hl hF
  have hu := hr.units
  have hu1 := hu_of hr
  refine ⟨_, (pss_oneD (ps_retD (pd_and (pd_isiB T.tyf (T.kb_int) (by rfl) T.f_isinstance (by rfl) T.f_int (by decide +kernel) (pb_var 0)) (pd_one (pd_not (pd_isiB T.tyf (T.kb_bool) (by rfl) T.f_isinstance (by rfl) T.f_bool (by decide +kernel) (pb_var 0))))))), ?_⟩
  clear hr tk pso hl hu hu1
  match ds, hF with
  | [d], hF =>
    obtain ⟨⟨t, e, hc⟩, hq⟩ := hF
    walk_at "d"
    rw [e]
    refine ⟨hc, ?_⟩
    cases d <;> cases e <;> simpa [isInt, isaB] using hq
end

end My

namespace My
open PySem PySem.Spec L2 DL
theorem sc_is_prime : FnScope ["thing"] ["thing"] (defScope (top 4)) := ⟨rfl, rfl, rfl, by decide +kernel, rfl, by decide +kernel, by decide +kernel⟩
section
variable {P : Program} {w : World} {K : PySem.W.Frag} {mg : Str → Option Value} {base : Heap}
theorem ok_is_prime (T : Top K mg) : Sg P w K mg base "is_prime" 2 1 F_is_prime [] := by
  obtain ⟨fd, FD⟩ := T.d_is_prime
  refine ⟨_, fd, ["thing"], [], [], ?_, T.g_is_prime, FD.kp, FD.bindsN (fun _ _ _ _ _ _ us hl => match us, hl with | [_], _ => rfl), .nil, fun _ => .nil⟩
  refine ok_def FD sc_is_prime rfl ?_
  rintro X E W ds n q xx ⟨cdv, A, outer, s, H, rfl⟩ hr tk pso hl hF
  have hu := hr.units
  have hu1 := hu_of hr
  refine ⟨_, (pss_oneD (ps_retD (pd_and (pd_call (ok_is_integer T) (hr.mono (by decide)) tk (by rfl) (pad_cons (pd_var 0) pad_nil)) (pd_one (pd_in (pb_var 0) (PD.pb (pd_globR (by rfl) T.g_PRIMES (T.c_PRIMES)))))))), ?_⟩
  clear hr tk pso hl hu hu1
  match ds, hF with
  | [.int p], hF =>
    have hq : q (.bl (isPr p)) n := hF
    walk_at "d"
    refine ⟨ok_int p, ?_⟩
    show [D.int 2, D.int 3, D.int 5, D.int 7].all flatD = true ∧ _
    refine ⟨rfl, ?_⟩
    have e : isPr p = (eqD (D.int 2) (D.int p) || (eqD (D.int 3) (D.int p) || (eqD (D.int 5) (D.int p) || eqD (D.int 7) (D.int p)))) := by
      rw [Bool.eq_iff_iff]
      simp only [isPr, eqD, List.contains_cons, List.contains_nil, Bool.or_false, Bool.or_eq_true, beq_iff_eq]
      omega
    rw [← e]
    exact hq
end

end My

namespace My
open PySem PySem.Spec L2 DL
theorem sc_is_term : FnScope ["thing"] ["thing"] (defScope (top 20)) := ⟨rfl, rfl, rfl, by decide +kernel, rfl, by decide +kernel, by decide +kernel⟩
section
variable {P : Program} {w : World} {K : PySem.W.Frag} {mg : Str → Option Value} {base : Heap}
theorem ok_is_term (T : Top K mg) : Sg P w K mg base "is_term" 2 1 F_is_term [] := by
  obtain ⟨fd, FD⟩ := T.d_is_term
  refine ⟨_, fd, ["thing"], [], [], ?_, T.g_is_term, FD.kp, FD.bindsN (fun _ _ _ _ _ _ us hl => match us, hl with | [_], _ => rfl), .nil, fun _ => .nil⟩
  refine ok_def FD sc_is_term rfl ?_
  rintro X E W ds n q xx ⟨cdv, A, outer, s, H, rfl⟩ hr tk pso hl hF
  have hu := hr.units
  have hu1 := hu_of hr
  refine ⟨_, (pss_oneD (ps_retD (pd_and (pd_call (ok_is_list T) (hr.mono (by decide)) tk (by rfl) (pad_cons (pd_var 0) pad_nil)) (pd_and (pd_eq hu (PD.pb (pd_callB call_lenD2 dcall_len (by rfl) T.f_len (by decide +kernel) (pab_cons (pb_var 0) pab_nil))) (PD.pb pd_int)) (pd_and (pd_call (ok_is_integer T) (hr.mono (by decide)) tk (by rfl) (pad_cons (pd_ix (pb_var 0) (PD.pb pd_int)) pad_nil)) (pd_one (pd_call (ok_is_integer T) (hr.mono (by decide)) tk (by rfl) (pad_cons (pd_ix (pb_var 0) (PD.pb pd_int)) pad_nil)))))))), ?_⟩
  clear hr tk pso hl hu hu1
  match ds, hF with
  | [.tup [.int a, .int b]], hF =>
    have hq : q (.bl true) n := hF
    walk_at "d"
    refine ⟨ok_tup _, ?_⟩
    refine ⟨ok_int a, ?_⟩
    exact ⟨ok_int b, hq⟩
end

end My

namespace My
open PySem PySem.Spec L2 DL
theorem sc_Filter___init__ : FnScope ["self", "prime", "terms", "sums", "index", "term", "offsets", "offset"] ["self", "prime", "terms"] (defScope (inClass (top 22) 0)) := ⟨rfl, rfl, rfl, by decide +kernel, rfl, by decide +kernel, by decide +kernel⟩
section
variable {P : Program} {w : World} {K : PySem.W.Frag} {mg : Str → Option Value} {base : Heap}
theorem init_loop {E : DEnds} {L : Nat} (hL : L = 2) {p : Int} (hp : 0 < p) (o t : Option Sl) (ts : Tm) : ∀ (m : Tm) (i : Nat) (x y : Option Sl) (n : Nat), m.length + ts.length < 10000000 → (∀ x y, E.nx [o, some (.val (.int p)), t, some (.own (.dct ((ts.foldl (hstep p) m).map kvp))), x, y, none, none] n) →
    forD (gTn L (gsC (gN 4) (gsC (gN 5) gs0))) (dSeq (dIfS (dNotT (dTest (dCall 1 F_is_term [] (dCons (dVar 5) dNil)))) dNever dNext) (dPut 3 (dOp fIx (bVar 5) (dC (.int 0))) (dOp fMod (dOp fAdd (dGet2 (bVar 3) (dOp fIx (bVar 5) (dC (.int 0))) (dC (.int 0))) (dOp fIx (bVar 5) (dC (.int 1)))) (bVar 1)))) (enumF i (ts.map trm)) E [o, some (.val (.int p)), t, some (.own (.dct (m.map kvp))), x, y, none, none] n := by
  subst hL
  induction ts with
  | nil => intro m i x y n _ h; exact h x y
  | cons a ts ih =>
    intro m i x y n hl h
    rw [List.map_cons, enumF, forD_cons]
    walk_at "d"
    simp only [F_is_term, bq]
    walk_at "d"
    rw [List.length_cons] at hl
    refine ⟨hp, by omega, ?_⟩
    refine ih _ _ _ _ _ ?_ h
    have := putI_length m a.1 ((getI m a.1 + a.2) % p)
    omega
theorem ok_Filter___init__ (T : Top K mg) : Ig P w K mg base "Filter" 3 3 F_Filter___init__ [] := by
  obtain ⟨fd, FD⟩ := T.d_Filter___init__
  obtain ⟨ds0, rv, hb⟩ := FD.binds1 (ps := ["self", "prime", "terms"]) 3 1 (by intro z; cases z) rfl (fun T kV doc pm an cdv ct us its h1 h2 => match us, h1, its, h2 with | [_, _, _], _, [_], _ => ⟨_, rfl, rfl⟩)
  cases rv
  refine ⟨T.g_Filter, _, fd, ["self", "prime", "terms"], [], [], ?_, T.mk_Filter, hb, .nil, fun _ => .nil⟩
  refine ok_init FD sc_Filter___init__ rfl ?_
  rintro X E W ds n q xx ⟨cdv, A, outer, s, H, rfl⟩ hr tk pso hl hF
  have hu := hr.units
  have hu1 := hu_of hr
  refine ⟨_, (pss_consD (ps_ifD (ptd_not (pt_valD (PD.pb (pd_call (ok_is_prime T) (hr.mono (by decide)) tk (by rfl) (pad_cons (pd_var 1) pad_nil))))) (pss_oneD ps_neverD) pss_nilD)
      (pss_consD (ps_ifD (ptd_not (pt_valD (PD.pb (pd_call (ok_is_list T) (hr.mono (by decide)) tk (by rfl) (pad_cons (pd_var 2) pad_nil))))) (pss_oneD ps_neverD) pss_nilD)
      (pss_consD (ps_ownD 3 pf_dct0 sc_Filter___init__.nd)
      (pss_consD (ps_forD pso rfl (pid_enumK (by rfl) T.f_enumerate (pad_cons (pd_var 2) pad_nil)) (pgd_tup (m := 2) rfl (pgsd_cons (pgd_name 4 sc_Filter___init__.nd) (pgsd_cons (pgd_name 5 sc_Filter___init__.nd) pgsd_nil))) (pss_consD (ps_ifD (ptd_not (pt_valD (PD.pb (pd_call (ok_is_term T) (hr.mono (by decide)) tk (by rfl) (pad_cons (pd_var 5) pad_nil))))) (pss_oneD ps_neverD) pss_nilD)
      (pss_oneD (ps_putD 3 hu1 (PD.pb (pd_ix (pb_var 5) (PD.pb pd_int))) (pd_mod (PD.pb (pd_add (PD.pb (pd_get2 hu1 (pb_var 3) (PD.pb (pd_ix (pb_var 5) (PD.pb pd_int))) pd_int)) (PD.pb (pd_ix (pb_var 5) (PD.pb pd_int))))) (pb_var 1))))))
      (pss_frz 3 (pss_consD (ps_setD 6 (pd_callB cr_sortedI dcall_sorted (by rfl) T.f_sorted (by decide +kernel) (pab_cons (PD.pb (PF.pd (pf_lc [("offset", 7)] rfl sc_Filter___init__.nd (pid_keys (pd_var 3)) (blkOk_by (own := [("offset", 7)]) (N := ["self", "prime", "terms", "sums", "index", "term", "offsets", "offset"]) (sc := defScope (inClass (top 22) 0)) (by decide +kernel)) (fun _ _ _ _ _ => (pgd_name 7 sc_Filter___init__.nd)) (fun _ _ _ _ _ => ptsD_nil) (fun _ _ _ _ _ => (pd_callTy call_int1 dcall_int (by rfl) T.f_int (by decide +kernel) (pab_cons (pb_var 7) pab_nil)))))) pab_nil)) sc_Filter___init__.nd)
      (pss_consD (ps_fldD 0 (T.fld_Filter_prime _ (List.mem_singleton_self _)).1 (T.fld_Filter_prime _ (List.mem_singleton_self _)).2 (pd_var 1))
      (pss_consD (ps_fldD 0 (T.fld_Filter_kept _ (List.mem_singleton_self _)).1 (T.fld_Filter_kept _ (List.mem_singleton_self _)).2 (PF.pd (pf_lc [("offset", 7)] rfl sc_Filter___init__.nd (pid_seq (pd_var 6)) (blkOk_by (own := [("offset", 7)]) (N := ["self", "prime", "terms", "sums", "index", "term", "offsets", "offset"]) (sc := defScope (inClass (top 22) 0)) (by decide +kernel)) (fun _ _ _ _ _ => (pgd_name 7 sc_Filter___init__.nd)) (fun _ _ _ _ _ => (ptsD_one (pt_gt (PD.pb (pd_dg hu1 (pb_var 3) (pb_var 7))) (PD.pb pd_int)))) (fun _ _ _ _ _ => (pd_tup (pad_cons (pd_var 7) (pad_cons (pd_dg hu1 (pb_var 3) (pb_var 7)) pad_nil)))))))
      (pss_oneD (ps_fldD 0 (T.fld_Filter_held _ (List.mem_singleton_self _)).1 (T.fld_Filter_held _ (List.mem_singleton_self _)).2 (pd_callTy (callR_lk (call_dictP rfl)) dcall_dict (by rfl) T.f_dict (by decide +kernel) (pab_cons (PD.pb (pd_fld ["Filter"] T.fld_Filter_kept (pb_var 0))) pab_nil)))))))))))), ?_⟩
  clear hr tk pso hl hu hu1
  obtain ⟨p, d, ts, rfl, hsq, hp, hl, hq⟩ := hF
  have hp0 := isPr_pos hp
  have hd : d = .lst (ts.map trm) ∨ d = .tup (ts.map trm) := by
    cases d with
    | lst es => cases hsq; exact .inl rfl
    | tup es => cases hsq; exact .inr rfl
    | _ => exact nomatch hsq
  rcases hd with rfl | rfl
  all_goals (
    walk_at "d"
    simp only [F_is_prime, hp, F_is_list]
    refine ⟨⟨_, rfl, fun c e => nomatch e⟩, ?_⟩
    walk_at "d"
    rw [enumD_eq]
    refine init_loop rfl hp0.1 _ _ ts [] 0 _ _ n (by rw [List.length_nil]; omega) fun x y => ?_
    walk_at "d"
    have eh : List.foldl (hstep p) [] ts = hsum p ts := rfl
    rw [eh]
    have hlen := hsum_length p ts
    refine lcD_map some _ _ _ (fun d hd K h => ?_) (by simp; omega) ?_
    · obtain ⟨k, _, rfl⟩ := List.mem_map.mp hd
      walk_at "d"
      exact h
    rw [fm_some, List.nil_append, intsD_map]
    intro ms hperm hsort
    obtain rfl := srt_of hperm hsort
    refine ⟨by show 1 < 1000; decide, ?_⟩
    refine lcD_map (keepF (hsum p ts)) _ _ _ (fun d hd K h => ?_) ?_ ?_
    · obtain ⟨k, hk, rfl⟩ := List.mem_map.mp hd
      walk_at "d"
      rw [get_kvp' (hsum_key hk)]
      walk_at "d"
      simp only [keepF] at h
      by_cases c : 0 < getI (hsum p ts) k
      · simp only [c, decide_true, if_true] at h ⊢
        exact ⟨by decide, h⟩
      · simp only [c, decide_false] at h ⊢
        exact h
    · rw [List.length_map, List.length_nil, (srt_perm _).length_eq, List.length_map]
      omega
    · rw [List.nil_append, keepF_eq]
      refine ⟨by show 2 < 1000; decide, ?_⟩
      rw [lk_kept]
      simp only []
      rw [pairs_trm]
      show q (setF "held" (.dct (mergeD [] ((canon p ts).map kvp))) (setF "kept" (.lst ((canon p ts).map trm)) (setF "prime" (.int p) []))) n
      rw [merge_kvp0 (canon_nodup p ts)]
      exact hq)
theorem ok_Filter___init___d1 (T : Top K mg) : Ig P w K mg base "Filter" 3 3 F_Filter___init__ [.tup []] := by
  obtain ⟨fd, FD⟩ := T.d_Filter___init__
  obtain ⟨ds0, rv, hb⟩ := FD.binds1 (ps := ["self", "prime", "terms"]) 2 0 (by intro z; cases z) rfl (fun T kV doc pm an cdv ct us its h1 h2 => match us, h1, its, h2 with | [_, _], _, [_], _ => ⟨_, rfl, rfl⟩)
  refine ⟨T.g_Filter, _, fd, ["self", "prime", "terms"], ds0, _, ?_, T.mk_Filter, hb, rv, fun G => .cons (T.dfl_Filter___init__ G) .nil⟩
  refine ok_init FD sc_Filter___init__ rfl ?_
  rintro X E W ds n q xx ⟨cdv, A, outer, s, H, rfl⟩ hr tk pso hl hF
  have hu := hr.units
  have hu1 := hu_of hr
  refine ⟨_, (pss_consD (ps_ifD (ptd_not (pt_valD (PD.pb (pd_call (ok_is_prime T) (hr.mono (by decide)) tk (by rfl) (pad_cons (pd_var 1) pad_nil))))) (pss_oneD ps_neverD) pss_nilD)
      (pss_consD (ps_ifD (ptd_not (pt_valD (PD.pb (pd_call (ok_is_list T) (hr.mono (by decide)) tk (by rfl) (pad_cons (pd_var 2) pad_nil))))) (pss_oneD ps_neverD) pss_nilD)
      (pss_consD (ps_ownD 3 pf_dct0 sc_Filter___init__.nd)
      (pss_consD (ps_forD pso rfl (pid_enumK (by rfl) T.f_enumerate (pad_cons (pd_var 2) pad_nil)) (pgd_tup (m := 2) rfl (pgsd_cons (pgd_name 4 sc_Filter___init__.nd) (pgsd_cons (pgd_name 5 sc_Filter___init__.nd) pgsd_nil))) (pss_consD (ps_ifD (ptd_not (pt_valD (PD.pb (pd_call (ok_is_term T) (hr.mono (by decide)) tk (by rfl) (pad_cons (pd_var 5) pad_nil))))) (pss_oneD ps_neverD) pss_nilD)
      (pss_oneD (ps_putD 3 hu1 (PD.pb (pd_ix (pb_var 5) (PD.pb pd_int))) (pd_mod (PD.pb (pd_add (PD.pb (pd_get2 hu1 (pb_var 3) (PD.pb (pd_ix (pb_var 5) (PD.pb pd_int))) pd_int)) (PD.pb (pd_ix (pb_var 5) (PD.pb pd_int))))) (pb_var 1))))))
      (pss_frz 3 (pss_consD (ps_setD 6 (pd_callB cr_sortedI dcall_sorted (by rfl) T.f_sorted (by decide +kernel) (pab_cons (PD.pb (PF.pd (pf_lc [("offset", 7)] rfl sc_Filter___init__.nd (pid_keys (pd_var 3)) (blkOk_by (own := [("offset", 7)]) (N := ["self", "prime", "terms", "sums", "index", "term", "offsets", "offset"]) (sc := defScope (inClass (top 22) 0)) (by decide +kernel)) (fun _ _ _ _ _ => (pgd_name 7 sc_Filter___init__.nd)) (fun _ _ _ _ _ => ptsD_nil) (fun _ _ _ _ _ => (pd_callTy call_int1 dcall_int (by rfl) T.f_int (by decide +kernel) (pab_cons (pb_var 7) pab_nil)))))) pab_nil)) sc_Filter___init__.nd)
      (pss_consD (ps_fldD 0 (T.fld_Filter_prime _ (List.mem_singleton_self _)).1 (T.fld_Filter_prime _ (List.mem_singleton_self _)).2 (pd_var 1))
      (pss_consD (ps_fldD 0 (T.fld_Filter_kept _ (List.mem_singleton_self _)).1 (T.fld_Filter_kept _ (List.mem_singleton_self _)).2 (PF.pd (pf_lc [("offset", 7)] rfl sc_Filter___init__.nd (pid_seq (pd_var 6)) (blkOk_by (own := [("offset", 7)]) (N := ["self", "prime", "terms", "sums", "index", "term", "offsets", "offset"]) (sc := defScope (inClass (top 22) 0)) (by decide +kernel)) (fun _ _ _ _ _ => (pgd_name 7 sc_Filter___init__.nd)) (fun _ _ _ _ _ => (ptsD_one (pt_gt (PD.pb (pd_dg hu1 (pb_var 3) (pb_var 7))) (PD.pb pd_int)))) (fun _ _ _ _ _ => (pd_tup (pad_cons (pd_var 7) (pad_cons (pd_dg hu1 (pb_var 3) (pb_var 7)) pad_nil)))))))
      (pss_oneD (ps_fldD 0 (T.fld_Filter_held _ (List.mem_singleton_self _)).1 (T.fld_Filter_held _ (List.mem_singleton_self _)).2 (pd_callTy (callR_lk (call_dictP rfl)) dcall_dict (by rfl) T.f_dict (by decide +kernel) (pab_cons (PD.pb (pd_fld ["Filter"] T.fld_Filter_kept (pb_var 0))) pab_nil)))))))))))), ?_⟩
  clear hr tk pso hl hu hu1
  obtain ⟨p, d, ts, rfl, hsq, hp, hl, hq⟩ := hF
  have hp0 := isPr_pos hp
  have hd : d = .lst (ts.map trm) ∨ d = .tup (ts.map trm) := by
    cases d with
    | lst es => cases hsq; exact .inl rfl
    | tup es => cases hsq; exact .inr rfl
    | _ => exact nomatch hsq
  rcases hd with rfl | rfl
  all_goals (
    walk_at "d"
    simp only [F_is_prime, hp, F_is_list]
    refine ⟨⟨_, rfl, fun c e => nomatch e⟩, ?_⟩
    walk_at "d"
    rw [enumD_eq]
    refine init_loop rfl hp0.1 _ _ ts [] 0 _ _ n (by rw [List.length_nil]; omega) fun x y => ?_
    walk_at "d"
    have eh : List.foldl (hstep p) [] ts = hsum p ts := rfl
    rw [eh]
    have hlen := hsum_length p ts
    refine lcD_map some _ _ _ (fun d hd K h => ?_) (by simp; omega) ?_
    · obtain ⟨k, _, rfl⟩ := List.mem_map.mp hd
      walk_at "d"
      exact h
    rw [fm_some, List.nil_append, intsD_map]
    intro ms hperm hsort
    obtain rfl := srt_of hperm hsort
    refine ⟨by show 1 < 1000; decide, ?_⟩
    refine lcD_map (keepF (hsum p ts)) _ _ _ (fun d hd K h => ?_) ?_ ?_
    · obtain ⟨k, hk, rfl⟩ := List.mem_map.mp hd
      walk_at "d"
      rw [get_kvp' (hsum_key hk)]
      walk_at "d"
      simp only [keepF] at h
      by_cases c : 0 < getI (hsum p ts) k
      · simp only [c, decide_true, if_true] at h ⊢
        exact ⟨by decide, h⟩
      · simp only [c, decide_false] at h ⊢
        exact h
    · rw [List.length_map, List.length_nil, (srt_perm _).length_eq, List.length_map]
      omega
    · rw [List.nil_append, keepF_eq]
      refine ⟨by show 2 < 1000; decide, ?_⟩
      rw [lk_kept]
      simp only []
      rw [pairs_trm]
      show q (setF "held" (.dct (mergeD [] ((canon p ts).map kvp))) (setF "kept" (.lst ((canon p ts).map trm)) (setF "prime" (.int p) []))) n
      rw [merge_kvp0 (canon_nodup p ts)]
      exact hq)
end

end My

namespace My
open PySem PySem.Spec L2 DL
theorem sc_Filter_high : FnScope ["self"] ["self"] (defScope (inClass (top 22) 9)) := ⟨rfl, rfl, rfl, by decide +kernel, rfl, by decide +kernel, by decide +kernel⟩
section
variable {P : Program} {w : World} {K : PySem.W.Frag} {mg : Str → Option Value} {base : Heap}
theorem ok_Filter_high (T : Top K mg) : Mg P w K mg base "Filter" "high" 1 1 F_Filter_high [] := by
  obtain ⟨fd, FD⟩ := T.d_Filter_high
  refine ⟨T.cl_Filter, _, fd, ["self"], [], [], ?_, T.m_Filter_high, FD.bindsN (fun _ _ _ _ _ _ us hl => match us, hl with | [_], _ => rfl), .nil, fun _ => .nil⟩
  refine ok_def FD sc_Filter_high rfl ?_
  rintro X E W ds n q xx ⟨cdv, A, outer, s, H, rfl⟩ hr tk pso hl hF
  have hu := hr.units
  have hu1 := hu_of hr
  refine ⟨_, (pss_oneD (ps_retD (pd_if (pt_truD (PD.pb (pd_fld ["Filter"] T.fld_Filter_kept (pb_var 0)))) (pd_ix (PD.pb (pd_ix (PD.pb (pd_fld ["Filter"] T.fld_Filter_kept (pb_var 0))) (PD.pb (pd_neg (PD.pb pd_int))))) (PD.pb pd_int)) pd_non))), ?_⟩
  clear hr tk pso hl hu hu1
  obtain ⟨p, ts, rfl, hq⟩ := hF
  walk_at "d"
  cases e : ts.getLast? with
  | none =>
    obtain rfl := List.getLast?_eq_none_iff.mp e
    exact hq
  | some t =>
    rw [e] at hq
    have e2 : (ts.map trm).getLast? = some (trm t) := by rw [List.getLast?_map, e]; rfl
    have e3 : (ts.map trm).isEmpty = false := by cases ts with | nil => cases e | cons _ _ => rfl
    rw [atLast e2, e3]
    exact hq
end

end My

namespace My
open PySem PySem.Spec L2 DL
theorem sc_Filter_low : FnScope ["self"] ["self"] (defScope (inClass (top 22) 8)) := ⟨rfl, rfl, rfl, by decide +kernel, rfl, by decide +kernel, by decide +kernel⟩
section
variable {P : Program} {w : World} {K : PySem.W.Frag} {mg : Str → Option Value} {base : Heap}
theorem ok_Filter_low (T : Top K mg) : Mg P w K mg base "Filter" "low" 1 1 F_Filter_low [] := by
  obtain ⟨fd, FD⟩ := T.d_Filter_low
  refine ⟨T.cl_Filter, _, fd, ["self"], [], [], ?_, T.m_Filter_low, FD.bindsN (fun _ _ _ _ _ _ us hl => match us, hl with | [_], _ => rfl), .nil, fun _ => .nil⟩
  refine ok_def FD sc_Filter_low rfl ?_
  rintro X E W ds n q xx ⟨cdv, A, outer, s, H, rfl⟩ hr tk pso hl hF
  have hu := hr.units
  have hu1 := hu_of hr
  refine ⟨_, (pss_oneD (ps_retD (pd_if (pt_truD (PD.pb (pd_fld ["Filter"] T.fld_Filter_kept (pb_var 0)))) (pd_ix (PD.pb (pd_ix (PD.pb (pd_fld ["Filter"] T.fld_Filter_kept (pb_var 0))) (PD.pb pd_int))) (PD.pb pd_int)) pd_non))), ?_⟩
  clear hr tk pso hl hu hu1
  obtain ⟨p, ts, rfl, hq⟩ := hF
  walk_at "d"
  cases ts with
  | nil => exact hq
  | cons t ts =>
    rw [List.map_cons, at0]
    exact hq
end

end My

namespace My
open PySem PySem.Spec L2 DL
theorem sc_check_primes : FnScope ["one", "other"] ["one", "other"] (defScope (top 17)) := ⟨rfl, rfl, rfl, by decide +kernel, rfl, by decide +kernel, by decide +kernel⟩
section
variable {P : Program} {w : World} {K : PySem.W.Frag} {mg : Str → Option Value} {base : Heap}
theorem ok_check_primes (T : Top K mg) : Sg P w K mg base "check_primes" 3 2 F_check_primes [] := by
  obtain ⟨fd, FD⟩ := T.d_check_primes
  refine ⟨_, fd, ["one", "other"], [], [], ?_, T.g_check_primes, FD.kp, FD.bindsN (fun _ _ _ _ _ _ us hl => match us, hl with | [_, _], _ => rfl), .nil, fun _ => .nil⟩
  refine ok_def FD sc_check_primes rfl ?_
  rintro X E W ds n q xx ⟨cdv, A, outer, s, H, rfl⟩ hr tk pso hl hF
  have hu := hr.units
  have hu1 := hu_of hr
  refine ⟨_, (pss_oneD (ps_ifD (pt_ne hu (PD.pb (pd_fld ["Filter"] T.fld_Filter_prime (pb_var 0))) (PD.pb (pd_fld ["Filter"] T.fld_Filter_prime (pb_var 1)))) (pss_oneD (ps_raise0 (xg_UnlikePrimes T) (hr.mono (by decide)) rfl tk (by rfl))) pss_nilD)), ?_⟩
  clear hr tk pso hl hu hu1
  match ds, hF with
  | [.obj c fs, .obj d gs], hF =>
    obtain ⟨rfl, rfl, p, h1, ⟨h2, hq⟩ | ⟨p', hne, h2, hq⟩⟩ := hF
    · walk_at "d"
      rw [h1]
      simp only []
      rw [h2]
      refine ⟨rfl, rfl, ?_⟩
      rw [show ((pyD (.int p)).eqv (pyD (.int p))) = true from SeqAt.eqv_refl _ rfl]
      exact hq
    · walk_at "d"
      rw [h1]
      simp only []
      rw [h2]
      refine ⟨rfl, rfl, ?_⟩
      rw [show (pyD (.int p)).eqv (pyD (.int p')) = decide (p = p') from eqv_int p p', decide_eq_false hne]
      exact hq
end

end My

namespace My
open PySem PySem.Spec L2 DL
theorem sc_inverse : FnScope ["prime", "digit", "k"] ["prime", "digit"] (defScope (top 5)) := ⟨rfl, rfl, rfl, by decide +kernel, rfl, by decide +kernel, by decide +kernel⟩
section
variable {P : Program} {w : World} {K : PySem.W.Frag} {mg : Str → Option Value} {base : Heap}
def invF (p c : Int) : D → Option D
  | .int k => if decide (k * c % p = 1) = true then some (.int k) else none
  | _ => none
theorem inv_list {p c : Int} (hp : isPr p = true) (h0 : 0 < c) (h1 : c < p) : (rngD 1 (p - 1).toNat).filterMap (invF p c) = [.int (invD p c)] := by
  rcases isPr_cases hp with rfl | rfl | rfl | rfl
  · have : c = 1 := by omega
    subst c; rfl
  · have : c = 1 ∨ c = 2 := by omega
    rcases this with rfl | rfl <;> rfl
  · have : c = 1 ∨ c = 2 ∨ c = 3 ∨ c = 4 := by omega
    rcases this with rfl | rfl | rfl | rfl <;> rfl
  · have : c = 1 ∨ c = 2 ∨ c = 3 ∨ c = 4 ∨ c = 5 ∨ c = 6 := by omega
    rcases this with rfl | rfl | rfl | rfl | rfl | rfl <;> rfl
theorem ok_inverse (T : Top K mg) : Sg P w K mg base "inverse" 1 2 F_inverse [] := by
  obtain ⟨fd, FD⟩ := T.d_inverse
  refine ⟨_, fd, ["prime", "digit"], [], [], ?_, T.g_inverse, FD.kp, FD.bindsN (fun _ _ _ _ _ _ us hl => match us, hl with | [_, _], _ => rfl), .nil, fun _ => .nil⟩
  refine ok_def FD sc_inverse rfl ?_
  rintro X E W ds n q xx ⟨cdv, A, outer, s, H, rfl⟩ hr tk pso hl hF
  have hu := hr.units
  have hu1 := hu_of hr
  refine ⟨_, (pss_oneD (ps_retD (pd_ix (PD.pb (PF.pd (pf_lc [("k", 2)] rfl sc_inverse.nd (pid_r2 (by rfl) T.f_range (pab_cons (PD.pb pd_int) (pab_cons (pb_var 0) pab_nil))) (blkOk_by (own := [("k", 2)]) (N := ["prime", "digit", "k"]) (sc := defScope (top 5)) (by decide +kernel)) (fun _ _ _ _ _ => (pgd_name 2 sc_inverse.nd)) (fun _ _ _ _ _ => (ptsD_one (pt_eq hu (PD.pb (pd_mod (PD.pb (pd_mul (pb_var 2) (pb_var 1))) (pb_var 0))) (PD.pb pd_int)))) (fun _ _ _ _ _ => (pd_var 2))))) (PD.pb pd_int)))), ?_⟩
  clear hr tk pso hl hu hu1
  obtain ⟨p, c, rfl, hp, h0, h1, hq⟩ := hF
  have hp0 := isPr_pos hp
  walk_at "d"
  refine ⟨by omega, ?_⟩
  refine lcD_map (invF p c) _ _ _ (fun d hd K h => ?_) (by rw [rng_len, List.length_nil]; omega) ?_
  · rw [rngD_map] at hd
    obtain ⟨i, hi, rfl⟩ := List.mem_map.mp hd
    walk_at "d"
    refine ⟨.inl (.inr (by omega)), hp0.1, ?_⟩
    rw [eqv_int]
    simp only [invF] at h
    by_cases hc : (1 + (i : Int)) * c % p = 1
    · simp only [hc, decide_true, if_true] at h ⊢
      exact h
    · simp only [hc, decide_false, Bool.false_eq_true, if_false] at h ⊢
      exact h
  · rw [List.nil_append, inv_list hp h0 h1]
    exact hq
end

end My

namespace My
open PySem PySem.Spec L2 DL
theorem sc_divided : FnScope ["prime", "terms", "divisor", "size", "scale", "left", "quotient", "offset", "coefficient", "low", "high", "digit", "start", "k", "part"] ["prime", "terms", "divisor"] (defScope (top 13)) := ⟨rfl, rfl, rfl, by decide +kernel, rfl, by decide +kernel, by decide +kernel⟩
section
variable {P : Program} {w : World} {K : PySem.W.Frag} {mg : Str → Option Value} {base : Heap}
/-- a table whose values are the coefficients of z -/
def Tab {p : Int} (L : Tm) (z : LP p) : Prop := ∀ k, getI L k = cf z k
theorem offs {low high : Int} {m : Nat} (a b : Nat) (ha : a = (0 - low).toNat) (hb : b = (high - ((m : Int) - 1)).toNat) (hl : low ≤ 0) :
    (((List.range a).map fun (i : Nat) => low + (i : Int)) ++ (List.range b).map fun (i : Nat) => high + (i : Int) * (-1)).Pairwise (fun x y => (y < 0 → x < y) ∧ (0 ≤ y → x < 0 ∨ y < x)) ∧
    ∀ o, o ∈ (((List.range a).map fun (i : Nat) => low + (i : Int)) ++ (List.range b).map fun (i : Nat) => high + (i : Int) * (-1)) ↔ (low ≤ o ∧ o < 0) ∨ ((m : Int) ≤ o ∧ o ≤ high) := by
  refine ⟨?_, fun o => ?_⟩
  · rw [List.pairwise_append]
    refine ⟨?_, ?_, fun x hx y hy => ?_⟩
    · rw [List.pairwise_map]
      refine List.Pairwise.imp_of_mem (fun {i j} hi hj h => ?_) List.pairwise_lt_range
      rw [List.mem_range] at hi hj
      omega
    · rw [List.pairwise_map]
      refine List.Pairwise.imp_of_mem (fun {i j} hi hj h => ?_) List.pairwise_lt_range
      rw [List.mem_range] at hi hj
      omega
    · obtain ⟨i, hi, rfl⟩ := List.mem_map.mp hx
      obtain ⟨j, hj, rfl⟩ := List.mem_map.mp hy
      rw [List.mem_range] at hi hj
      omega
  · rw [List.mem_append, List.mem_map, List.mem_map]
    constructor
    · rintro (⟨i, hi, rfl⟩ | ⟨i, hi, rfl⟩)
      · rw [List.mem_range] at hi; omega
      · rw [List.mem_range] at hi; omega
    · rintro (⟨h1, h2⟩ | ⟨h1, h2⟩)
      · exact .inl ⟨(o - low).toNat, by rw [List.mem_range]; omega, by omega⟩
      · exact .inr ⟨(high - o).toNat, by rw [List.mem_range]; omega, by omega⟩
structure DInv {p : Int} (f g : LP p) (m : Nat) (low high : Int) (pre : List Int) (L Q : Tm) : Prop where
  lk : (L.map (·.1)).Nodup ∧ ∀ k ∈ L.map (·.1), low ≤ k ∧ k ≤ max high ((m : Int) - 1)
  z : ∃ z : LP p, Tab L z ∧ f = lp p Q * g + z ∧ Bd z low (max high ((m : Int) - 1)) ∧ ∀ o ∈ pre, cf z o = 0
  qn : (Q.map (·.1)).Nodup
  ql : Q.length ≤ pre.length
  qs : ∀ t ∈ Q, 0 ≤ t.2 ∧ t.2 < p
  qk : ∀ t ∈ Q, (t.1 < 0 ∧ t.1 ∈ pre) ∨ (0 ≤ t.1 ∧ t.1 + (m : Int) ∈ pre)
theorem DInv.next {p : Int} (hp : isPr p = true) {f g : LP p} {m : Nat} (hg0 : Lo g 0) (hgm : Hi g m) (hg1 : cf g m = 1) {low high : Int} (hlow : low ≤ 0) {pre : List Int} {L Q : Tm} (I : DInv f g m low high pre L Q) {o : Int} (ho : (low ≤ o ∧ o < 0) ∨ ((m : Int) ≤ o ∧ o ≤ high))
    (hpre : ∀ x ∈ pre, (o < 0 → x < o) ∧ (0 ≤ o → x < 0 ∨ o < x)) {digit start : Int} (hs : start = if o < 0 then o else o - m) (hd : digit = if o < 0 then (getI L o * invD p (cf g 0)) % p else getI L o) (hpos : 0 < digit)
    {L' : Tm} (hL : (L'.map (·.1)).Nodup ∧ ∀ k ∈ L'.map (·.1), k ∈ L.map (·.1) ∨ (start ≤ k ∧ k ≤ start + m)) (hT : ∀ z : LP p, Tab L z → Tab L' (z - mono p start digit * g)) : DInv f g m low high (pre ++ [o]) L' (putI Q start digit) := by
  have hp0 := (isPr_pos hp).1
  obtain ⟨z, zt, ze, zb, zz⟩ := I.z
  have hdz : digit = if o < 0 then (cf z o * invD p (cf g 0)) % p else cf z o := by rw [hd, zt]
  have hnew : start ∉ Q.map (·.1) := fun hm => by
    obtain ⟨t, ht, e⟩ := List.mem_map.mp hm
    by_cases h : o < 0
    · rw [if_pos h] at hs
      rcases I.qk t ht with ⟨h1, h2⟩ | ⟨h1, h2⟩
      · have := (hpre _ h2).1 h; omega
      · omega
    · rw [if_neg h] at hs
      rcases I.qk t ht with ⟨h1, h2⟩ | ⟨h1, h2⟩
      · omega
      · have := (hpre _ h2).2 (by omega); omega
  have hput : putI Q start digit = Q ++ [(start, digit)] := putI_new _ hnew
  have dlt : digit < p := by
    rw [hdz]
    split
    · exact Int.emod_lt_of_pos _ hp0
    · exact (cf_range hp0 z o).2
  rw [hput]
  refine ⟨?_, ⟨z - mono p start digit * g, hT z zt, ?_, ?_, ?_⟩, ?_, ?_, ?_, ?_⟩
  · refine ⟨hL.1, fun k hk => ?_⟩
    rcases hL.2 k hk with h | h
    · exact I.lk.2 k h
    · split at hs <;> omega
  · rw [← lp_add]
    have : lp p [(start, digit)] = mono p start digit := rfl
    rw [this]
    calc f = lp p Q * g + z := ze
      _ = _ := by grind
  · have gb : Bd g 0 m := .of_hl hgm hg0
    refine Bd.sub zb ((gb.mono_mul start digit).mono ?_ ?_)
    · split at hs <;> omega
    · split at hs <;> omega
  · intro x hx
    rw [cf_sub, cf_mono_mul]
    rcases List.mem_append.mp hx with hx | hx
    · rw [zz x hx]
      have hr := hpre x hx
      have : cf g (x - start) = 0 := by
        by_cases h : o < 0
        · rw [if_pos h] at hs
          exact hg0.2 _ (by have := hr.1 h; omega)
        · rw [if_neg h] at hs
          rcases hr.2 (by omega) with h1 | h1
          · exact hg0.2 _ (by omega)
          · exact hgm.2 _ (by omega)
      rw [this]
      simp
    · rw [List.mem_singleton.mp hx]
      have c0 := cf_range hp0 z o
      have e : (digit * cf g (o - start)) % p = cf z o := by
        by_cases h : o < 0
        · rw [if_pos h] at hs hdz
          rw [hs, show o - o = 0 by omega, hdz]
          have gl := cf_lo hp0 hg0.ne
          rw [hg0.lo hp0] at gl
          have iv := (invD_mul hp gl.1 gl.2).1
          rw [Int.mul_emod, Int.emod_emod_of_dvd _ (Int.dvd_refl p), ← Int.mul_emod, Int.mul_assoc, Int.mul_emod, iv, Int.mul_one, Int.emod_emod_of_dvd _ (Int.dvd_refl p), cf_mod]
        · rw [if_neg h] at hs hdz
          rw [hs, show o - (o - (m : Int)) = m by omega, hg1, Int.mul_one, hdz, cf_mod]
      rw [e]
      simp
  · rw [List.map_append, List.nodup_append]
    exact ⟨I.qn, by simp, fun a ha b hb e => by
      rw [List.map_cons, List.map_nil, List.mem_singleton] at hb
      rw [e, hb] at ha
      exact hnew ha⟩
  · rw [List.length_append, List.length_append, List.length_singleton, List.length_singleton]
    have := I.ql
    omega
  · intro t ht
    rcases List.mem_append.mp ht with ht | ht
    · exact I.qs t ht
    · rw [List.mem_singleton.mp ht]
      exact ⟨by dsimp only; omega, dlt⟩
  · intro t ht
    rcases List.mem_append.mp ht with ht | ht
    · rcases I.qk t ht with ⟨h1, h2⟩ | ⟨h1, h2⟩
      · exact .inl ⟨h1, List.mem_append_left _ h2⟩
      · exact .inr ⟨h1, List.mem_append_left _ h2⟩
    · rw [List.mem_singleton.mp ht]
      dsimp only
      by_cases h : o < 0
      · rw [if_pos h] at hs
        exact .inl ⟨by omega, by rw [hs]; simp⟩
      · rw [if_neg h] at hs
        exact .inr ⟨by omega, by rw [hs, show o - (m : Int) + m = o by omega]; simp⟩
theorem DInv.skip {p : Int} (hp : isPr p = true) {f g : LP p} {m : Nat} (hg0 : Lo g 0) {low high : Int} {pre : List Int} {L Q : Tm} (I : DInv f g m low high pre L Q) {o : Int}
    {digit : Int} (hd : digit = if o < 0 then (getI L o * invD p (cf g 0)) % p else getI L o) (hpos : ¬ 0 < digit) : DInv f g m low high (pre ++ [o]) L Q := by
  have hp0 := (isPr_pos hp).1
  obtain ⟨z, zt, ze, zb, zz⟩ := I.z
  refine ⟨I.lk, ⟨z, zt, ze, zb, fun x hx => ?_⟩, I.qn, by rw [List.length_append]; have := I.ql; omega, I.qs, fun t ht => ?_⟩
  · rcases List.mem_append.mp hx with hx | hx
    · exact zz x hx
    · rw [List.mem_singleton.mp hx]
      have c0 := cf_range hp0 z o
      rw [zt] at hd
      by_cases h : o < 0
      · rw [if_pos h] at hd
        have gl := cf_lo hp0 hg0.ne
        rw [hg0.lo hp0] at gl
        by_cases e : cf z o = 0
        · exact e
        · exfalso
          have := dig_mul hp (a := cf z o) (b := invD p (cf g 0)) (by rw [cf_mod]; exact e) (inv_ne hp gl.1 gl.2)
          have := Int.emod_nonneg (cf z o * invD p (cf g 0)) (show p ≠ 0 by omega)
          omega
      · rw [if_neg h] at hd
        omega
  · rcases I.qk t ht with ⟨h1, h2⟩ | ⟨h1, h2⟩
    · exact .inl ⟨h1, List.mem_append_left _ h2⟩
    · exact .inr ⟨h1, List.mem_append_left _ h2⟩
theorem div_in {E : DEnds} {p : Int} (hp : isPr p = true) {g z : LP p} {m : Nat} (hg0 : Lo g 0) (hgm : Hi g m) {digit start : Int} (hd : 0 ≤ digit ∧ digit < p) (a1 a2 a3 a4 a6 a7 a8 a9 a10 : Option Sl) (L : Tm) (hnd : (L.map (·.1)).Nodup) (hT : Tab L z) (n : Nat) (hlen : L.length + m ≤ 10000000)
    (k : ∀ L' y13 y14, ((L'.map (·.1)).Nodup ∧ ∀ k ∈ L'.map (·.1), k ∈ L.map (·.1) ∨ (start ≤ k ∧ k ≤ start + m)) → Tab L' (z - mono p start digit * g) → E.nx [some (.val (.int p)), a1, a2, a3, a4, some (.own (.dct (L'.map kvp))), a6, a7, a8, a9, a10, some (.val (.int digit)), some (.val (.int start)), y13, y14] n) (y13 y14 : Option Sl) :
    forD (gTn 2 (gsC (gN 13) (gsC (gN 14) gs0))) (dPut 5 (dOp fAdd (bVar 12) (bVar 13)) (dOp fMod (dOp fSub (dGet2 (bVar 5) (dOp fAdd (bVar 12) (bVar 13)) (dC (D.int 0))) (dOp fMul (bVar 11) (bVar 14))) (bVar 0))) (enumD ((dg g (m + 1)).map D.int)) E
      [some (.val (.int p)), a1, a2, a3, a4, some (.own (.dct (L.map kvp))), a6, a7, a8, a9, a10, some (.val (.int digit)), some (.val (.int start)), y13, y14] n := by
  have hp0 := isPr_pos hp
  rw [enum_dg]
  refine forD_pre (List.range (m + 1)) (fun pre ρ n' => ∃ L' y13 y14, n' = n ∧ (L'.length ≤ L.length + pre.length ∧ (L'.map (·.1)).Nodup ∧ ∀ k ∈ L'.map (·.1), k ∈ L.map (·.1) ∨ (start ≤ k ∧ k ≤ start + m)) ∧ (∀ x, getI L' x = (cf z x - (if start ≤ x ∧ x < start + (pre.length : Int) then digit * cf g (x - start) else 0)) % p) ∧ ρ = [some (.val (.int p)), a1, a2, a3, a4, some (.own (.dct (L'.map kvp))), a6, a7, a8, a9, a10, some (.val (.int digit)), some (.val (.int start)), y13, y14]) (fun pre i post e ρ n' R hI hR => ?_) (fun ρ n' hI => ?_) ⟨L, y13, y14, rfl, ⟨by simp, hnd, fun k hk => .inl hk⟩, fun x => ?_, rfl⟩
  · obtain ⟨L', y13, y14, rfl, hl, hg, rfl⟩ := hI
    obtain ⟨rfl, hi⟩ := range_split e
    have cr := cf_range hp0.1 g (pre.length : Int)
    walk_at "d"
    refine ⟨.inl (.inl ⟨by omega, by omega⟩), hp0.1, by omega, hR _ _ ⟨_, _, _, rfl, ⟨?_, putI_nodup hl.2.1 _ _, fun k hk => ?_⟩, fun x => ?_, rfl⟩⟩
    rotate_left
    · rw [putI_keys] at hk
      split at hk
      · exact hl.2.2 k hk
      · rcases List.mem_append.mp hk with hk | hk
        · exact hl.2.2 k hk
        · rw [List.mem_singleton.mp hk]
          exact .inr (by omega)
    rotate_right
    · have := putI_length L' (start + (pre.length : Int)) ((getI L' (start + (pre.length : Int)) - digit * cf g (pre.length : Int)) % p)
      rw [List.length_append, List.length_singleton]
      omega
    · rw [getI_put, List.length_append, List.length_singleton]
      by_cases hx : x = start + (pre.length : Int)
      · rw [if_pos hx, hg, if_neg (by omega), if_pos (by constructor; omega; push_cast; omega), hx, Int.sub_zero, cf_mod, show start + (pre.length : Int) - start = (pre.length : Int) by omega]
      · rw [if_neg hx, hg]
        congr 2
        by_cases h : start ≤ x ∧ x < start + (pre.length : Int)
        · rw [if_pos h, if_pos (by constructor; omega; push_cast; omega)]
        · rw [if_neg h, if_neg (by push_cast; omega)]
  · obtain ⟨L', y13, y14, rfl, hl, hg, rfl⟩ := hI
    rw [List.length_range] at hl hg
    refine k L' y13 y14 hl.2 fun x => ?_
    rw [hg, cf_sub, cf_mono_mul]
    by_cases h : start ≤ x ∧ x < start + ((m + 1 : Nat) : Int)
    · rw [if_pos h, Int.sub_emod, Int.sub_emod (cf z x) (digit * cf g (x - start) % p), Int.emod_emod_of_dvd _ (Int.dvd_refl p)]
    · rw [if_neg h]
      have : cf g (x - start) = 0 := by
        by_cases h2 : x < start
        · exact hg0.2 _ (by omega)
        · exact hgm.2 _ (by push_cast at h; omega)
      rw [this]
      simp
  · rw [hT, if_neg (by simp only [List.length_nil]; omega), Int.sub_zero, cf_mod]
theorem ok_divided (T : Top K mg) : Sg P w K mg base "divided" 2 3 F_divided [] := by
  obtain ⟨fd, FD⟩ := T.d_divided
  refine ⟨_, fd, ["prime", "terms", "divisor"], [], [], ?_, T.g_divided, FD.kp, FD.bindsN (fun _ _ _ _ _ _ us hl => match us, hl with | [_, _, _], _ => rfl), .nil, fun _ => .nil⟩
  refine ok_def FD sc_divided rfl ?_
  rintro X E W ds n q xx ⟨cdv, A, outer, s, H, rfl⟩ hr tk pso hl hF
  have hu := hr.units
  have hu1 := hu_of hr
  refine ⟨_, (pss_consD (ps_parD 3 4 rfl sc_divided.nd (pad_cons (pd_sub (PD.pb (pd_callB call_lenD2 dcall_len (by rfl) T.f_len (by decide +kernel) (pab_cons (pb_var 2) pab_nil))) (PD.pb pd_int)) (pad_cons (pd_call (ok_inverse T) (hr.mono (by decide)) tk (by rfl) (pad_cons (pd_var 0) (pad_cons (pd_ix (pb_var 2) (PD.pb pd_int)) pad_nil))) pad_nil)))
      (pss_consD (ps_ownD 5 pf_dct0 sc_divided.nd)
      (pss_consD (ps_ownD 6 pf_dct0 sc_divided.nd)
      (pss_consD (ps_forD pso rfl (pid_seq (pd_var 1)) (pgd_tup (m := 2) rfl (pgsd_cons (pgd_name 7 sc_divided.nd) (pgsd_cons (pgd_name 8 sc_divided.nd) pgsd_nil))) (pss_oneD (ps_putD 5 hu1 (pb_var 7) (pd_var 8))))
      (pss_consD (ps_setD 9 (pd_callB (cr_min rfl) dcall_min (by rfl) T.f_min (by decide +kernel) (pab_cons (PD.pb (PF.pd (pf_lc [("offset", 7)] rfl sc_divided.nd (pid_seq (PF.pd (pf_lst (pad_cons pd_int (pad_starD rfl (pb_var 5) pad_nil))))) (blkOk_by (own := [("offset", 7)]) (N := ["prime", "terms", "divisor", "size", "scale", "left", "quotient", "offset", "coefficient", "low", "high", "digit", "start", "k", "part"]) (sc := defScope (top 13)) (by decide +kernel)) (fun _ _ _ _ _ => (pgd_name 7 sc_divided.nd)) (fun _ _ _ _ _ => ptsD_nil) (fun _ _ _ _ _ => (pd_callTy call_int1 dcall_int (by rfl) T.f_int (by decide +kernel) (pab_cons (pb_var 7) pab_nil)))))) pab_nil)) sc_divided.nd)
      (pss_consD (ps_setD 10 (pd_callB (cr_max rfl) dcall_max (by rfl) T.f_max (by decide +kernel) (pab_cons (PD.pb (PF.pd (pf_lc [("offset", 7)] rfl sc_divided.nd (pid_seq (PF.pd (pf_lst (pad_cons pd_int (pad_starD rfl (pb_var 5) pad_nil))))) (blkOk_by (own := [("offset", 7)]) (N := ["prime", "terms", "divisor", "size", "scale", "left", "quotient", "offset", "coefficient", "low", "high", "digit", "start", "k", "part"]) (sc := defScope (top 13)) (by decide +kernel)) (fun _ _ _ _ _ => (pgd_name 7 sc_divided.nd)) (fun _ _ _ _ _ => ptsD_nil) (fun _ _ _ _ _ => (pd_callTy call_int1 dcall_int (by rfl) T.f_int (by decide +kernel) (pab_cons (pb_var 7) pab_nil)))))) pab_nil)) sc_divided.nd)
      (pss_consD (ps_forD pso rfl (pid_seq (pd_add (PD.pb (pd_listR2 rfl (by rfl) T.f_list (by rfl) T.f_range (pab_cons (pb_var 9) (pab_cons (PD.pb pd_int) pab_nil)))) (PD.pb (pd_listR3 rfl (by rfl) T.f_list (by rfl) T.f_range (pab_cons (pb_var 10) (pab_cons (PD.pb (pd_sub (pb_var 3) (PD.pb pd_int))) (pab_cons (PD.pb (pd_neg (PD.pb pd_int))) pab_nil))))))) (pgd_name 7 sc_divided.nd) (pss_consD (ps_parD 11 12 rfl sc_divided.nd (pad_cons (pd_get2 hu1 (pb_var 5) (pb_var 7) pd_int) (pad_cons (pd_sub (pb_var 7) (pb_var 3)) pad_nil)))
      (pss_consD (ps_ifD (pt_lt (pb_var 7) (PD.pb pd_int)) (pss_oneD (ps_parD 11 12 rfl sc_divided.nd (pad_cons (pd_mod (PD.pb (pd_mul (pb_var 11) (pb_var 4))) (pb_var 0)) (pad_cons (pd_var 7) pad_nil)))) pss_nilD)
      (pss_oneD (ps_ifD (pt_gt (pb_var 11) (PD.pb pd_int)) (pss_consD (ps_putD 6 hu1 (pb_var 12) (pd_var 11))
      (pss_oneD (ps_forD pso rfl (pid_enumK (by rfl) T.f_enumerate (pad_cons (pd_var 2) pad_nil)) (pgd_tup (m := 2) rfl (pgsd_cons (pgd_name 13 sc_divided.nd) (pgsd_cons (pgd_name 14 sc_divided.nd) pgsd_nil))) (pss_oneD (ps_putD 5 hu1 (PD.pb (pd_add (pb_var 12) (pb_var 13))) (pd_mod (PD.pb (pd_sub (PD.pb (pd_get2 hu1 (pb_var 5) (PD.pb (pd_add (pb_var 12) (pb_var 13))) pd_int)) (PD.pb (pd_mul (pb_var 11) (pb_var 14))))) (pb_var 0))))))) pss_nilD)))))
      (pss_frz 6 (pss_oneD (ps_retD (pd_tup (pad_cons (pd_var 6) (pad_cons (PF.pd (pf_lc [("k", 13)] rfl sc_divided.nd (pid_r1 (by rfl) T.f_range (pab_cons (pb_var 3) pab_nil)) (blkOk_by (own := [("k", 13)]) (N := ["prime", "terms", "divisor", "size", "scale", "left", "quotient", "offset", "coefficient", "low", "high", "digit", "start", "k", "part"]) (sc := defScope (top 13)) (by decide +kernel)) (fun _ _ _ _ _ => (pgd_name 13 sc_divided.nd)) (fun _ _ _ _ _ => ptsD_nil) (fun _ _ _ _ _ => (pd_get2 hu1 (pb_var 5) (pb_var 13) pd_int)))) pad_nil))))))))))))), ?_⟩
  clear hr tk pso hl hu hu1
  obtain ⟨p, f, g, m, rfl, hp, hg0, hgm, hg1, hm, hf, hq⟩ := hF
  have hp0 := isPr_pos hp
  have hfl : (can f).length ≤ 2000001 := by
    have := hf.nt hp0.1
    unfold nt at this
    omega
  have hdl : ((dg g (m + 1)).length : Int) - 1 = m := by simp [dg]
  simp only [tl]
  walk_at "d"
  have gl := cf_lo hp0.1 hg0.ne
  rw [hg0.lo hp0.1] at gl
  have e0 : atI ((dg g (m + 1)).map D.int) 0 = some (.int (cf g 0)) := atI_nat (j := 0) (by simp [dg])
  rw [e0]
  refine ⟨p, cf g 0, rfl, hp, gl.1, gl.2, ?_⟩
  have hinv := invD_mul hp gl.1 gl.2
  show forD _ _ _ _ _ _
  refine forD_pre (can f) (fun pre ρ n' => ∃ x7 x8, n' = n ∧ ρ = [some (.val (.int p)), some (.val (.lst ((can f).map trm))), some (.val (.lst ((dg g (m + 1)).map D.int))), some (.val (.int m)), some (.val (.int (invD p (cf g 0)))), some (.own (.dct (pre.map kvp))), some (.own (.dct [])), x7, x8, none, none, none, none, none, none]) (fun pre t post e ρ n' R hI hR => ?_) (fun ρ n' hI => ?_) ⟨none, none, rfl, ?_⟩
  · obtain ⟨x7, x8, rfl, rfl⟩ := hI
    walk_at "d"
    have hnm : t.1 ∉ pre.map (·.1) := fun z => by
      have nd := can_nodup f
      rw [e, List.map_append, List.nodup_append] at nd
      exact nd.2.2 _ z _ (by rw [List.map_cons]; exact List.mem_cons_self ..) rfl
    have hlen := congrArg List.length e
    rw [List.length_append, List.length_cons] at hlen
    have hfl' := hfl
    rw [putI_new _ hnm]
    exact ⟨by omega, hR _ _ ⟨_, _, rfl, rfl⟩⟩
  · obtain ⟨x7, x8, rfl, rfl⟩ := hI
    walk_at "d"
    refine ⟨by omega, ?_⟩
    rw [← List.map_cons (f := D.int)]
    refine lcD_all D.int D.int _ _ (fun a ha K h => ?_) (by rw [List.length_cons, List.length_map]; omega) ?_
    · walk_at "d"
      exact h
    rw [intsD_map]
    refine ⟨by simp, fun low hlow1 hlow2 => ⟨by omega, ?_⟩⟩
    refine lcD_all D.int D.int _ _ (fun a ha K h => ?_) (by rw [List.length_cons, List.length_map]; omega) ?_
    · walk_at "d"
      exact h
    rw [intsD_map]
    refine ⟨by simp, fun high hhigh1 hhigh2 => ?_⟩
    have keyb : ∀ y ∈ (0 : Int) :: (can f).map (·.1), -1000000 ≤ y ∧ y ≤ 1000000 := fun y hy => by
      rcases List.mem_cons.mp hy with rfl | hy
      · omega
      · obtain ⟨t, ht, rfl⟩ := List.mem_map.mp hy
        exact hf.mem hp0.1 t ht
    have b1 := keyb low hlow1
    have b2 := keyb high hhigh1
    have b3 := hlow2 0 (List.mem_cons_self ..)
    have b4 := hhigh2 0 (List.mem_cons_self ..)
    refine ⟨by omega, by omega, ?_⟩
    have ec : ∀ a : Nat, rngC high (-1) a = ((List.range a).map fun (i : Nat) => high + (i : Int) * (-1)).map D.int := fun a => by rw [rngC_map, List.map_map]; rfl
    have er : ∀ a : Nat, rngD low a = ((List.range a).map fun (i : Nat) => low + (i : Int)).map D.int := fun a => by rw [rngD_map, List.map_map]; rfl
    refine ⟨by rw [er, ec, List.length_map, List.length_map, List.length_map, List.length_map, List.length_range, List.length_range]; omega, ?_⟩
    rw [er, ec, ← List.map_append]
    obtain ⟨ho1, ho2⟩ := offs (low := low) (high := high) (m := m) _ _ rfl rfl b3
    have hxl : (((List.range (0 - low).toNat).map fun (i : Nat) => low + (i : Int)) ++ (List.range (high - ((m : Int) - 1)).toNat).map fun (i : Nat) => high + (i : Int) * (-1)).length ≤ 2000002 := by
      rw [List.length_append, List.length_map, List.length_map, List.length_range, List.length_range]; omega
    generalize (((List.range (0 - low).toNat).map fun (i : Nat) => low + (i : Int)) ++ (List.range (high - ((m : Int) - 1)).toNat).map fun (i : Nat) => high + (i : Int) * (-1)) = xs at ho1 ho2 hxl ⊢
    refine forD_pre xs (fun pre ρ n'' => ∃ L Q y7 y11 y12 y13 y14, n'' = n' ∧ DInv f g m low high pre L Q ∧ ρ = [some (.val (.int p)), some (.val (.lst ((can f).map trm))), some (.val (.lst ((dg g (m + 1)).map D.int))), some (.val (.int m)), some (.val (.int (invD p (cf g 0)))), some (.own (.dct (L.map kvp))), some (.own (.dct (Q.map kvp))), y7, x8, some (.val (.int low)), some (.val (.int high)), y11, y12, y13, y14]) (fun pre o post e ρ n'' R hI hR => ?_) (fun ρ n'' hI => ?_) ⟨can f, [], x7, none, none, none, none, rfl, ?_, rfl⟩
    · obtain ⟨L, Q, y7, y11, y12, y13, y14, rfl, hD, rfl⟩ := hI
      have hom := (ho2 o).mp (by rw [e]; simp)
      have hpre : ∀ x ∈ pre, (o < 0 → x < o) ∧ (0 ≤ o → x < 0 ∨ o < x) := fun x hx => by
        rw [e, List.pairwise_append] at ho1
        exact ho1.2.2 x hx o (List.mem_cons_self ..)
      have hpl : pre.length ≤ 2000002 := by
        have := congrArg List.length e
        rw [List.length_append, List.length_cons] at this
        omega
      have hLl := nodup_len hD.lk.1 hD.lk.2
      rw [List.length_map] at hLl
      have hQl := hD.ql
      walk_at "d"
      obtain ⟨z0, zt, ze, zb, zz⟩ := hD.z
      have uz : ∀ z : LP p, Tab L z → z = z0 := fun z hz => cf_ext fun k => by rw [← hz k, zt k]
      have c0 := cf_range hp0.1 z0 o
      have gz : getI L o = cf z0 o := zt o
      by_cases ho : o < 0
      · simp only [ho, decide_true, if_true]
        refine ⟨.inl (.inl ⟨by omega, by omega⟩), hp0.1, ?_⟩
        have q0 := Int.emod_nonneg (getI L o * invD p (cf g 0)) (show p ≠ 0 by omega)
        have q1 := Int.emod_lt_of_pos (getI L o * invD p (cf g 0)) hp0.1
        by_cases hd : 0 < getI L o * invD p (cf g 0) % p
        · simp only [hd, decide_true, if_true]
          refine ⟨by omega, ?_⟩
          refine div_in hp hg0 hgm ⟨q0, q1⟩ _ _ _ _ _ _ _ _ _ L hD.lk.1 zt _ (by omega) (fun L' y13 y14 hl ht => ?_) _ _
          exact hR _ _ ⟨L', _, _, _, _, _, _, rfl, hD.next hp hg0 hgm hg1 b3 hom hpre (by rw [if_pos ho]) (by rw [if_pos ho]) hd hl (fun z hz => by rw [uz z hz]; exact ht), rfl⟩
        · simp only [hd, decide_false, Bool.false_eq_true, if_false]
          exact hR _ _ ⟨L, _, _, _, _, _, _, rfl, hD.skip hp hg0 (o := o) (by rw [if_pos ho]) hd, rfl⟩
      · simp only [ho, decide_false, Bool.false_eq_true, if_false]
        by_cases hd : 0 < getI L o
        · simp only [hd, decide_true, if_true]
          refine ⟨by omega, ?_⟩
          refine div_in hp hg0 hgm ⟨by omega, by omega⟩ _ _ _ _ _ _ _ _ _ L hD.lk.1 zt _ (by omega) (fun L' y13 y14 hl ht => ?_) _ _
          exact hR _ _ ⟨L', _, _, _, _, _, _, rfl, hD.next hp hg0 hgm hg1 b3 hom hpre (by rw [if_neg ho]) (by rw [if_neg ho]) hd hl (fun z hz => by rw [uz z hz]; exact ht), rfl⟩
        · simp only [hd, decide_false, Bool.false_eq_true, if_false]
          exact hR _ _ ⟨L, _, _, _, _, _, _, rfl, hD.skip hp hg0 (o := o) (by rw [if_neg ho]) hd, rfl⟩
    · obtain ⟨L, Q, y7, y11, y12, y13, y14, rfl, hD, rfl⟩ := hI
      obtain ⟨z0, zt, ze, zb, zz⟩ := hD.z
      walk_at "d"
      refine ⟨by omega, ?_⟩
      rw [rngD_map]
      refine lcD_all _ (fun (i : Nat) => D.int (cf z0 (i : Int))) _ _ (fun i hi K h => ?_) (by rw [List.length_range]; omega) ?_
      · walk_at "d"
        rw [Int.zero_add, zt]
        exact h
      · refine ⟨by decide, ?_⟩
        have e3 : ((List.range (m : Int).toNat).map fun (i : Nat) => D.int (cf z0 (i : Int))) = (dg z0 m).map D.int := by
          unfold dg
          rw [List.map_map, Int.toNat_natCast]
          rfl
        rw [e3]
        refine hq Q z0 hD.qn (by have := hD.ql; omega) ze (fun k hk => ?_) hD.qs
        have hb := zb k hk
        have hk2 : k ∉ xs := fun z => hk (zz k z)
        rw [ho2] at hk2
        omega
    · refine ⟨⟨can_nodup f, fun k hk => ?_⟩, ⟨f, fun k => getI_can hp0.1 f k, ?_, fun k hk => ?_, (fun o ho => nomatch ho)⟩, List.nodup_nil, Nat.le_refl _, (fun t ht => nomatch ht), (fun t ht => nomatch ht)⟩
      · have hm : k ∈ (0 : Int) :: (can f).map (·.1) := List.mem_cons_of_mem _ hk
        have := hlow2 k hm
        have := hhigh2 k hm
        omega
      · rw [← lp_zero]
        grind
      · have cr := cf_range hp0.1 f k
        have hm : k ∈ (0 : Int) :: (can f).map (·.1) := List.mem_cons_of_mem _ (List.mem_map.mpr ⟨(k, cf f k), (can_mem hp0.1 f k _).mpr ⟨rfl, by omega⟩, rfl⟩)
        have := hlow2 k hm
        have := hhigh2 k hm
        omega
  · rw [hdl]
    rfl
end

end My

namespace My
open PySem PySem.Spec L2 DL
theorem sc_Filter_normal : FnScope ["self", "low", "scale", "offset", "digit"] ["self"] (defScope (inClass (top 22) 11)) := ⟨rfl, rfl, rfl, by decide +kernel, rfl, by decide +kernel, by decide +kernel⟩
section
variable {P : Program} {w : World} {K : PySem.W.Frag} {mg : Str → Option Value} {base : Heap}
theorem ok_Filter_normal (T : Top K mg) : Mg P w K mg base "Filter" "normal" 5 1 F_Filter_normal [] := by
  obtain ⟨fd, FD⟩ := T.d_Filter_normal
  refine ⟨T.cl_Filter, _, fd, ["self"], [], [], ?_, T.m_Filter_normal, FD.bindsN (fun _ _ _ _ _ _ us hl => match us, hl with | [_], _ => rfl), .nil, fun _ => .nil⟩
  refine ok_def FD sc_Filter_normal rfl ?_
  rintro X E W ds n q xx ⟨cdv, A, outer, s, H, rfl⟩ hr tk pso hl hF
  have hu := hr.units
  have hu1 := hu_of hr
  refine ⟨_, (pss_consD (ps_ifD (ptd_not (pt_truD (PD.pb (pd_fld ["Filter"] T.fld_Filter_kept (pb_var 0))))) (pss_oneD (ps_retD (pd_var 0))) pss_nilD)
      (pss_consD (ps_par2T 1 2 rfl sc_Filter_normal.nd (PD.sl (pd_ix (PD.pb (pd_ix (PD.pb (pd_fld ["Filter"] T.fld_Filter_kept (pb_var 0))) (PD.pb pd_int))) (PD.pb pd_int))) (PD.sl (pd_call (ok_inverse T) (hr.mono (by decide)) tk (by rfl) (pad_cons (pd_fld ["Filter"] T.fld_Filter_prime (pb_var 0)) (pad_cons (pd_ix (PD.pb (pd_ix (PD.pb (pd_fld ["Filter"] T.fld_Filter_kept (pb_var 0))) (PD.pb (pd_neg (PD.pb pd_int))))) (PD.pb pd_int)) pad_nil)))))
      (pss_oneD (ps_retD (pd_make (ok_Filter___init__ T) (hr.mono (by decide)) tk (by rfl) (pad_cons (pd_fld ["Filter"] T.fld_Filter_prime (pb_var 0)) (pad_cons (PF.pd (pf_lc [("offset", 3), ("digit", 4)] rfl sc_Filter_normal.nd (pid_seq (pd_fld ["Filter"] T.fld_Filter_kept (pb_var 0))) (blkOk_by (own := [("offset", 3), ("digit", 4)]) (N := ["self", "low", "scale", "offset", "digit"]) (sc := defScope (inClass (top 22) 11)) (by decide +kernel)) (fun _ _ _ _ _ => (pgd_tup (m := 2) rfl (pgsd_cons (pgd_name 3 sc_Filter_normal.nd) (pgsd_cons (pgd_name 4 sc_Filter_normal.nd) pgsd_nil)))) (fun _ _ _ _ _ => ptsD_nil) (fun _ _ _ _ _ => (pd_tup (pad_cons (pd_sub (pb_var 3) (pb_var 1)) (pad_cons (pd_mul (pb_var 2) (pb_var 4)) pad_nil)))))) pad_nil))))))), ?_⟩
  clear hr tk pso hl hu hu1
  obtain ⟨p, x, rfl, hp, hl2, hq⟩ := hF
  have hp0 := isPr_pos hp
  unfold nt at hl2
  simp only [fo]
  walk_at "d"
  by_cases hx : x = 0
  · subst hx
    rw [can_zero hp0.1]
    rw [nrm_zero] at hq
    simp only [fo, can_zero hp0.1] at hq
    exact hq
  · cases ea : (can x).head? with
    | none => exact absurd ((can_nil hp0.1).mp (List.head?_eq_none_iff.mp ea)) hx
    | some a =>
      cases eb : (can x).getLast? with
      | none => exact absurd ((can_nil hp0.1).mp (List.getLast?_eq_none_iff.mp eb)) hx
      | some b =>
        have e2 : ((can x).map trm).getLast? = some (trm b) := by rw [List.getLast?_map, eb]; rfl
        have e3 : ((can x).map trm).isEmpty = false := by
          cases h : can x with
          | nil => exact absurd ((can_nil hp0.1).mp h) hx
          | cons _ _ => rfl
        have e1 : atI ((can x).map trm) 0 = some (trm a) := by
          cases h : can x with
          | nil => rw [h] at ea; cases ea
          | cons c l => rw [h] at ea; cases ea; exact at0 _ _
        rw [atLast e2, e3, e1]
        have la : lo x = a.1 := by unfold lo; rw [ea]; rfl
        have hb : hi x = b.1 := by unfold hi; rw [eb]; rfl
        have cb : cf x (hi x) = b.2 := by rw [hb]; exact (hi_of hp0.1 eb).2
        have hb2 := cf_hi hp0.1 hx
        rw [cb] at hb2
        walk_at "d"
        refine ⟨p, b.2, rfl, hp, hb2.1, hb2.2, ?_⟩
        have hinv := invD_mul hp hb2.1 hb2.2
        refine lcD_all trm (fun t => trm (t.1 - a.1, invD p b.2 * t.2)) (can x) _ (fun t ht K h => ?_) (by omega) ?_
        · walk_at "d"
          exact ⟨.inl (.inl ⟨by omega, by omega⟩), by decide, h⟩
        · rw [mapTrm (fun t => (t.1 - a.1, invD p b.2 * t.2))]
          refine ⟨p, _, _, rfl, rfl, hp, by rw [List.length_map]; omega, ?_⟩
          rw [can_of hp0.1 (lp_scale hp0.1 a.1 (invD p b.2) x)]
          unfold nrm at hq
          rw [la, cb] at hq
          exact hq
end

end My

namespace My
open PySem PySem.Spec L2 DL
theorem sc_Filter_span : FnScope ["self"] ["self"] (defScope (inClass (top 22) 10)) := ⟨rfl, rfl, rfl, by decide +kernel, rfl, by decide +kernel, by decide +kernel⟩
section
variable {P : Program} {w : World} {K : PySem.W.Frag} {mg : Str → Option Value} {base : Heap}
theorem ok_Filter_span (T : Top K mg) : Mg P w K mg base "Filter" "span" 1 1 F_Filter_span [] := by
  obtain ⟨fd, FD⟩ := T.d_Filter_span
  refine ⟨T.cl_Filter, _, fd, ["self"], [], [], ?_, T.m_Filter_span, FD.bindsN (fun _ _ _ _ _ _ us hl => match us, hl with | [_], _ => rfl), .nil, fun _ => .nil⟩
  refine ok_def FD sc_Filter_span rfl ?_
  rintro X E W ds n q xx ⟨cdv, A, outer, s, H, rfl⟩ hr tk pso hl hF
  have hu := hr.units
  have hu1 := hu_of hr
  refine ⟨_, (pss_oneD (ps_retD (pd_if (pt_truD (PD.pb (pd_fld ["Filter"] T.fld_Filter_kept (pb_var 0)))) (pd_sub (PD.pb (pd_ix (PD.pb (pd_ix (PD.pb (pd_fld ["Filter"] T.fld_Filter_kept (pb_var 0))) (PD.pb (pd_neg (PD.pb pd_int))))) (PD.pb pd_int))) (PD.pb (pd_ix (PD.pb (pd_ix (PD.pb (pd_fld ["Filter"] T.fld_Filter_kept (pb_var 0))) (PD.pb pd_int))) (PD.pb pd_int)))) pd_non))), ?_⟩
  clear hr tk pso hl hu hu1
  obtain ⟨p, ts, rfl, hq⟩ := hF
  walk_at "d"
  cases e : ts.getLast? with
  | none =>
    obtain rfl := List.getLast?_eq_none_iff.mp e
    exact hq
  | some t =>
    rw [e] at hq
    have e2 : (ts.map trm).getLast? = some (trm t) := by rw [List.getLast?_map, e]; rfl
    have e3 : (ts.map trm).isEmpty = false := by cases ts with | nil => cases e | cons _ _ => rfl
    rw [atLast e2, e3]
    cases ts with
    | nil => cases e
    | cons a ts =>
      rw [List.map_cons, at0]
      exact hq
end

end My

namespace My
open PySem PySem.Spec L2 DL
theorem sc_divisor_of : FnScope ["f", "g", "k"] ["f"] (defScope (top 21)) := ⟨rfl, rfl, rfl, by decide +kernel, rfl, by decide +kernel, by decide +kernel⟩
section
variable {P : Program} {w : World} {K : PySem.W.Frag} {mg : Str → Option Value} {base : Heap}
theorem ok_divisor_of (T : Top K mg) : Sg P w K mg base "divisor_of" 6 1 F_divisor_of [] := by
  obtain ⟨fd, FD⟩ := T.d_divisor_of
  refine ⟨_, fd, ["f"], [], [], ?_, T.g_divisor_of, FD.kp, FD.bindsN (fun _ _ _ _ _ _ us hl => match us, hl with | [_], _ => rfl), .nil, fun _ => .nil⟩
  refine ok_def FD sc_divisor_of rfl ?_
  rintro X E W ds n q xx ⟨cdv, A, outer, s, H, rfl⟩ hr tk pso hl hF
  have hu := hr.units
  have hu1 := hu_of hr
  refine ⟨_, (pss_consD (ps_setD 1 (pd_meth0 (ok_Filter_normal T) (hr.mono (by decide)) tk (pd_var 0)) sc_divisor_of.nd)
      (pss_oneD (ps_retD (PF.pd (pf_lc [("k", 2)] rfl sc_divisor_of.nd (pid_r1 (by rfl) T.f_range (pab_cons (PD.pb (pd_add (PD.pb (pd_meth0 (ok_Filter_span T) (hr.mono (by decide)) tk (pd_var 1))) (PD.pb pd_int))) pab_nil)) (blkOk_by (own := [("k", 2)]) (N := ["f", "g", "k"]) (sc := defScope (top 21)) (by decide +kernel)) (fun _ _ _ _ _ => (pgd_name 2 sc_divisor_of.nd)) (fun _ _ _ _ _ => ptsD_nil) (fun _ _ _ _ _ => (pd_getO T.get_Filter (ok_Filter___getitem__ T) (hr.mono (by decide)) DL.takes0 (pd_var 1) (pd_var 2)))))))), ?_⟩
  clear hr tk pso hl hu hu1
  obtain ⟨p, x, rfl, hp, hx, hl2, hs, hq⟩ := hF
  have hp0 := isPr_pos hp
  simp only [fo]
  walk_at "d"
  refine ⟨rfl, p, x, rfl, hp, hl2, ?_⟩
  obtain ⟨n1, n2, n3⟩ := nrm_hl hp hx
  have s0 := sp_nonneg hp0.1 hx
  have hnx := nrm_ne hp hx
  simp only [fo]
  walk_at "d"
  refine ⟨rfl, p, can (nrm x), rfl, ?_⟩
  have e : ((can (nrm x)).getLast?.bind fun b => (can (nrm x)).head?.map fun a => b.1 - a.1) = some (sp x) := by
    cases ea : (can (nrm x)).head? with
    | none => exact absurd ((can_nil hp0.1).mp (List.head?_eq_none_iff.mp ea)) hnx
    | some a =>
      cases eb : (can (nrm x)).getLast? with
      | none => exact absurd ((can_nil hp0.1).mp (List.getLast?_eq_none_iff.mp eb)) hnx
      | some b =>
        have h1 := (lo_of hp0.1 ea).1.uniq n1
        have h2 := (hi_of hp0.1 eb).1.uniq n2
        show some (b.1 - a.1) = _
        rw [h1, h2]
        simp
  rw [e]
  simp only [oi]
  refine ⟨by omega, ?_⟩
  rw [rngD_map]
  refine lcD_all _ (fun (i : Nat) => D.int (cf (nrm x) (i : Int))) _ _ (fun i hi K h => ?_) (by rw [List.length_range]; omega) ?_
  · walk_at "d"
    refine ⟨⟨_, rfl⟩, p, can (nrm x), (i : Int), by rw [Int.zero_add]; rfl, ?_⟩
    rw [getI_can hp0.1]
    exact h
  · have e2 : (sp x + 1).toNat = (sp x).toNat + 1 := by omega
    rw [e2]
    have e3 : ((List.range ((sp x).toNat + 1)).map fun (i : Nat) => D.int (cf (nrm x) (i : Int))) = (dg (nrm x) ((sp x).toNat + 1)).map D.int := by
      unfold dg
      rw [List.map_map]
      rfl
    rw [e3]
    exact hq
end

end My

namespace My
open PySem PySem.Spec L2 DL
theorem sc_Filter___floordiv__ : FnScope ["self", "other", "quotient", "low", "scale", "offset", "digit"] ["self", "other"] (defScope (inClass (top 22) 19)) := ⟨rfl, rfl, rfl, by decide +kernel, rfl, by decide +kernel, by decide +kernel⟩
section
variable {P : Program} {w : World} {K : PySem.W.Frag} {mg : Str → Option Value} {base : Heap}
theorem ok_Filter___floordiv__ (T : Top K mg) : Mg P w K mg base "Filter" "__floordiv__" 7 2 F_Filter___floordiv__ [] := by
  obtain ⟨fd, FD⟩ := T.d_Filter___floordiv__
  refine ⟨T.cl_Filter, _, fd, ["self", "other"], [], [], ?_, T.m_Filter___floordiv__, FD.bindsN (fun _ _ _ _ _ _ us hl => match us, hl with | [_, _], _ => rfl), .nil, fun _ => .nil⟩
  refine ok_def FD sc_Filter___floordiv__ rfl ?_
  rintro X E W ds n q xx ⟨cdv, A, outer, s, H, rfl⟩ hr tk pso hl hF
  have hu := hr.units
  have hu1 := hu_of hr
  refine ⟨_, (pss_consD (ps_ifD (ptd_not (pt_valD (PD.pb (pd_isiO T.tyf (T.ko_Filter) (by rfl) T.f_isinstance (by rfl) T.g_Filter (pb_var 1))))) (pss_oneD (ps_retD pd_never)) pss_nilD)
      (pss_consD (ps_ifD (ptd_not (pt_truO (ok_Filter___bool__ T) (hr.mono (by decide)) tk (pd_var 1))) (pss_oneD (ps_raise0 (xg_ZeroFilter T) (hr.mono (by decide)) rfl tk (by rfl))) pss_nilD)
      (pss_consD (ps_exprD (PD.pb (pd_call (ok_check_primes T) (hr.mono (by decide)) tk (by rfl) (pad_cons (pd_var 0) (pad_cons (pd_var 1) pad_nil)))))
      (pss_consD (ps_setD 2 (pd_ix (PD.pb (pd_call (ok_divided T) (hr.mono (by decide)) tk (by rfl) (pad_cons (pd_fld ["Filter"] T.fld_Filter_prime (pb_var 0)) (pad_cons (pd_fld ["Filter"] T.fld_Filter_kept (pb_var 0)) (pad_cons (pd_call (ok_divisor_of T) (hr.mono (by decide)) tk (by rfl) (pad_cons (pd_var 1) pad_nil)) pad_nil))))) (PD.pb pd_int)) sc_Filter___floordiv__.nd)
      (pss_consD (ps_par2T 3 4 rfl sc_Filter___floordiv__.nd (PD.sl (pd_meth0 (ok_Filter_low T) (hr.mono (by decide)) tk (pd_var 1))) (PD.sl (pd_call (ok_inverse T) (hr.mono (by decide)) tk (by rfl) (pad_cons (pd_fld ["Filter"] T.fld_Filter_prime (pb_var 0)) (pad_cons (pd_getO T.get_Filter (ok_Filter___getitem__ T) (hr.mono (by decide)) tk (pd_var 1) (pd_meth0 (ok_Filter_high T) (hr.mono (by decide)) tk (pd_var 1))) pad_nil)))))
      (pss_oneD (ps_retD (pd_make (ok_Filter___init__ T) (hr.mono (by decide)) tk (by rfl) (pad_cons (pd_fld ["Filter"] T.fld_Filter_prime (pb_var 0)) (pad_cons (PF.pd (pf_lc [("offset", 5), ("digit", 6)] rfl sc_Filter___floordiv__.nd (pid_items (pd_var 2)) (blkOk_by (own := [("offset", 5), ("digit", 6)]) (N := ["self", "other", "quotient", "low", "scale", "offset", "digit"]) (sc := defScope (inClass (top 22) 19)) (by decide +kernel)) (fun _ _ _ _ _ => (pgd_tup (m := 2) rfl (pgsd_cons (pgd_name 5 sc_Filter___floordiv__.nd) (pgsd_cons (pgd_name 6 sc_Filter___floordiv__.nd) pgsd_nil)))) (fun _ _ _ _ _ => ptsD_nil) (fun _ _ _ _ _ => (pd_tup (pad_cons (pd_sub (pb_var 5) (pb_var 3)) (pad_cons (pd_mul (pb_var 4) (pb_var 6)) pad_nil)))))) pad_nil)))))))))), ?_⟩
  clear hr tk pso hl hu hu1
  rcases hF with hF | ⟨p, p', f, rfl, hp', hq⟩ | ⟨p, p', f, g, rfl, hp', hg, hne, hq⟩
  rotate_left
  · walk_at "d"
    refine ⟨⟨_, rfl⟩, p', can (0 : LP p'), rfl, ?_⟩
    rw [isE0 hp']
    walk_at "d"
    exact hq
  · walk_at "d"
    refine ⟨⟨_, rfl⟩, p', can g, rfl, ?_⟩
    rw [isE hp' hg]
    walk_at "d"
    exact ⟨rfl, rfl, p, rfl, .inr ⟨p', hne, rfl, hq⟩⟩
  obtain ⟨p, f, g, rfl, hp, hg, hs, hgl, hf, hq⟩ := hF
  have hp0 := isPr_pos hp
  have s0 := sp_nonneg hp0.1 hg
  obtain ⟨n1, n2, n3⟩ := nrm_hl hp hg
  have em : ((sp g).toNat : Int) = sp g := by omega
  have hc := cf_hi hp0.1 hg
  walk_at "d"
  refine ⟨⟨_, rfl⟩, p, can g, rfl, ?_⟩
  rw [isE hp0.1 hg]
  walk_at "d"
  refine ⟨rfl, rfl, p, rfl, .inl ⟨rfl, p, g, rfl, hp, hg, hgl, by omega, ?_⟩⟩
  refine ⟨p, f, nrm g, (sp g).toNat, rfl, hp, n1, by rw [em]; exact n2, by rw [em]; exact n3, by omega, hf, fun Q r nd ql e b qs => ?_⟩
  walk_at "d"
  refine ⟨rfl, p, can g, rfl, ?_⟩
  rw [hd_lo hp0.1 hg]
  simp only [oi]
  refine ⟨rfl, p, can g, rfl, ?_⟩
  rw [gl_hi hp0.1 hg]
  simp only [oi]
  refine ⟨⟨_, rfl⟩, p, can g, hi g, rfl, ?_⟩
  rw [getI_can hp0.1]
  refine ⟨p, _, rfl, hp, hc.1, hc.2, ?_⟩
  have hinv := invD_mul hp hc.1 hc.2
  have e4 : ((Q.map kvp).map fun kv => D.tup [keyOf kv.fst, kv.snd]) = Q.map trm := by
    rw [List.map_map]; rfl
  rw [e4]
  refine lcD_all trm (fun t => trm (t.1 - lo g, invD p (cf g (hi g)) * t.2)) Q _ (fun t ht K h => ?_) (by omega) ?_
  · walk_at "d"
    exact ⟨.inl (.inl ⟨by omega, by omega⟩), by decide, h⟩
  · rw [mapTrm (fun t => (t.1 - lo g, invD p (cf g (hi g)) * t.2))]
    refine ⟨p, _, _, rfl, rfl, hp, by rw [List.length_map]; omega, ?_⟩
    rw [can_of hp0.1 (lp_scaleT (lo g) (invD p (cf g (hi g))) Q)]
    refine hq _ ⟨r, ?_, ?_⟩
    · rw [e]
      unfold nrm
      grind
    · rw [← em]; exact b
end

end My

namespace My
open PySem PySem.Spec L2 DL
theorem sc_product_rest : FnScope ["prime", "divisor", "one", "other", "size", "sums", "k", "digit", "j", "part", "at"] ["prime", "divisor", "one", "other"] (defScope (top 14)) := ⟨rfl, rfl, rfl, by decide +kernel, rfl, by decide +kernel, by decide +kernel⟩
section
variable {P : Program} {w : World} {K : PySem.W.Frag} {mg : Str → Option Value} {base : Heap}
theorem prod_in {E : DEnds} {p : Int} (hp : isPr p = true) {a b : LP p} {m i : Nat} (hi : i < m) (hm : m ≤ 1000000) (a1 a2 a4 a10 : Option Sl) (L : Tm) (hnd : (L.map (·.1)).Nodup) (hlen : L.length ≤ 2000000) (n : Nat)
    (k : ∀ L' y8 y9, (L'.map (·.1)).Nodup → (∀ x, x ∈ L'.map (·.1) ↔ x ∈ L.map (·.1) ∨ ((i : Int) ≤ x ∧ x < i + m)) → (∀ x, getI L' x = getI L x + (if (i : Int) ≤ x ∧ x < i + m then cf a i * cf b (x - i) else 0)) → E.nx [some (.val (.int p)), a1, a2, some (.val (.lst ((dg b m).map D.int))), a4, some (.own (.dct (L'.map kvp))), some (.val (.int i)), some (.val (.int (cf a i))), y8, y9, a10] n) (y8 y9 : Option Sl) :
    forD (gTn 2 (gsC (gN 8) (gsC (gN 9) gs0))) (dPut 5 (dOp fAdd (bVar 6) (bVar 8)) (dOp fAdd (dGet2 (bVar 5) (dOp fAdd (bVar 6) (bVar 8)) (dC (D.int 0))) (dOp fMul (bVar 7) (bVar 9)))) (enumD ((dg b m).map D.int)) E
      [some (.val (.int p)), a1, a2, some (.val (.lst ((dg b m).map D.int))), a4, some (.own (.dct (L.map kvp))), some (.val (.int i)), some (.val (.int (cf a i))), y8, y9, a10] n := by
  have hp0 := isPr_pos hp
  have ca := cf_range hp0.1 a (i : Int)
  rw [enum_dg]
  refine forD_pre (List.range m) (fun pre ρ n' => ∃ L' y8 y9, n' = n ∧ (L'.length ≤ L.length + pre.length ∧ (L'.map (·.1)).Nodup ∧ (∀ x, x ∈ L'.map (·.1) ↔ x ∈ L.map (·.1) ∨ ((i : Int) ≤ x ∧ x < i + pre.length))) ∧ (∀ x, getI L' x = getI L x + (if (i : Int) ≤ x ∧ x < i + (pre.length : Int) then cf a i * cf b (x - i) else 0)) ∧ ρ = [some (.val (.int p)), a1, a2, some (.val (.lst ((dg b m).map D.int))), a4, some (.own (.dct (L'.map kvp))), some (.val (.int i)), some (.val (.int (cf a i))), y8, y9, a10]) (fun pre j post e ρ n' R hI hR => ?_) (fun ρ n' hI => ?_) ⟨L, y8, y9, rfl, ⟨by simp, hnd, fun x => ?_⟩, fun x => ?_, rfl⟩
  · obtain ⟨L', y8, y9, rfl, ⟨hl, hn, hk⟩, hg, rfl⟩ := hI
    obtain ⟨rfl, hj⟩ := range_split e
    walk_at "d"
    refine ⟨.inl (.inl ⟨by omega, by omega⟩), by omega, hR _ _ ⟨_, _, _, rfl, ⟨?_, putI_nodup hn _ _, fun x => ?_⟩, fun x => ?_, rfl⟩⟩
    · have := putI_length L' ((i : Int) + (pre.length : Int)) (getI L' ((i : Int) + (pre.length : Int)) + cf a i * cf b (pre.length : Int))
      rw [List.length_append, List.length_singleton]
      omega
    · rw [putI_mem, hk, List.length_append, List.length_singleton, or_assoc]
      refine or_congr Iff.rfl ?_
      push_cast
      omega
    · rw [getI_put, List.length_append, List.length_singleton]
      by_cases hx : x = (i : Int) + (pre.length : Int)
      · rw [if_pos hx, hg, if_neg (by omega), if_pos (by constructor; omega; push_cast; omega), hx, Int.add_zero, show (i : Int) + (pre.length : Int) - i = (pre.length : Int) by omega]
      · rw [if_neg hx, hg]
        congr 1
        by_cases h : (i : Int) ≤ x ∧ x < i + (pre.length : Int)
        · rw [if_pos h, if_pos (by constructor; omega; push_cast; omega)]
        · rw [if_neg h, if_neg (by push_cast; omega)]
  · obtain ⟨L', y8, y9, rfl, ⟨hl, hn, hk⟩, hg, rfl⟩ := hI
    rw [List.length_range] at hk hg
    exact k L' y8 y9 hn hk hg
  · simp only [List.length_nil]
    constructor
    · exact .inl
    · rintro (h | h)
      · exact h
      · omega
  · rw [if_neg (by simp only [List.length_nil]; omega), Int.add_zero]
theorem prod_back {E : DEnds} {p : Int} (hp : isPr p = true) {g : LP p} {m : Nat} {at_ digit : Int} (hd : 0 ≤ digit ∧ digit < p) (hm : m ≤ 1000000) (ha : (m : Int) ≤ at_ ∧ at_ ≤ 2 * m - 2) (a2 a3 a8 a9 : Option Sl) (L : Tm) (hnd : (L.map (·.1)).Nodup) (hlen : L.length ≤ 2000000) (hky : ∀ x, x ∈ L.map (·.1) ↔ 0 ≤ x ∧ x < 2 * (m : Int) - 1) (n : Nat)
    (k : ∀ L' y6, (L'.map (·.1)).Nodup → (∀ x, x ∈ L'.map (·.1) ↔ 0 ≤ x ∧ x < 2 * (m : Int) - 1) → (∀ x, getI L' x = getI L x - (if at_ - m ≤ x ∧ x < at_ then digit * cf g (x - (at_ - m)) else 0)) → E.nx [some (.val (.int p)), some (.val (.lst ((dg g (m + 1)).map D.int))), a2, a3, some (.val (.int m)), some (.own (.dct (L'.map kvp))), y6, some (.val (.int digit)), a8, a9, some (.val (.int at_))] n) (y6 : Option Sl) :
    forD (gN 6) (dPut 5 (dOp fAdd (dOp fSub (bVar 10) (bVar 4)) (bVar 6)) (dOp fSub (dOp fDg (bVar 5) (dOp fAdd (dOp fSub (bVar 10) (bVar 4)) (bVar 6))) (dOp fMul (bVar 7) (dOp fIx (bVar 1) (bVar 6))))) (rngD 0 m) E
      [some (.val (.int p)), some (.val (.lst ((dg g (m + 1)).map D.int))), a2, a3, some (.val (.int m)), some (.own (.dct (L.map kvp))), y6, some (.val (.int digit)), a8, a9, some (.val (.int at_))] n := by
  have hp0 := isPr_pos hp
  rw [rngD_map]
  refine forD_pre (List.range m) (fun pre ρ n' => ∃ L' y6, n' = n ∧ (L'.length = L.length ∧ (L'.map (·.1)).Nodup ∧ (∀ x, x ∈ L'.map (·.1) ↔ 0 ≤ x ∧ x < 2 * (m : Int) - 1)) ∧ (∀ x, getI L' x = getI L x - (if at_ - m ≤ x ∧ x < at_ - m + (pre.length : Int) then digit * cf g (x - (at_ - m)) else 0)) ∧ ρ = [some (.val (.int p)), some (.val (.lst ((dg g (m + 1)).map D.int))), a2, a3, some (.val (.int m)), some (.own (.dct (L'.map kvp))), y6, some (.val (.int digit)), a8, a9, some (.val (.int at_))]) (fun pre j post e ρ n' R hI hR => ?_) (fun ρ n' hI => ?_) ⟨L, y6, rfl, ⟨rfl, hnd, hky⟩, fun x => ?_, rfl⟩
  · obtain ⟨L', y6, rfl, ⟨hl, hn, hk⟩, hg, rfl⟩ := hI
    obtain ⟨rfl, hj⟩ := range_split e
    walk_at "d"
    rw [Int.zero_add, dg_at g (show pre.length < m + 1 by omega)]
    have hmem : at_ - (m : Int) + (pre.length : Int) ∈ L'.map (·.1) := (hk _).mpr (by omega)
    rw [get_kvp' hmem]
    walk_at "d"
    have hlk : (putI L' (at_ - (m : Int) + (pre.length : Int)) (getI L' (at_ - (m : Int) + (pre.length : Int)) - digit * cf g (pre.length : Int))).length = L'.length := by
      have := congrArg List.length (putI_keys L' (at_ - (m : Int) + (pre.length : Int)) (getI L' (at_ - (m : Int) + (pre.length : Int)) - digit * cf g (pre.length : Int)))
      rw [if_pos hmem] at this
      simpa using this
    refine ⟨.inl (.inl ⟨by omega, by omega⟩), by omega, hR _ _ ⟨_, _, rfl, ⟨by rw [hlk, hl], putI_nodup hn _ _, fun x => ?_⟩, fun x => ?_, rfl⟩⟩
    · rw [putI_mem, hk]
      constructor
      · rintro (h | h)
        · exact h
        · rw [h]; omega
      · exact .inl
    · rw [getI_put, List.length_append, List.length_singleton]
      by_cases hx : x = at_ - (m : Int) + (pre.length : Int)
      · rw [if_pos hx, hg, if_neg (by omega), if_pos (by constructor; omega; push_cast; omega), hx, Int.sub_zero, show at_ - (m : Int) + (pre.length : Int) - (at_ - m) = (pre.length : Int) by omega]
      · rw [if_neg hx, hg]
        congr 1
        by_cases h : at_ - m ≤ x ∧ x < at_ - m + (pre.length : Int)
        · rw [if_pos h, if_pos (by constructor; omega; push_cast; omega)]
        · rw [if_neg h, if_neg (by push_cast; omega)]
  · obtain ⟨L', y6, rfl, ⟨hl, hn, hk⟩, hg, rfl⟩ := hI
    rw [List.length_range] at hg
    refine k L' y6 hn hk fun x => ?_
    rw [hg]
    congr 1
    by_cases h : at_ - m ≤ x ∧ x < at_
    · rw [if_pos h, if_pos (by omega)]
    · rw [if_neg h, if_neg (by omega)]
  · rw [if_neg (by simp only [List.length_nil]; omega), Int.sub_zero]
theorem ok_product_rest (T : Top K mg) : Sg P w K mg base "product_rest" 1 4 F_product_rest [] := by
  obtain ⟨fd, FD⟩ := T.d_product_rest
  refine ⟨_, fd, ["prime", "divisor", "one", "other"], [], [], ?_, T.g_product_rest, FD.kp, FD.bindsN (fun _ _ _ _ _ _ us hl => match us, hl with | [_, _, _, _], _ => rfl), .nil, fun _ => .nil⟩
  refine ok_def FD sc_product_rest rfl ?_
  rintro X E W ds n q xx ⟨cdv, A, outer, s, H, rfl⟩ hr tk pso hl hF
  have hu := hr.units
  have hu1 := hu_of hr
  refine ⟨_, (pss_consD (ps_setD 4 (pd_sub (PD.pb (pd_callB call_lenD2 dcall_len (by rfl) T.f_len (by decide +kernel) (pab_cons (pb_var 1) pab_nil))) (PD.pb pd_int)) sc_product_rest.nd)
      (pss_consD (ps_ownD 5 pf_dct0 sc_product_rest.nd)
      (pss_consD (ps_forD pso rfl (pid_enumK (by rfl) T.f_enumerate (pad_cons (pd_var 2) pad_nil)) (pgd_tup (m := 2) rfl (pgsd_cons (pgd_name 6 sc_product_rest.nd) (pgsd_cons (pgd_name 7 sc_product_rest.nd) pgsd_nil))) (pss_oneD (ps_forD pso rfl (pid_enumK (by rfl) T.f_enumerate (pad_cons (pd_var 3) pad_nil)) (pgd_tup (m := 2) rfl (pgsd_cons (pgd_name 8 sc_product_rest.nd) (pgsd_cons (pgd_name 9 sc_product_rest.nd) pgsd_nil))) (pss_oneD (ps_putD 5 hu1 (PD.pb (pd_add (pb_var 6) (pb_var 8))) (pd_add (PD.pb (pd_get2 hu1 (pb_var 5) (PD.pb (pd_add (pb_var 6) (pb_var 8))) pd_int)) (PD.pb (pd_mul (pb_var 7) (pb_var 9)))))))))
      (pss_consD (ps_forD pso rfl (pid_r3 (by rfl) T.f_range (pab_cons (PD.pb (pd_sub (PD.pb (pd_mul (PD.pb pd_int) (pb_var 4))) (PD.pb pd_int))) (pab_cons (PD.pb (pd_sub (pb_var 4) (PD.pb pd_int))) (pab_cons (PD.pb (pd_neg (PD.pb pd_int))) pab_nil)))) (pgd_name 10 sc_product_rest.nd) (pss_consD (ps_setD 7 (pd_mod (PD.pb (pd_dg hu1 (pb_var 5) (pb_var 10))) (pb_var 0)) sc_product_rest.nd)
      (pss_oneD (ps_forD pso rfl (pid_r1 (by rfl) T.f_range (pab_cons (pb_var 4) pab_nil)) (pgd_name 6 sc_product_rest.nd) (pss_oneD (ps_putD 5 hu1 (PD.pb (pd_add (PD.pb (pd_sub (pb_var 10) (pb_var 4))) (pb_var 6))) (pd_sub (PD.pb (pd_dg hu1 (pb_var 5) (PD.pb (pd_add (PD.pb (pd_sub (pb_var 10) (pb_var 4))) (pb_var 6))))) (PD.pb (pd_mul (pb_var 7) (PD.pb (pd_ix (pb_var 1) (pb_var 6))))))))))))
      (pss_oneD (ps_retD (PF.pd (pf_lc [("k", 6)] rfl sc_product_rest.nd (pid_r1 (by rfl) T.f_range (pab_cons (pb_var 4) pab_nil)) (blkOk_by (own := [("k", 6)]) (N := ["prime", "divisor", "one", "other", "size", "sums", "k", "digit", "j", "part", "at"]) (sc := defScope (top 14)) (by decide +kernel)) (fun _ _ _ _ _ => (pgd_name 6 sc_product_rest.nd)) (fun _ _ _ _ _ => ptsD_nil) (fun _ _ _ _ _ => (pd_mod (PD.pb (pd_dg hu1 (pb_var 5) (pb_var 6))) (pb_var 0))))))))))), ?_⟩
  clear hr tk pso hl hu hu1
  obtain ⟨p, g, a, b, m, rfl, hp, ⟨hg0, hgm, hg1⟩, hm0, hm, ba, bb, hq⟩ := hF
  have hp0 := isPr_pos hp
  have gb : Bd g 0 m := .of_hl hgm hg0
  walk_at "d"
  have hdl : ((dg g (m + 1)).length : Int) - 1 = m := by simp [dg]
  rw [hdl, enum_dg]
  refine forD_pre (List.range m) (fun pre ρ n' => ∃ L y6 y7 y8 y9, n' = n ∧ ((L.map (·.1)).Nodup ∧ (∀ x, x ∈ L.map (·.1) ↔ 0 < pre.length ∧ 0 ≤ x ∧ x < (pre.length : Int) + m - 1)) ∧ (∀ x, getI L x % p = cf (trc a pre.length * b) x) ∧ ρ = [some (.val (.int p)), some (.val (.lst ((dg g (m + 1)).map D.int))), some (.val (.lst ((dg a m).map D.int))), some (.val (.lst ((dg b m).map D.int))), some (.val (.int m)), some (.own (.dct (L.map kvp))), y6, y7, y8, y9, none]) (fun pre i post e ρ n' R hI hR => ?_) (fun ρ n' hI => ?_) ⟨[], none, none, none, none, rfl, ⟨List.nodup_nil, fun x => ?_⟩, fun x => ?_, rfl⟩
  · obtain ⟨L, y6, y7, y8, y9, rfl, ⟨hn, hk⟩, hg, rfl⟩ := hI
    obtain ⟨rfl, hi⟩ := range_split e
    walk_at "d"
    have hlen := nodup_len hn (fun k hk' => by have := (hk k).mp hk'; exact ⟨this.2.1, by have := this.2.2; exact (show k ≤ 2 * (m : Int) - 2 by omega)⟩)
    rw [List.length_map] at hlen
    refine prod_in (a := a) hp hi hm _ _ _ _ L hn (by omega) _ (fun L' y8 y9 hn' hk' hg' => ?_) _ _
    refine hR _ _ ⟨L', _, _, _, _, rfl, ⟨hn', fun x => ?_⟩, fun x => ?_, rfl⟩
    · rw [hk', hk, List.length_append, List.length_singleton]
      push_cast
      omega
    · rw [hg', List.length_append, List.length_singleton, trc_succ, show (trc a pre.length + mono p (pre.length : Int) (cf a (pre.length : Int))) * b = trc a pre.length * b + mono p (pre.length : Int) (cf a (pre.length : Int)) * b by grind, cf_add, cf_mono_mul]
      by_cases h : (pre.length : Int) ≤ x ∧ x < pre.length + m
      · rw [if_pos h]
        exact emod_add_congr (by rw [hg, cf_mod])
      · rw [if_neg h, Int.add_zero, hg]
        have : cf b (x - pre.length) = 0 := by
          by_cases z : cf b (x - pre.length) = 0
          · exact z
          · have := bb _ z; omega
        rw [this]
        simp [cf_mod]
  · obtain ⟨L, y6, y7, y8, y9, rfl, ⟨hn, hk⟩, hg, rfl⟩ := hI
    rw [List.length_range] at hk hg
    rw [trc_all ba] at hg
    walk_at "d"
    refine ⟨.inl (.inl ⟨by omega, by omega⟩), ?_⟩
    refine ⟨by omega, ?_⟩
    rw [rngC_map]
    have hky : ∀ x, x ∈ L.map (·.1) ↔ 0 ≤ x ∧ x < 2 * (m : Int) - 1 := fun x => by rw [hk]; omega
    clear hk
    refine forD_pre (List.range (2 * (m : Int) - 2 - ((m : Int) - 1)).toNat) (fun pre ρ n2 => ∃ L y6 y7 y10, n2 = n' ∧ ((L.map (·.1)).Nodup ∧ (∀ x, x ∈ L.map (·.1) ↔ 0 ≤ x ∧ x < 2 * (m : Int) - 1)) ∧ (∃ z : LP p, Bd z 0 (2 * (m : Int) - 2 - pre.length) ∧ Dv g (a * b - z) ∧ ∀ x, x ≤ 2 * (m : Int) - 2 - pre.length → getI L x % p = cf z x) ∧ ρ = [some (.val (.int p)), some (.val (.lst ((dg g (m + 1)).map D.int))), some (.val (.lst ((dg a m).map D.int))), some (.val (.lst ((dg b m).map D.int))), some (.val (.int m)), some (.own (.dct (L.map kvp))), y6, y7, y8, y9, y10]) (fun pre i post e ρ n2 R hI hR => ?_) (fun ρ n2 hI => ?_) ⟨L, y6, y7, none, rfl, ⟨hn, hky⟩, ⟨a * b, ?_, ?_, fun x _ => hg x⟩, rfl⟩
    · obtain ⟨L, y6, y7, y10, rfl, ⟨hn, hk⟩, ⟨z, zb, zd, zg⟩, rfl⟩ := hI
      obtain ⟨rfl, hi⟩ := range_split e
      have hat : (m : Int) ≤ 2 * (m : Int) - 2 - pre.length := by omega
      have eat : 2 * (m : Int) - 2 + (pre.length : Int) * -1 = 2 * (m : Int) - 2 - pre.length := by omega
      walk_at "d"
      rw [eat]
      generalize hA : 2 * (m : Int) - 2 - (pre.length : Int) = A at *
      rw [get_kvp' ((hk A).mpr (by omega))]
      walk_at "d"
      refine ⟨hp0.1, ?_⟩
      have hdz := zg A (Int.le_refl A)
      rw [hdz]
      have cz := cf_range hp0.1 z A
      have hlen := nodup_len hn (fun k hk' => by have := (hk k).mp hk'; exact ⟨this.1, (show k ≤ 2 * (m : Int) - 2 by omega)⟩)
      rw [List.length_map] at hlen
      refine ⟨by omega, ?_⟩
      refine prod_back hp cz hm ⟨hat, by omega⟩ _ _ _ _ L hn (by omega) hk _ (fun L' y6 hn' hk' hg' => ?_) _
      refine hR _ _ ⟨L', _, _, _, rfl, ⟨hn', hk'⟩, ⟨z - mono p (A - m) (cf z A) * g, ?_, ?_, fun x hx => ?_⟩, rfl⟩
      · intro k hk2
        have b1 : Bd (z - mono p (A - m) (cf z A) * g) 0 A := Bd.sub zb ((gb.mono_mul (A - m) (cf z A)).mono (by omega) (by omega))
        have := b1 k hk2
        refine ⟨this.1, ?_⟩
        rw [List.length_append, List.length_singleton]
        by_cases e2 : k = A
        · exfalso
          apply hk2
          rw [e2, cf_sub, cf_mono_mul, show A - (A - (m : Int)) = m by omega, hg1, Int.mul_one, cf_mod, Int.sub_self, Int.zero_emod]
        · push_cast; omega
      · have : a * b - (z - mono p (A - m) (cf z A) * g) = (a * b - z) + mono p (A - m) (cf z A) * g := by grind
        rw [this]
        exact zd.add ((Dv.refl g).mul _)
      · rw [List.length_append, List.length_singleton] at hx
        push_cast at hx
        rw [hg', cf_sub, cf_mono_mul]
        have hx1 := zg x (by omega)
        by_cases h : A - m ≤ x ∧ x < A
        · rw [if_pos h]
          exact emod_sub_congr (by rw [hx1, cf_mod])
        · rw [if_neg h, Int.sub_zero, hx1, hg0.2 _ (by omega)]
          simp [cf_mod]
    · obtain ⟨L, y6, y7, y10, rfl, ⟨hn, hk⟩, ⟨z, zb, zd, zg⟩, rfl⟩ := hI
      rw [List.length_range] at zb zg
      have et : 2 * (m : Int) - 2 - ((2 * (m : Int) - 2 - ((m : Int) - 1)).toNat : Int) = (m : Int) - 1 := by omega
      rw [et] at zb zg
      walk_at "d"
      refine ⟨by omega, ?_⟩
      rw [rngD_map]
      refine lcD_all _ (fun (i : Nat) => D.int (cf z (i : Int))) _ _ (fun i hi K h => ?_) (by rw [List.length_range]; omega) ?_
      · rw [List.mem_range] at hi
        walk_at "d"
        rw [Int.zero_add, get_kvp' ((hk i).mpr (by omega))]
        walk_at "d"
        rw [zg i (by omega)]
        exact ⟨hp0.1, h⟩
      · have e3 : ((List.range (m : Int).toNat).map fun (i : Nat) => D.int (cf z (i : Int))) = (dg z m).map D.int := by
          unfold dg
          rw [List.map_map, Int.toNat_natCast]
          rfl
        rw [e3]
        exact hq z zd zb
    · have := Bd.mul hp0.1 ba bb
      exact this.mono (by omega) (by simp only [List.length_nil]; omega)
    · rw [show a * b - a * b = 0 by grind]; exact .zero _
  · simp
  · simp only [List.length_nil]
    rw [trc_zero, show (0 : LP p) * b = 0 by grind, cf_zero, getI_nil, Int.zero_emod]
end

end My

namespace My
open PySem PySem.Spec L2 DL
theorem sc_shift_rest : FnScope ["prime", "divisor", "back", "size", "scale", "part", "k"] ["prime", "divisor", "back"] (defScope (top 15)) := ⟨rfl, rfl, rfl, by decide +kernel, rfl, by decide +kernel, by decide +kernel⟩
section
variable {P : Program} {w : World} {K : PySem.W.Frag} {mg : Str → Option Value} {base : Heap}
theorem lp_range {p : Int} {m : Nat} (f : Nat → Int) : ∃ r : LP p, Bd r 0 ((m : Int) - 1) ∧ ∀ k : Int, cf r k = if 0 ≤ k ∧ k < m then f k.toNat % p else 0 := by
  refine ⟨lp p ((List.range m).map fun (i : Nat) => ((i : Int), f i)), Bd.lp fun t ht => ?_, fun k => ?_⟩
  · obtain ⟨i, hi, rfl⟩ := List.mem_map.mp ht
    rw [List.mem_range] at hi
    dsimp only
    omega
  · rw [cf_lp]
    have : ∀ m : Nat, csum ((List.range m).map fun (i : Nat) => ((i : Int), f i)) k = if 0 ≤ k ∧ k < m then f k.toNat else 0 := fun m => by
      induction m with
      | zero => rw [if_neg (by omega)]; rfl
      | succ m ih =>
        rw [List.range_succ, List.map_append, csum_append, ih, List.map_cons, List.map_nil, csum_cons, csum_nil]
        by_cases h : (m : Int) = k
        · subst h
          rw [if_neg (by omega), if_pos rfl, if_pos (by push_cast; omega), Int.toNat_natCast]; omega
        · rw [if_neg (show ¬ ((m : Int), f m).1 = k from h)]
          by_cases h2 : 0 ≤ k ∧ k < (m : Int)
          · rw [if_pos h2, if_pos (by push_cast; omega)]; omega
          · rw [if_neg h2, if_neg (by push_cast; omega)]; rfl
    rw [this]
    split
    · rfl
    · exact Int.zero_emod p
theorem dg_range {p : Int} {r : LP p} {m : Nat} {f : Nat → Int} (h : ∀ k : Int, cf r k = if 0 ≤ k ∧ k < m then f k.toNat % p else 0) : (dg r m).map D.int = (List.range m).map fun (i : Nat) => D.int (f i % p) := by
  unfold dg
  rw [List.map_map]
  refine List.map_congr_left fun i hi => ?_
  rw [List.mem_range] at hi
  show D.int (cf r i) = _
  rw [h, if_pos (by omega), Int.toNat_natCast]
theorem ok_shift_rest (T : Top K mg) : Sg P w K mg base "shift_rest" 2 3 F_shift_rest [] := by
  obtain ⟨fd, FD⟩ := T.d_shift_rest
  refine ⟨_, fd, ["prime", "divisor", "back"], [], [], ?_, T.g_shift_rest, FD.kp, FD.bindsN (fun _ _ _ _ _ _ us hl => match us, hl with | [_, _, _], _ => rfl), .nil, fun _ => .nil⟩
  refine ok_def FD sc_shift_rest rfl ?_
  rintro X E W ds n q xx ⟨cdv, A, outer, s, H, rfl⟩ hr tk pso hl hF
  have hu := hr.units
  have hu1 := hu_of hr
  refine ⟨_, (pss_consD (ps_setD 3 (pd_sub (PD.pb (pd_callB call_lenD2 dcall_len (by rfl) T.f_len (by decide +kernel) (pab_cons (pb_var 1) pab_nil))) (PD.pb pd_int)) sc_shift_rest.nd)
      (pss_consD (ps_ifD (pt_valD (pb_var 2)) (pss_consD (ps_setD 4 (pd_sub (PD.pb pd_int) (PD.pb (pd_call (ok_inverse T) (hr.mono (by decide)) tk (by rfl) (pad_cons (pd_var 0) (pad_cons (pd_ix (pb_var 1) (PD.pb pd_int)) pad_nil))))) sc_shift_rest.nd)
      (pss_oneD (ps_retD (PF.pd (pf_lc [("part", 5)] rfl sc_shift_rest.nd (pid_seq (PF.pd (pf_sl (pb_var 1) (pdo_some (PD.pb pd_int)) pdo_none))) (blkOk_by (own := [("part", 5)]) (N := ["prime", "divisor", "back", "size", "scale", "part", "k"]) (sc := defScope (top 15)) (by decide +kernel)) (fun _ _ _ _ _ => (pgd_name 5 sc_shift_rest.nd)) (fun _ _ _ _ _ => ptsD_nil) (fun _ _ _ _ _ => (pd_mod (PD.pb (pd_mul (pb_var 4) (pb_var 5))) (pb_var 0)))))))) pss_nilD)
      (pss_consD (ps_ifD (pt_eq hu (pb_var 3) (PD.pb pd_int)) (pss_oneD (ps_retD (PF.pd (pf_lst (pad_cons (pd_mod (PD.pb (pd_sub (PD.pb pd_int) (PD.pb (pd_ix (pb_var 1) (PD.pb pd_int))))) (pb_var 0)) pad_nil))))) pss_nilD)
      (pss_oneD (ps_retD (PF.pd (pf_lc [("k", 6)] rfl sc_shift_rest.nd (pid_r1 (by rfl) T.f_range (pab_cons (pb_var 3) pab_nil)) (blkOk_by (own := [("k", 6)]) (N := ["prime", "divisor", "back", "size", "scale", "part", "k"]) (sc := defScope (top 15)) (by decide +kernel)) (fun _ _ _ _ _ => (pgd_name 6 sc_shift_rest.nd)) (fun _ _ _ _ _ => ptsD_nil) (fun _ _ _ _ _ => (pd_callTy call_int1 dcall_int (by rfl) T.f_int (by decide +kernel) (pab_cons (PD.pb (pd_eq hu (pb_var 6) (PD.pb pd_int))) pab_nil)))))))))), ?_⟩
  clear hr tk pso hl hu hu1
  obtain ⟨p, g, m, back, rfl, hp, ⟨hg0, hgm, hg1⟩, hm0, hm, hq⟩ := hF
  have hp0 := isPr_pos hp
  have gb : Bd g 0 m := .of_hl hgm hg0
  have hdl : ((dg g (m + 1)).length : Int) - 1 = m := by simp [dg]
  have gl := cf_lo hp0.1 hg0.ne
  rw [hg0.lo hp0.1] at gl
  have hinv := invD_mul hp gl.1 gl.2
  walk_at "d"
  rw [hdl]
  cases back with
  | true =>
    simp only [if_true] at hq ⊢
    rw [show (0 : Int) = ((0 : Nat) : Int) from rfl, dg_at g (i := 0) (by omega)]
    refine ⟨p, cf g 0, rfl, hp, gl.1, gl.2, ?_⟩
    obtain ⟨r, rb, rc⟩ := lp_range (p := p) (m := m) fun i => (0 - invD p (cf g 0)) * cf g ((i : Int) + 1)
    have ed : cutD ((dg g (m + 1)).map D.int) (some 1) none = (List.range m).map fun (i : Nat) => D.int (cf g ((i : Int) + 1)) := by
      have h1 := cut_from (ds := (dg g (m + 1)).map D.int) (k := 1) (by rw [dg_len]; omega)
      rw [show ((1 : Nat) : Int) = 1 from rfl] at h1
      rw [h1]
      unfold dg
      rw [List.range_succ_eq_map, List.map_cons, List.map_cons, List.drop_succ_cons, List.drop_zero, List.map_map, List.map_map]
      rfl
    rw [ed]
    refine lcD_all _ (fun (i : Nat) => D.int (((0 - invD p (cf g 0)) * cf g ((i : Int) + 1)) % p)) _ _ (fun i hi K h => ?_) (by rw [List.length_range]; omega) ?_
    · walk_at "d"
      exact ⟨.inl (.inl ⟨by omega, by omega⟩), hp0.1, h⟩
    rw [← dg_range rc]
    refine hq r ⟨mono p (-1) (invD p (cf g 0)), cf_ext fun k => ?_⟩ rb
    rw [cf_sub, cf_mono, cf_mono_mul, rc]
    have em : ((0 - invD p (cf g 0)) * cf g (k + 1)) % p = (-(invD p (cf g 0) * cf g (k + 1))) % p := by
      congr 1
      rw [Int.zero_sub, Int.neg_mul]
    by_cases h : -1 = k
    · rw [if_pos h, if_neg (by omega), ← h, show (-1 : Int) - -1 = 0 by omega, hinv.1, one_mod hp, Int.sub_zero, one_mod hp]
    · rw [if_neg h]
      by_cases h2 : 0 ≤ k ∧ k < m
      · rw [if_pos h2, show ((k.toNat : Int) + 1) = k + 1 by omega, em, show k - -1 = k + 1 by omega, ← emod_sub_congr (a := 0) rfl, Int.zero_sub, Int.neg_neg]
      · rw [if_neg h2]
        have : cf g (k - -1) = 0 := by
          by_cases z : k < -1
          · exact hg0.2 _ (by omega)
          · exact hgm.2 _ (by omega)
        rw [this]
        simp
  | false =>
    simp only [Bool.false_eq_true, if_false] at hq ⊢
    rw [show (pyD (.int (m : Int))).eqv (pyD (.int 1)) = decide ((m : Int) = 1) from eqv_int _ _]
    by_cases h1 : m = 1
    · subst h1
      rw [show (0 : Int) = ((0 : Nat) : Int) from rfl, dg_at g (i := 0) (by omega)]
      simp only [Int.natCast_one, decide_true, if_true]
      refine ⟨hp0.1, by decide, ?_⟩
      obtain ⟨r, rb, rc⟩ := lp_range (p := p) (m := 1) fun i => 0 - cf g 0
      have := dg_range (f := fun _ => 0 - cf g 0) rc
      have h := hq r ⟨1, cf_ext fun k => ?_⟩ rb
      · rw [this] at h
        exact h
      · rw [show (1 : LP p) * g = g by grind, cf_sub, cf_mono, rc]
        by_cases k0 : k = 0
        · subst k0
          rw [if_neg (by decide), if_pos (by omega), ← emod_sub_congr (a := 0) rfl, show 0 - (0 - cf g 0) = cf g 0 by omega, cf_mod]
        · rw [if_neg (show ¬ (0 ≤ k ∧ k < ((1 : Nat) : Int)) by omega), Int.sub_zero]
          by_cases k1 : (1 : Int) = k
          · rw [if_pos k1, ← k1, one_mod hp, one_mod hp]
            exact hg1.symm
          · rw [if_neg k1, Int.zero_emod]
            by_cases z : k < 0
            · exact (hg0.2 _ z).symm
            · exact (hgm.2 _ (by push_cast; omega)).symm
    · have hne : ¬ (m : Int) = 1 := by omega
      simp only [hne, decide_false, Bool.false_eq_true, if_false]
      refine ⟨by omega, ?_⟩
      rw [rngD_map]
      obtain ⟨r, rb, rc⟩ := lp_range (p := p) (m := m) fun i => if i = 1 then 1 else 0
      refine lcD_all _ (fun (i : Nat) => D.int ((if i = 1 then 1 else 0) % p)) _ _ (fun i hi K h => ?_) (by rw [List.length_range]; omega) ?_
      · walk_at "d"
        rw [Int.zero_add]
        rw [show (pyD (.int (i : Int))).eqv (pyD (.int 1)) = decide ((i : Int) = 1) from eqv_int _ _]
        by_cases e : i = 1
        · subst e
          simp only [Int.natCast_one, decide_true, if_true]
          rw [if_pos rfl, one_mod hp] at h
          exact h
        · have e' : ¬ (i : Int) = 1 := by omega
          simp only [e', decide_false, Bool.false_eq_true, if_false]
          rw [if_neg e, Int.zero_emod] at h
          exact h
      · rw [Int.toNat_natCast, ← dg_range rc]
        refine hq r ?_ rb
        have : mono p 1 1 = r := cf_ext fun k => by
          rw [cf_mono, rc]
          by_cases k1 : (1 : Int) = k
          · subst k1
            rw [if_pos rfl, if_pos (by omega)]
            rfl
          · rw [if_neg k1]
            split
            · rw [if_neg (by omega), Int.zero_emod]
            · rfl
        rw [this, show r - r = 0 by grind]
        exact .zero _
end

end My

namespace My
open PySem PySem.Spec L2 DL
theorem sc_far_rest : FnScope ["prime", "divisor", "places", "size", "found", "k", "step", "left"] ["prime", "divisor", "places"] (defScope (top 16)) := ⟨rfl, rfl, rfl, by decide +kernel, rfl, by decide +kernel, by decide +kernel⟩
section
variable {P : Program} {w : World} {K : PySem.W.Frag} {mg : Str → Option Value} {base : Heap}
theorem ok_far_rest (T : Top K mg) : Sg P w K mg base "far_rest" 3 3 F_far_rest [] := by
  obtain ⟨fd, FD⟩ := T.d_far_rest
  refine ⟨_, fd, ["prime", "divisor", "places"], [], [], ?_, T.g_far_rest, FD.kp, FD.bindsN (fun _ _ _ _ _ _ us hl => match us, hl with | [_, _, _], _ => rfl), .nil, fun _ => .nil⟩
  refine ok_def FD sc_far_rest rfl ?_
  rintro X E W ds n q xx ⟨cdv, A, outer, s, H, rfl⟩ hr tk pso hl hF
  have hu := hr.units
  have hu1 := hu_of hr
  refine ⟨_, (pss_consD (ps_setD 3 (pd_sub (PD.pb (pd_callB call_lenD2 dcall_len (by rfl) T.f_len (by decide +kernel) (pab_cons (pb_var 1) pab_nil))) (PD.pb pd_int)) sc_far_rest.nd)
      (pss_consD (ps_ifD (pt_eq hu (pb_var 3) (PD.pb pd_int)) (pss_oneD (ps_retD (PF.pd (pf_lst pad_nil)))) pss_nilD)
      (pss_consD (ps_setLcD 4 [("k", 5)] rfl sc_far_rest.nd (pid_r1 (by rfl) T.f_range (pab_cons (pb_var 3) pab_nil)) (blkOk_by (own := [("k", 5)]) (N := ["prime", "divisor", "places", "size", "found", "k", "step", "left"]) (sc := defScope (top 16)) (by decide +kernel)) (fun _ _ _ _ _ => (pgd_name 5 sc_far_rest.nd)) (fun _ _ _ _ _ => ptsD_nil) (fun _ _ _ _ _ => (pd_callTy call_int1 dcall_int (by rfl) T.f_int (by decide +kernel) (pab_cons (PD.pb (pd_eq hu (pb_var 5) (PD.pb pd_int))) pab_nil))))
      (pss_consD (ps_parD 6 7 rfl sc_far_rest.nd (pad_cons (pd_call (ok_shift_rest T) (hr.mono (by decide)) tk (by rfl) (pad_cons (pd_var 0) (pad_cons (pd_var 1) (pad_cons (pd_lt (pb_var 2) (PD.pb pd_int)) pad_nil)))) (pad_cons (pd_callB call_abs dcall_abs (by rfl) T.f_abs (by decide +kernel) (pab_cons (pb_var 2) pab_nil)) pad_nil)))
      (pss_consD (ps_whileD pso (pt_gt (pb_var 7) (PD.pb pd_int)) (pss_consD (ps_ifD (pt_eq hu (PD.pb (pd_mod (pb_var 7) (PD.pb pd_int))) (PD.pb pd_int)) (pss_oneD (ps_setD 4 (pd_call (ok_product_rest T) (hr.mono (by decide)) tk (by rfl) (pad_cons (pd_var 0) (pad_cons (pd_var 1) (pad_cons (pd_var 4) (pad_cons (pd_var 6) pad_nil))))) sc_far_rest.nd)) pss_nilD)
      (pss_consD (ps_setD 6 (pd_call (ok_product_rest T) (hr.mono (by decide)) tk (by rfl) (pad_cons (pd_var 0) (pad_cons (pd_var 1) (pad_cons (pd_var 6) (pad_cons (pd_var 6) pad_nil))))) sc_far_rest.nd)
      (pss_oneD (ps_setD 7 (pd_div (pb_var 7) (PD.pb pd_int)) sc_far_rest.nd)))))
      (pss_oneD (ps_retD (pd_var 4)))))))), ?_⟩
  clear hr tk pso hl hu hu1
  obtain ⟨p, g, m, k, rfl, hp, hgd, hm, hq⟩ := hF
  obtain ⟨hg0, hgm, hg1⟩ := hgd
  have hp0 := isPr_pos hp
  have gb : Bd g 0 m := .of_hl hgm hg0
  have hdl : ((dg g (m + 1)).length : Int) - 1 = m := by simp [dg]
  walk_at "d"
  rw [hdl]
  rw [show (pyD (.int (m : Int))).eqv (pyD (.int 0)) = decide ((m : Int) = 0) from eqv_int _ _]
  by_cases h0 : m = 0
  · subst h0
    simp only [Int.natCast_zero, decide_true, if_true]
    have e1 : g = 1 := by
      rw [unit_mono hgm hg0, hg1]
      exact mono_one
    have h := hq 0 (by rw [e1]; exact ⟨_, (by grind : mono p k 1 - 0 = (mono p k 1 - 0) * 1)⟩) (.zero _ _)
    exact ⟨by decide, h⟩
  have hne : ¬ (m : Int) = 0 := by omega
  simp only [hne, decide_false, Bool.false_eq_true, if_false]
  refine ⟨by omega, ?_⟩
  rw [rngD_map]
  have e3 : ((List.range (m : Int).toNat).map fun (i : Nat) => D.int (cf (1 : LP p) (i : Int))) = (dg (1 : LP p) m).map D.int := by
    unfold dg
    rw [List.map_map, Int.toNat_natCast]
    rfl
  have c1 : ∀ j : Int, cf (1 : LP p) j = if 0 = j then 1 else 0 := fun j => by
    rw [← mono_one, cf_mono, one_mod hp]
  refine lcD_all _ (fun (i : Nat) => D.int (cf (1 : LP p) (i : Int))) _ _ (fun i hi K h => ?_) (by rw [List.length_range]; omega) ?_
  · walk_at "d"
    rw [Int.zero_add]
    rw [show (pyD (.int (i : Int))).eqv (pyD (.int 0)) = decide ((i : Int) = 0) from eqv_int _ _]
    rw [c1] at h
    by_cases e : i = 0
    · subst e
      exact h
    · have e' : ¬ (i : Int) = 0 := by omega
      rw [if_neg (by omega)] at h
      simp only [e', decide_false, Bool.false_eq_true, if_false]
      exact h
  rw [e3]
  refine ⟨p, g, m, decide (k < 0), rfl, hp, ⟨hg0, hgm, hg1⟩, by omega, hm, fun S sd sb => ?_⟩
  refine while_run (fun t ρ n' => ∃ (F S : LP p) (a b : Int) (l : Nat) (y5 : Option Sl), n' = n ∧ l ≤ t ∧ Bd F 0 ((m : Int) - 1) ∧ Bd S 0 ((m : Int) - 1) ∧ Dv g (mono p a 1 - F) ∧ Dv g (mono p b 1 - S) ∧ a + b * l = k ∧ ρ = [some (.val (.int p)), some (.val (.lst ((dg g (m + 1)).map D.int))), some (.val (.int k)), some (.val (.int m)), some (.val (.lst ((dg F m).map D.int))), y5, some (.val (.lst ((dg S m).map D.int))), some (.val (.int (l : Int)))]) k.natAbs ⟨1, S, 0, if decide (k < 0) = true then -1 else 1, k.natAbs, none, rfl, Nat.le_refl _, ?_, sb, ?_, sd, ?_, ?_⟩ (fun t ρ n' R hI hR => ?_)
  · intro j hj
    rw [c1] at hj
    split at hj
    · omega
    · exact absurd rfl hj
  · rw [mono_one, show (1 : LP p) - 1 = 0 by grind]; exact .zero _
  · by_cases z : k < 0
    · simp only [z, decide_true, if_true]; omega
    · simp only [z, decide_false, Bool.false_eq_true, if_false]; omega
  · have : (if k < 0 then -k else k) = (k.natAbs : Int) := by split <;> omega
    rw [this]
  obtain ⟨F, S, a, b, l, y5, rfl, hl, fb, sb, fd', sd, ek, rfl⟩ := hI
  walk_at "d"
  by_cases l0 : l = 0
  · subst l0
    simp only [Int.natCast_zero, Int.lt_irrefl, decide_false, Bool.false_eq_true, if_false]
    rw [Int.natCast_zero, Int.mul_zero, Int.add_zero] at ek
    subst ek
    exact hq F fd' fb
  have lp : (0 : Int) < l := by omega
  simp only [lp, decide_true, if_true]
  have mm : ∀ a b : Int, mono p a 1 * mono p b 1 = mono p (a + b) 1 := fun a b => by rw [mono_mul, Int.mul_one]
  have dd : ∀ {a b : Int} {F S r : LP p}, Dv g (mono p a 1 - F) → Dv g (mono p b 1 - S) → Dv g (F * S - r) → Dv g (mono p (a + b) 1 - r) := fun {a b F S r} h1 h2 h3 => by
    have : mono p (a + b) 1 - r = mono p b 1 * (mono p a 1 - F) + (F * (mono p b 1 - S) + (F * S - r)) := by
      rw [← mm]; grind
    rw [this]
    exact (h1.mul _).add ((h2.mul _).add h3)
  have hdv : ∀ y5, ∀ F' a', Bd F' 0 ((m : Int) - 1) → Dv g (mono p a' 1 - F') → a' = a + b * (l % 2 : Nat) → F_product_rest W [.int p, .lst ((dg g (m + 1)).map D.int), .lst ((dg S m).map D.int), .lst ((dg S m).map D.int)] n' (fun v n1 => (0 < (2 : Int) ∧ (2 : Int) < 1073741824) ∧ R [some (.val (.int p)), some (.val (.lst ((dg g (m + 1)).map D.int))), some (.val (.int k)), some (.val (.int m)), some (.val (.lst ((dg F' m).map D.int))), y5, some (.val v), some (.val (.int ((l : Int) / 2)))] n1) (fun e n => xx e n) := fun y5 F' a' fb' fd2 ea => by
    refine ⟨p, g, S, S, m, rfl, hp, ⟨hg0, hgm, hg1⟩, by omega, hm, sb, sb, fun r rd rb => ⟨by decide, ?_⟩⟩
    cases t with
    | zero => omega
    | succ t =>
      refine hR t _ _ rfl ⟨F', r, a', b + b, l / 2, _, rfl, by omega, fb', rb, fd2, dd sd sd rd, ?_, by rw [Int.natCast_ediv]; rfl⟩
      rw [ea, ← ek]
      have : (l : Int) = 2 * ((l / 2 : Nat) : Int) + ((l % 2 : Nat) : Int) := by omega
      generalize ((l / 2 : Nat) : Int) = u at *
      generalize ((l % 2 : Nat) : Int) = v at *
      rw [this]
      grind
  refine ⟨by decide, ?_⟩
  rw [show (pyD (.int ((l : Int) % 2))).eqv (pyD (.int 1)) = decide ((l : Int) % 2 = 1) from eqv_int _ _]
  by_cases e2 : (l : Int) % 2 = 1
  · simp only [e2, decide_true, if_true]
    refine ⟨p, g, F, S, m, rfl, hp, ⟨hg0, hgm, hg1⟩, by omega, hm, fb, sb, fun r rd rb => ?_⟩
    refine hdv _ r (a + b) rb (dd fd' sd rd) ?_
    rw [show ((l % 2 : Nat) : Int) = 1 by omega, Int.mul_one]
  · simp only [e2, decide_false, Bool.false_eq_true, if_false]
    refine hdv _ F a fb fd' ?_
    rw [show ((l % 2 : Nat) : Int) = 0 by omega, Int.mul_zero, Int.add_zero]
end

end My

namespace My
open PySem PySem.Spec L2 DL
theorem sc_Filter___mod__ : FnScope ["self", "other", "divisor", "near", "offset", "digit", "found", "rest", "k", "part"] ["self", "other"] (defScope (inClass (top 22) 18)) := ⟨rfl, rfl, rfl, by decide +kernel, rfl, by decide +kernel, by decide +kernel⟩
section
variable {P : Program} {w : World} {K : PySem.W.Frag} {mg : Str → Option Value} {base : Heap}
theorem canon_self {p : Int} (hp : 0 < p) {a : Tm} (hs : (a.map (·.1)).Pairwise (· < ·)) (hv : ∀ t ∈ a, 0 < t.2 ∧ t.2 < p) : canon p a = a := by
  have nd : (a.map (·.1)).Nodup := hs.imp (fun h => by omega)
  refine pair_ext (canon_sorted p a) hs fun k v => ?_
  rw [canon_mem hp, csum_get nd]
  constructor
  · rintro ⟨e, h⟩
    by_cases hm : k ∈ a.map (·.1)
    · obtain ⟨t, ht, rfl⟩ := List.mem_map.mp hm
      rw [getI_mem (v := t.2) nd ht, Int.emod_eq_of_lt (by have := hv t ht; omega) (hv t ht).2] at e
      rw [e]; exact ht
    · rw [getI_out hm, Int.zero_emod] at e; omega
  · intro h
    rw [getI_mem nd h, Int.emod_eq_of_lt (by have := hv _ h; omega) (hv _ h).2]
    exact ⟨rfl, (hv _ h).1⟩
def farB (t : Int × Int) : Bool := decide (2000 < (if t.1 < 0 then -t.1 else t.1))
theorem lp_split {p : Int} (P : Int × Int → Bool) : ∀ a : Tm, lp p a = lp p (a.filter fun t => !P t) + lp p (a.filter P)
  | [] => by
    rw [List.filter_nil, List.filter_nil, ← lp_zero]; grind
  | t :: a => by
    rw [lp_cons, lp_split P a, List.filter_cons, List.filter_cons]
    cases P t with
    | true =>
      simp only [Bool.not_true, Bool.false_eq_true, if_false, if_true]
      rw [lp_cons]; grind
    | false =>
      simp only [Bool.not_false, Bool.false_eq_true, if_false, if_true]
      rw [lp_cons]; grind
theorem ok_Filter___mod__ (T : Top K mg) : Mg P w K mg base "Filter" "__mod__" 7 2 F_Filter___mod__ [] := by
  obtain ⟨fd, FD⟩ := T.d_Filter___mod__
  refine ⟨T.cl_Filter, _, fd, ["self", "other"], [], [], ?_, T.m_Filter___mod__, FD.bindsN (fun _ _ _ _ _ _ us hl => match us, hl with | [_, _], _ => rfl), .nil, fun _ => .nil⟩
  refine ok_def FD sc_Filter___mod__ rfl ?_
  rintro X E W ds n q xx ⟨cdv, A, outer, s, H, rfl⟩ hr tk pso hl hF
  have hu := hr.units
  have hu1 := hu_of hr
  refine ⟨_, (pss_consD (ps_ifD (ptd_not (pt_valD (PD.pb (pd_isiO T.tyf (T.ko_Filter) (by rfl) T.f_isinstance (by rfl) T.g_Filter (pb_var 1))))) (pss_oneD (ps_retD pd_never)) pss_nilD)
      (pss_consD (ps_ifD (ptd_not (pt_truO (ok_Filter___bool__ T) (hr.mono (by decide)) tk (pd_var 1))) (pss_oneD (ps_raise0 (xg_ZeroFilter T) (hr.mono (by decide)) rfl tk (by rfl))) pss_nilD)
      (pss_consD (ps_exprD (PD.pb (pd_call (ok_check_primes T) (hr.mono (by decide)) tk (by rfl) (pad_cons (pd_var 0) (pad_cons (pd_var 1) pad_nil)))))
      (pss_consD (ps_setD 2 (pd_call (ok_divisor_of T) (hr.mono (by decide)) tk (by rfl) (pad_cons (pd_var 1) pad_nil)) sc_Filter___mod__.nd)
      (pss_consD (ps_setLcD 3 [("offset", 4), ("digit", 5)] rfl sc_Filter___mod__.nd (pid_seq (pd_fld ["Filter"] T.fld_Filter_kept (pb_var 0))) (blkOk_by (own := [("offset", 4), ("digit", 5)]) (N := ["self", "other", "divisor", "near", "offset", "digit", "found", "rest", "k", "part"]) (sc := defScope (inClass (top 22) 18)) (by decide +kernel)) (fun _ _ _ _ _ => (pgd_tup (m := 2) rfl (pgsd_cons (pgd_name 4 sc_Filter___mod__.nd) (pgsd_cons (pgd_name 5 sc_Filter___mod__.nd) pgsd_nil)))) (fun _ _ _ _ _ => (ptsD_one (pt_le (PD.pb (pd_callB call_abs dcall_abs (by rfl) T.f_abs (by decide +kernel) (pab_cons (pb_var 4) pab_nil))) (PD.pb (pd_globI (by rfl) (T.c_NEAR)))))) (fun _ _ _ _ _ => (pd_tup (pad_cons (pd_var 4) (pad_cons (pd_var 5) pad_nil)))))
      (pss_consD (ps_setD 6 (pd_listEnumerate rfl (by rfl) T.f_list (by rfl) T.f_enumerate (pad_cons (pd_ix (PD.pb (pd_call (ok_divided T) (hr.mono (by decide)) tk (by rfl) (pad_cons (pd_fld ["Filter"] T.fld_Filter_prime (pb_var 0)) (pad_cons (pd_var 3) (pad_cons (pd_var 2) pad_nil))))) (PD.pb pd_int)) pad_nil)) sc_Filter___mod__.nd)
      (pss_consD (ps_forD pso rfl (pid_seq (pd_fld ["Filter"] T.fld_Filter_kept (pb_var 0))) (pgd_tup (m := 2) rfl (pgsd_cons (pgd_name 4 sc_Filter___mod__.nd) (pgsd_cons (pgd_name 5 sc_Filter___mod__.nd) pgsd_nil))) (pss_oneD (ps_ifD (pt_gt (PD.pb (pd_callB call_abs dcall_abs (by rfl) T.f_abs (by decide +kernel) (pab_cons (pb_var 4) pab_nil))) (PD.pb (pd_globI (by rfl) (T.c_NEAR)))) (pss_consD (ps_setD 7 (pd_call (ok_far_rest T) (hr.mono (by decide)) tk (by rfl) (pad_cons (pd_fld ["Filter"] T.fld_Filter_prime (pb_var 0)) (pad_cons (pd_var 2) (pad_cons (pd_var 4) pad_nil)))) sc_Filter___mod__.nd)
      (pss_oneD (ps_setD 6 (pd_add (pb_var 6) (PD.pb (PF.pd (pf_lc [("k", 8), ("part", 9)] rfl sc_Filter___mod__.nd (pid_enumK (by rfl) T.f_enumerate (pad_cons (pd_var 7) pad_nil)) (blkOk_by (own := [("k", 8), ("part", 9)]) (N := ["self", "other", "divisor", "near", "offset", "digit", "found", "rest", "k", "part"]) (sc := defScope (inClass (top 22) 18)) (by decide +kernel)) (fun _ _ _ _ _ => (pgd_tup (m := 2) rfl (pgsd_cons (pgd_name 8 sc_Filter___mod__.nd) (pgsd_cons (pgd_name 9 sc_Filter___mod__.nd) pgsd_nil)))) (fun _ _ _ _ _ => ptsD_nil) (fun _ _ _ _ _ => (pd_tup (pad_cons (pd_var 8) (pad_cons (pd_mul (pb_var 5) (pb_var 9)) pad_nil)))))))) sc_Filter___mod__.nd))) pss_nilD)))
      (pss_oneD (ps_retD (pd_make (ok_Filter___init__ T) (hr.mono (by decide)) tk (by rfl) (pad_cons (pd_fld ["Filter"] T.fld_Filter_prime (pb_var 0)) (pad_cons (pd_var 6) pad_nil)))))))))))), ?_⟩
  clear hr tk pso hl hu hu1
  rcases hF with hF | ⟨p, p', f, rfl, hp', hq⟩ | ⟨p, p', f, g, rfl, hp', hg, hne, hq⟩
  rotate_left
  · walk_at "d"
    refine ⟨⟨_, rfl⟩, p', can (0 : LP p'), rfl, ?_⟩
    rw [isE0 hp']
    walk_at "d"
    exact hq
  · walk_at "d"
    refine ⟨⟨_, rfl⟩, p', can g, rfl, ?_⟩
    rw [isE hp' hg]
    walk_at "d"
    exact ⟨rfl, rfl, p, rfl, .inr ⟨p', hne, rfl, hq⟩⟩
  obtain ⟨p, f, g, rfl, hp, hg, hs, hgl, hfl, hf, hq⟩ := hF
  have hp0 := isPr_pos hp
  have s0 := sp_nonneg hp0.1 hg
  obtain ⟨n1, n2, n3⟩ := nrm_hl hp hg
  have em : ((sp g).toNat : Int) = sp g := by omega
  have hfl' : (can f).length < 1000000 := hfl
  walk_at "d"
  refine ⟨⟨_, rfl⟩, p, can g, rfl, ?_⟩
  rw [isE hp0.1 hg]
  walk_at "d"
  refine ⟨rfl, rfl, p, rfl, .inl ⟨rfl, p, g, rfl, hp, hg, hgl, by omega, ?_⟩⟩
  refine lcD_of trm (fun t => if farB t = true then none else some (trm t)) (can f) [] _ (fun t ht K h => ?_) (by rw [List.length_nil]; omega) ?_
  · walk_at "d"
    unfold farB at h
    by_cases hab : 2000 < (if t.1 < 0 then -t.1 else t.1)
    · have hab' : ¬ (if t.1 < 0 then -t.1 else t.1) ≤ 2000 := by omega
      simp only [hab, hab', decide_true, decide_false, Bool.false_eq_true, if_false, if_true] at h ⊢
      exact h
    · have hab' : (if t.1 < 0 then -t.1 else t.1) ≤ 2000 := by omega
      simp only [hab, hab', decide_true, decide_false, Bool.false_eq_true, if_false, if_true] at h ⊢
      exact ⟨by decide, h⟩
  have efm : ∀ l : Tm, (l.filterMap fun t => if farB t = true then none else some (trm t)) = (l.filter fun t => !farB t).map trm := fun l => by
    induction l with
    | nil => rfl
    | cons t l ih =>
      rw [List.filterMap_cons, List.filter_cons]
      cases farB t with
      | true => simpa using ih
      | false => simpa using ih
  rw [List.nil_append, efm]
  have hnear : can (lp p ((can f).filter fun t => !farB t)) = (can f).filter fun t => !farB t := by
    rw [can_lp hp0.1]
    refine canon_self hp0.1 ?_ fun t ht => can_small hp0.1 f t (List.mem_filter.mp ht).1
    exact (can_sorted f).sublist (List.Sublist.map _ List.filter_sublist)
  have hnb : Bd (lp p ((can f).filter fun t => !farB t)) (-2000) 2000 := Bd.lp fun t ht => by
    have := (List.mem_filter.mp ht).2
    unfold farB at this
    simp only [Bool.not_eq_true', decide_eq_false_iff_not] at this
    split at this <;> omega
  have hsplit := lp_split (p := p) farB (can f)
  rw [lp_can hp0.1] at hsplit
  rw [← hnear]
  generalize lp p ((can f).filter fun t => !farB t) = nf at *
  refine ⟨p, nf, nrm g, (sp g).toNat, rfl, hp, n1, by rw [em]; exact n2, by rw [em]; exact n3, by omega, hnb.mono (by omega) (by omega), fun Q r nd ql e b qs => ?_⟩
  walk_at "d"
  have gdv : Dvr (nrm g) (sp g).toNat := ⟨n1, by rw [em]; exact n2, by rw [em]; exact n3⟩
  have hfar : ((can f).filter farB).length * ((sp g).toNat + 1) < 1000000 := by
    rcases hf with hf | hf
    · have : (can f).filter farB = [] := by
        rw [List.filter_eq_nil_iff]
        intro t ht
        have := hf.mem hp0.1 t ht
        unfold farB
        simp only [decide_eq_true_eq]
        split <;> omega
      rw [this]; simp
    · have h1 : ((can f).filter farB).length ≤ nt f := List.length_filter_le _ _
      have h2 : ((nt f * ((sp g).toNat + 1) : Nat) : Int) < 1000000 := by push_cast; rw [em]; exact hf
      have h3 := Nat.mul_le_mul_right ((sp g).toNat + 1) h1
      omega
  rw [enum_dgT]
  refine forD_pre (can f) (fun pre ρ n' => ∃ (ts : Tm) (rr : LP p) (y4 y5 y7 y8 y9 : Option Sl), n' = n ∧ lp p ts = rr ∧ Bd rr 0 (sp g - 1) ∧ Dv (nrm g) (nf + lp p (pre.filter farB) - rr) ∧ ts.length ≤ (sp g).toNat + (pre.filter farB).length * (sp g).toNat ∧ ρ = [some (.val (fo f)), some (.val (fo g)), some (.val (.lst ((dg (nrm g) ((sp g).toNat + 1)).map D.int))), some (.val (.lst ((can nf).map trm))), y4, y5, some (.val (.lst (ts.map trm))), y7, y8, y9]) (fun pre t post e ρ n' R hI hR => ?_) (fun ρ n' hI => ?_) ⟨_, r, none, none, none, none, none, rfl, lp_dg b, by rw [← em]; exact b, ?_, ?_, rfl⟩
  · obtain ⟨ts, rr, y4, y5, y7, y8, y9, rfl, hts, rb, rd, tl', rfl⟩ := hI
    walk_at "d"
    by_cases hab : 2000 < (if t.1 < 0 then -t.1 else t.1)
    · simp only [hab, decide_true, if_true]
      have ft : farB t = true := by unfold farB; simp only [hab, decide_true]
      have epre : (pre ++ [t]).filter farB = pre.filter farB ++ [t] := by rw [List.filter_append, List.filter_cons, if_pos ft]; rfl
      have hlt : (pre.filter farB).length + 1 ≤ ((can f).filter farB).length := by
        rw [e, List.filter_append, List.filter_cons, if_pos ft, List.length_append, List.length_cons]; omega
      have hmul := Nat.mul_le_mul_right (sp g).toNat hlt
      have hmul2 : ((can f).filter farB).length * (sp g).toNat ≤ ((can f).filter farB).length * ((sp g).toNat + 1) := Nat.mul_le_mul_left _ (by omega)
      have htr := can_small hp0.1 f t (by rw [e]; simp)
      refine ⟨p, nrm g, (sp g).toNat, t.1, rfl, hp, gdv, by omega, fun u ud ub => ?_⟩
      walk_at "d"
      rw [enum_dgT]
      refine lcD_all trm (fun z => trm (z.1, t.2 * z.2)) _ _ (fun z hz K h => ?_) (by rw [List.length_map, List.length_range]; omega) ?_
      · walk_at "d"
        exact ⟨.inl (.inl ⟨by omega, by omega⟩), by decide, h⟩
      rw [mapTrm (fun z => (z.1, t.2 * z.2)), ← List.map_append]
      rw [Nat.add_mul] at hmul
      have etl : (ts ++ ((List.range (sp g).toNat).map fun (i : Nat) => ((i : Int), cf u (i : Int))).map fun z => (z.1, t.2 * z.2)).length = ts.length + (sp g).toNat := by
        rw [List.length_append, List.length_map, List.length_map, List.length_range]
      refine ⟨by rw [List.length_map, List.length_map, List.length_map, List.length_range]; omega, hR _ _ ⟨_, rr + mono p 0 t.2 * u, _, _, _, _, _, rfl, ?_, ?_, ?_, ?_, rfl⟩⟩
      · rw [← lp_add, hts]
        have := lp_scaleT (p := p) 0 t.2 ((List.range (sp g).toNat).map fun (i : Nat) => ((i : Int), cf u (i : Int)))
        simp only [Int.sub_zero] at this
        rw [this, lp_dg ub, Int.neg_zero]
      · refine Bd.add rb ?_
        have := ub.mono_mul 0 t.2
        rw [em] at this
        exact this.mono (by omega) (by omega)
      · rw [epre, ← lp_add]
        have : lp p [t] = mono p t.1 t.2 := rfl
        rw [this]
        have e2 : mono p t.1 t.2 = mono p 0 t.2 * mono p t.1 1 := by rw [mono_mul, Int.mul_one, Int.zero_add]
        rw [e2]
        have : nf + (lp p (pre.filter farB) + mono p 0 t.2 * mono p t.1 1) - (rr + mono p 0 t.2 * u) = (nf + lp p (pre.filter farB) - rr) + mono p 0 t.2 * (mono p t.1 1 - u) := by grind
        rw [this]
        exact rd.add (ud.mul _)
      · rw [etl, epre, List.length_append, List.length_singleton, Nat.add_mul]
        omega
    · simp only [hab, decide_false, Bool.false_eq_true, if_false]
      have ft : farB t = false := by unfold farB; simp only [hab, decide_false]
      have epre : (pre ++ [t]).filter farB = pre.filter farB := by rw [List.filter_append, List.filter_cons, ft]; simp
      refine hR _ _ ⟨ts, rr, _, _, _, _, _, rfl, hts, rb, by rw [epre]; exact rd, by rw [epre]; exact tl', rfl⟩
  · obtain ⟨ts, rr, y4, y5, y7, y8, y9, rfl, hts, rb, rd, tl', rfl⟩ := hI
    have hmul2 : ((can f).filter farB).length * (sp g).toNat ≤ ((can f).filter farB).length * ((sp g).toNat + 1) := Nat.mul_le_mul_left _ (by omega)
    walk_at "d"
    refine ⟨p, _, _, rfl, rfl, hp, by omega, ?_⟩
    rw [can_of hp0.1 hts]
    rw [← hsplit] at rd
    obtain ⟨c, ec⟩ := rd
    refine hq rr (IsMod.nrm hp hg ⟨⟨c, by rw [← ec]; grind⟩, ?_⟩)
    rw [sp_nrm hp hg]
    exact rb
  · rw [List.filter_nil, ← lp_zero, e]
    exact ⟨lp p Q, by grind⟩
  · rw [List.length_map, List.length_range, List.filter_nil]; simp
end

end My

namespace My
open PySem PySem.Spec L2 DL
theorem sc__law_held : FnScope ["_law_prime_here", "_law_terms", "_law_sums", "_law_found", "_law_offset", "_law_coefficient", "_law_k"] ["_law_prime_here", "_law_terms"] (defScope (top 28)) := ⟨rfl, rfl, rfl, by decide +kernel, rfl, by decide +kernel, by decide +kernel⟩
section
variable {P : Program} {w : World} {K : PySem.W.Frag} {mg : Str → Option Value} {base : Heap}
theorem held_loop {E : DEnds} {L : Nat} (hL : L = 2) {p : Int} (hp : 0 < p) (o t : Option Sl) (ts : Tm) : ∀ (m : Tm) (x y : Option Sl) (n : Nat), m.length + ts.length < 2000000 → (∀ x y, E.nx [some (.val (.int p)), o, some (.own (.dct ((ts.foldl (hstep p) m).map kvp))), t, x, y, none] n) →
    forD (gTn L (gsC (gN 4) (gsC (gN 5) gs0))) (dPut 2 (bVar 4) (dOp fMod (dCB fInt (dCons (dOp fAdd (dGet2 (bVar 2) (bVar 4) (dC (.int 0))) (bVar 5)) dNil)) (bVar 0))) (ts.map trm) E [some (.val (.int p)), o, some (.own (.dct (m.map kvp))), t, x, y, none] n := by
  subst hL
  induction ts with
  | nil => intro m x y n _ h; exact h x y
  | cons a ts ih =>
    intro m x y n hl h
    rw [List.map_cons, forD_cons]
    walk_at "d"
    rw [List.length_cons] at hl
    refine ⟨hp, by omega, ?_⟩
    refine ih _ _ _ _ ?_ h
    have := putI_length m a.1 ((getI m a.1 + a.2) % p)
    omega
theorem held_loop2 {E : DEnds} (S : Tm) (o p : Option Sl) (ks : List Int) : ∀ (m : Tm) (x y : Option Sl) (n : Nat), m.length + ks.length < 2000000 → (m.map (·.1) ++ ks).Nodup → (∀ k ∈ ks, k ∈ S.map (·.1)) → (∀ x, E.nx [p, o, some (.val (.dct (S.map kvp))), some (.own (.dct ((m ++ (ks.filter fun k => decide (0 < getI S k)).map fun k => (k, getI S k)).map kvp))), x, y, none] n) →
    forD (gN 4) (dIfS (dTest (dOp fGt (dOp fDg (bVar 2) (bVar 4)) (dC (.int 0)))) (dPut 3 (bVar 4) (dOp fDg (bVar 2) (bVar 4))) dNext) (ks.map D.int) E [p, o, some (.val (.dct (S.map kvp))), some (.own (.dct (m.map kvp))), x, y, none] n := by
  induction ks with
  | nil => intro m x y n _ _ _ h; have z := h x; rw [List.filter_nil, List.map_nil, List.append_nil] at z; exact z
  | cons k ks ih =>
    intro m x y n hl hn hk h
    rw [List.map_cons, forD_cons]
    walk_at "d"
    rw [get_kvp' (hk k (List.mem_cons_self ..))]
    walk_at "d"
    rw [List.length_cons] at hl
    have nk : k ∉ m.map (·.1) := fun z => by
      rw [List.nodup_append] at hn
      exact hn.2.2 k z k (List.mem_cons_self ..) rfl
    rw [List.filter_cons] at h
    by_cases c : 0 < getI S k
    · simp only [c, decide_true, if_true] at h ⊢
      refine ⟨by omega, ?_⟩
      rw [putI_new _ nk]
      refine ih _ _ _ _ (by rw [List.length_append, List.length_singleton]; omega) ?_ (fun j hj => hk j (List.mem_cons_of_mem _ hj)) ?_
      · rw [List.map_append, List.append_assoc]; exact hn
      · rw [List.append_assoc]; exact h
    · simp only [c, decide_false] at h ⊢
      refine ih _ _ _ _ (by omega) ?_ (fun j hj => hk j (List.mem_cons_of_mem _ hj)) h
      exact List.Nodup.sublist (List.Sublist.append (List.Sublist.refl _) (List.sublist_cons_self ..)) hn
theorem ok__law_held (T : Top K mg) : SgF P w K mg base "_law_held" 1 2 F__law_held [] := by
  obtain ⟨fd, FD⟩ := T.d__law_held
  refine ⟨_, fd, ["_law_prime_here", "_law_terms"], [], [], ?_, T.g__law_held, FD.kp, FD.bindsN (fun _ _ _ _ _ _ us hl => match us, hl with | [_, _], _ => rfl), .nil, fun _ => .nil⟩
  refine ok_defF FD sc__law_held rfl ?_
  rintro X E W ds n q xx ⟨cdv, A, outer, s, H, rfl⟩ hr tk pso hl hF
  have hu := hr.units
  have hu1 := hu_of hr
  refine ⟨_, (pss_consD (ps_par2 2 3 rfl sc__law_held.nd (PF.sl pf_dct0) (PF.sl pf_dct0))
      (pss_consD (ps_forD pso rfl (pid_seq (pd_var 1)) (pgd_tup (m := 2) rfl (pgsd_cons (pgd_name 4 sc__law_held.nd) (pgsd_cons (pgd_name 5 sc__law_held.nd) pgsd_nil))) (pss_oneD (ps_putD 2 hu1 (pb_var 4) (pd_mod (PD.pb (pd_callTy call_int1 dcall_int (by rfl) T.f_int (by decide +kernel) (pab_cons (PD.pb (pd_add (PD.pb (pd_get2 hu1 (pb_var 2) (pb_var 4) pd_int)) (pb_var 5))) pab_nil))) (pb_var 0)))))
      (pss_frz 2 (pss_consD (ps_forD pso rfl (pid_seq (pd_callB cr_sortedI dcall_sorted (by rfl) T.f_sorted (by decide +kernel) (pab_cons (PD.pb (PF.pd (pf_lc [("_law_k", 6)] rfl sc__law_held.nd (pid_keys (pd_var 2)) (blkOk_by (own := [("_law_k", 6)]) (N := ["_law_prime_here", "_law_terms", "_law_sums", "_law_found", "_law_offset", "_law_coefficient", "_law_k"]) (sc := defScope (top 28)) (by decide +kernel)) (fun _ _ _ _ _ => (pgd_name 6 sc__law_held.nd)) (fun _ _ _ _ _ => ptsD_nil) (fun _ _ _ _ _ => (pd_callTy call_int1 dcall_int (by rfl) T.f_int (by decide +kernel) (pab_cons (pb_var 6) pab_nil)))))) pab_nil))) (pgd_name 4 sc__law_held.nd) (pss_oneD (ps_ifD (pt_gt (PD.pb (pd_dg hu1 (pb_var 2) (pb_var 4))) (PD.pb pd_int)) (pss_oneD (ps_putD 3 hu1 (pb_var 4) (pd_dg hu1 (pb_var 2) (pb_var 4)))) pss_nilD)))
      (pss_oneD (ps_retOD 3)))))), ?_⟩
  clear hr tk pso hl hu hu1
  obtain ⟨p, ts, rfl, hp, hl2, hq⟩ := hF
  walk_at "d"
  refine held_loop rfl hp _ _ ts [] _ _ n (by rw [List.length_nil]; omega) fun x y => ?_
  walk_at "d"
  have eh : List.foldl (hstep p) [] ts = hsum p ts := rfl
  rw [eh]
  have hlen := hsum_length p ts
  refine lcD_map some _ _ _ (fun d hd K h => ?_) (by simp; omega) ?_
  · obtain ⟨k, _, rfl⟩ := List.mem_map.mp hd
    walk_at "d"
    exact h
  rw [fm_some, List.nil_append, intsD_map]
  intro ms hperm hsort
  obtain rfl := srt_of hperm hsort
  refine held_loop2 (hsum p ts) _ _ _ [] _ _ n ?_ ?_ (fun k hk => hsum_key hk) fun x => ?_
  · rw [List.length_nil, (srt_perm _).length_eq, List.length_map]; omega
  · exact (srt_perm _).symm.nodup (hsum_nodup p ts)
  · walk_at "d"
    exact hq
end

end My

namespace My
open PySem PySem.Spec L2 DL
theorem sc__law_drawn : FnScope ["_law_spring_here", "_law_prime_here", "_law_most", "_law_reach", "_law_terms", "_law_k", "_law_offset"] ["_law_spring_here", "_law_prime_here", "_law_most", "_law_reach"] (defScope (top 32)) := ⟨rfl, rfl, rfl, by decide +kernel, rfl, by decide +kernel, by decide +kernel⟩
section
variable {P : Program} {w : World} {K : PySem.W.Frag} {mg : Str → Option Value} {base : Heap}
theorem drawn_loop {E : DEnds} {s0 : Addr} (hW : ∃ c, E.w = sprW s0 c) {p : Int} (hp : isPr p = true) (o : Option Sl) (reach : Nat) (hr : reach < 1000) : ∀ (ds : List D) (acc : Tm) (x y : Option Sl) (n : Nat), n + 2 * ds.length < 1000000 → acc.length + ds.length < 2000 → (∀ t ∈ acc, -(reach : Int) ≤ t.1 ∧ t.1 ≤ reach) → (∀ (ts : Tm) x y, ts.length = acc.length + ds.length → (∀ t ∈ ts, -(reach : Int) ≤ t.1 ∧ t.1 ≤ reach) → E.nx [some (.val (.hnd s0)), some (.val (.int p)), o, some (.val (.int reach)), some (.own (.lst (ts.map trm))), x, y] (n + 2 * ds.length)) →
    forD (gN 5) (dSeq (dSet 6 (dOp fSub (dCall 2 fDraw [] (dCons (dVar 0) (dCons (dOp fAdd (dOp fMul (dC (.int 2)) (bVar 3)) (dC (.int 1))) dNil))) (bVar 3))) (dApp 4 (dTup (dCons (dVar 6) (dCons (dCall 2 fDraw [] (dCons (dVar 0) (dCons (dVar 1) dNil))) dNil))))) ds E [some (.val (.hnd s0)), some (.val (.int p)), o, some (.val (.int reach)), some (.own (.lst (acc.map trm))), x, y] n
  | [], acc, x, y, n, _, _, hb, h => h acc x y rfl hb
  | d :: ds, acc, x, y, n, hn, hl, hb, h => by
    have hp0 := isPr_pos hp
    rw [List.length_cons] at hn hl
    rw [forD_cons]
    walk_at "d"
    refine ⟨.inl (.inl ⟨by decide, by decide⟩), hW, by omega, by omega, by omega, fun k hk => ?_⟩
    walk_at "d"
    refine ⟨hW, by omega, by omega, by omega, fun j hj => ?_⟩
    walk_at "d"
    refine ⟨by decide, by omega, ?_⟩
    have e : acc.map trm ++ [D.tup [.int ((k : Int) - reach), .int j]] = (acc ++ [((k : Int) - reach, (j : Int))]).map trm := by rw [List.map_append]; rfl
    rw [e]
    refine drawn_loop hW hp o reach hr ds _ _ _ _ (by omega) (by rw [List.length_append, List.length_singleton]; omega) (fun t ht => ?_) fun ts x y hts hb' => ?_
    · rcases List.mem_append.mp ht with ht | ht
      · exact hb t ht
      · rw [List.mem_singleton.mp ht]; constructor <;> omega
    rw [List.length_append, List.length_singleton] at hts
    have z := h ts x y (by rw [List.length_cons]; omega) hb'
    rw [List.length_cons, show n + 2 * (ds.length + 1) = n + 1 + 1 + 2 * ds.length by omega] at z
    exact z
theorem ok__law_drawn (T : Top K mg) : SgF P w K mg base "_law_drawn" 2 4 F__law_drawn [] := by
  obtain ⟨fd, FD⟩ := T.d__law_drawn
  refine ⟨_, fd, ["_law_spring_here", "_law_prime_here", "_law_most", "_law_reach"], [], [], ?_, T.g__law_drawn, FD.kp, FD.bindsN (fun _ _ _ _ _ _ us hl => match us, hl with | [_, _, _, _], _ => rfl), .nil, fun _ => .nil⟩
  refine ok_defF FD sc__law_drawn rfl ?_
  rintro X E W ds n q xx ⟨cdv, A, outer, s, H, rfl⟩ hr tk pso hl hF
  have hu := hr.units
  have hu1 := hu_of hr
  refine ⟨_, (pss_consD (ps_ownD 4 (pf_lst pad_nil) sc__law_drawn.nd)
      (pss_consD (ps_forD pso rfl (pid_r1 (by rfl) T.f_range (pab_cons (PD.pb (pd_call (ok__law_draw T) (hr.mono (by decide)) tk (by rfl) (pad_cons (pd_var 0) (pad_cons (pd_add (pb_var 2) (PD.pb pd_int)) pad_nil)))) pab_nil)) (pgd_name 5 sc__law_drawn.nd) (pss_consD (ps_setD 6 (pd_sub (PD.pb (pd_call (ok__law_draw T) (hr.mono (by decide)) tk (by rfl) (pad_cons (pd_var 0) (pad_cons (pd_add (PD.pb (pd_mul (PD.pb pd_int) (pb_var 3))) (PD.pb pd_int)) pad_nil)))) (pb_var 3)) sc__law_drawn.nd)
      (pss_oneD (ps_appD 4 (pd_tup (pad_cons (pd_var 6) (pad_cons (pd_call (ok__law_draw T) (hr.mono (by decide)) tk (by rfl) (pad_cons (pd_var 0) (pad_cons (pd_var 1) pad_nil))) pad_nil)))))))
      (pss_frz 4 (pss_oneD (ps_retFD (pf_call (ok__law_held T) (hr.mono (by decide)) tk (by rfl) (pad_cons (pd_var 1) (pad_cons (pd_var 4) pad_nil)))))))), ?_⟩
  clear hr tk pso hl hu hu1
  obtain ⟨s0, p, most, reach, rfl, hW, hp, hm, hr2, hn, hq⟩ := hF
  have hp0 := isPr_pos hp
  walk_at "d"
  refine ⟨by decide, hW, by omega, by omega, by omega, fun k hk => ?_⟩
  walk_at "d"
  refine ⟨⟨by omega, by omega⟩, ?_⟩
  refine drawn_loop hW hp _ reach hr2 _ [] _ _ _ (by rw [rng_len]; omega) (by rw [rng_len, List.length_nil]; omega) (fun t ht => absurd ht List.not_mem_nil) fun ts x y hts hb => ?_
  rw [rng_len] at hts ⊢
  rw [List.length_nil] at hts
  walk_at "d"
  refine ⟨p, ts, rfl, hp0.1, by omega, ?_⟩
  rw [← can_lp hp0.1]
  have h4 := nt_lp hp0.1 ts
  exact hq (lp p ts) _ (by omega) (.lp hb) (by omega)
end

end My

namespace My
open PySem PySem.Spec L2 DL
theorem sc__law_pick : FnScope ["_law_spring_here", "_law_things"] ["_law_spring_here", "_law_things"] (defScope (top 26)) := ⟨rfl, rfl, rfl, by decide +kernel, rfl, by decide +kernel, by decide +kernel⟩
section
variable {P : Program} {w : World} {K : PySem.W.Frag} {mg : Str → Option Value} {base : Heap}
theorem ok__law_pick (T : Top K mg) : Sg P w K mg base "_law_pick" 2 2 F__law_pick [] := by
  obtain ⟨fd, FD⟩ := T.d__law_pick
  refine ⟨_, fd, ["_law_spring_here", "_law_things"], [], [], ?_, T.g__law_pick, FD.kp, FD.bindsN (fun _ _ _ _ _ _ us hl => match us, hl with | [_, _], _ => rfl), .nil, fun _ => .nil⟩
  refine ok_def FD sc__law_pick rfl ?_
  rintro X E W ds n q xx ⟨cdv, A, outer, s, H, rfl⟩ hr tk pso hl hF
  have hu := hr.units
  have hu1 := hu_of hr
  refine ⟨_, (pss_oneD (ps_retD (pd_ix (pb_var 1) (PD.pb (pd_call (ok__law_draw T) (hr.mono (by decide)) tk (by rfl) (pad_cons (pd_var 0) (pad_cons (pd_callB call_lenD2 dcall_len (by rfl) T.f_len (by decide +kernel) (pab_cons (pb_var 1) pab_nil)) pad_nil))))))), ?_⟩
  clear hr tk pso hl hu hu1
  match ds, hF with
  | [.hnd s, .lst es], hF =>
    obtain ⟨hW, h0, h1, h2, hq⟩ := hF
    walk_at "d"
    refine ⟨hW, by omega, by omega, h2, fun k hk => ?_⟩
    have hk' : k < es.length := by omega
    have e : atI es (k : Int) = some es[k] := atI_nat (List.getElem?_eq_getElem hk')
    show (match atI es (k : Int) with | some d => q d (n + 1) | none => False)
    rw [e]
    exact hq _ (List.getElem_mem hk')
end

end My

namespace My
open PySem PySem.Spec L2 DL
theorem sc__law_far : FnScope ["_law_spring_here", "_law_offset"] ["_law_spring_here"] (defScope (top 40)) := ⟨rfl, rfl, rfl, by decide +kernel, rfl, by decide +kernel, by decide +kernel⟩
section
variable {P : Program} {w : World} {K : PySem.W.Frag} {mg : Str → Option Value} {base : Heap}
theorem ok__law_far (T : Top K mg) : Sg P w K mg base "_law_far" 3 1 F__law_far [] := by
  obtain ⟨fd, FD⟩ := T.d__law_far
  refine ⟨_, fd, ["_law_spring_here"], [], [], ?_, T.g__law_far, FD.kp, FD.bindsN (fun _ _ _ _ _ _ us hl => match us, hl with | [_], _ => rfl), .nil, fun _ => .nil⟩
  refine ok_def FD sc__law_far rfl ?_
  rintro X E W ds n q xx ⟨cdv, A, outer, s, H, rfl⟩ hr tk pso hl hF
  have hu := hr.units
  have hu1 := hu_of hr
  refine ⟨_, (pss_consD (ps_setD 1 (pd_sub (PD.pb (pd_call (ok__law_pick T) (hr.mono (by decide)) tk (by rfl) (pad_cons (pd_var 0) (pad_cons (PF.pd (pf_lst (pad_cons (pd_pow (PD.pb pd_int) (PD.pb pd_int)) (pad_cons (pd_pow (PD.pb pd_int) (PD.pb pd_int)) (pad_cons (pd_pow (PD.pb pd_int) (PD.pb pd_int)) (pad_cons (pd_pow (PD.pb pd_int) (PD.pb pd_int)) pad_nil)))))) pad_nil)))) (PD.pb (pd_call (ok__law_draw T) (hr.mono (by decide)) tk (by rfl) (pad_cons (pd_var 0) (pad_cons (pd_pow (PD.pb pd_int) (PD.pb pd_int)) pad_nil))))) sc__law_far.nd)
      (pss_consD (ps_ifD (pt_eq hu (PD.pb (pd_call (ok__law_draw T) (hr.mono (by decide)) tk (by rfl) (pad_cons (pd_var 0) (pad_cons pd_int pad_nil)))) (PD.pb pd_int)) (pss_oneD (ps_setD 1 (pd_call (ok__law_pick T) (hr.mono (by decide)) tk (by rfl) (pad_cons (pd_var 0) (pad_cons (PF.pd (pf_lst (pad_cons pd_int (pad_cons pd_int (pad_cons pd_int (pad_cons pd_int (pad_cons pd_int (pad_cons pd_int (pad_cons (pd_pow (PD.pb pd_int) (PD.pb pd_int)) (pad_cons (pd_pow (PD.pb pd_int) (PD.pb pd_int)) pad_nil)))))))))) pad_nil))) sc__law_far.nd)) pss_nilD)
      (pss_oneD (ps_retD (pd_call (ok__law_pick T) (hr.mono (by decide)) tk (by rfl) (pad_cons (pd_var 0) (pad_cons (PF.pd (pf_lst (pad_cons (pd_var 1) (pad_cons (pd_sub (PD.pb pd_int) (pb_var 1)) pad_nil)))) pad_nil))))))), ?_⟩
  clear hr tk pso hl hu hu1
  obtain ⟨s0, rfl, hW, hn, hq⟩ := hF
  have fin : ∀ (i : Int) (m : Nat), m ≤ n + 4 → F__law_pick W [.hnd s0, .lst [.int i, .int (0 - i)]] m q (fun e n => xx e n) := fun i m hm => by
    refine ⟨hW, by rw [List.length_cons]; omega, by rw [List.length_cons, List.length_cons, List.length_nil]; omega, by omega, fun d hd => ?_⟩
    simp only [List.mem_cons, List.not_mem_nil, or_false] at hd
    rcases hd with rfl | rfl
    · exact hq _ _ (by omega)
    · exact hq _ _ (by omega)
  walk_at "d"
  refine ⟨by decide, by decide, by decide, by decide, by decide, hW, by decide, by decide, by omega, fun d hd => ?_⟩
  obtain ⟨i, rfl⟩ : ∃ i, d = .int i := by
    simp only [List.mem_cons, List.not_mem_nil, or_false] at hd
    rcases hd with rfl | rfl | rfl | rfl <;> exact ⟨_, rfl⟩
  refine ⟨by decide, hW, by decide, by decide, by omega, fun k hk => ?_⟩
  walk_at "d"
  refine ⟨hW, by decide, by decide, by omega, fun k2 hk2 => ?_⟩
  walk_at "d"
  rw [show (pyD (.int (k2 : Int))).eqv (pyD (.int 0)) = decide ((k2 : Int) = 0) from eqv_int _ _]
  by_cases e : (k2 : Int) = 0
  · simp only [e, decide_true, if_true]
    refine ⟨by decide, by decide, by decide, hW, by decide, by decide, by omega, fun d hd => ?_⟩
    obtain ⟨i, rfl⟩ : ∃ i, d = .int i := by
      simp only [List.mem_cons, List.not_mem_nil, or_false] at hd
      rcases hd with rfl | rfl | rfl | rfl | rfl | rfl | rfl | rfl <;> exact ⟨_, rfl⟩
    walk_at "d"
    exact ⟨by decide, fin i _ (by omega)⟩
  · simp only [e, decide_false, Bool.false_eq_true, if_false]
    exact ⟨by decide, fin _ _ (by omega)⟩
end

end My

namespace My
open PySem PySem.Spec L2 DL
theorem sc_Filter_terms : FnScope ["self"] ["self"] (defScope (inClass (top 22) 7)) := ⟨rfl, rfl, rfl, by decide +kernel, rfl, by decide +kernel, by decide +kernel⟩
section
variable {P : Program} {w : World} {K : PySem.W.Frag} {mg : Str → Option Value} {base : Heap}
theorem ok_Filter_terms (T : Top K mg) : Mg P w K mg base "Filter" "terms" 1 1 F_Filter_terms [] := by
  obtain ⟨fd, FD⟩ := T.d_Filter_terms
  refine ⟨T.cl_Filter, _, fd, ["self"], [], [], ?_, T.m_Filter_terms, FD.bindsN (fun _ _ _ _ _ _ us hl => match us, hl with | [_], _ => rfl), .nil, fun _ => .nil⟩
  refine ok_def FD sc_Filter_terms rfl ?_
  rintro X E W ds n q xx ⟨cdv, A, outer, s, H, rfl⟩ hr tk pso hl hF
  have hu := hr.units
  have hu1 := hu_of hr
  refine ⟨_, (pss_oneD (ps_retD (PF.pd (pf_list (by rfl) T.f_list (pab_cons (PD.pb (pd_fld ["Filter"] T.fld_Filter_kept (pb_var 0))) pab_nil))))), ?_⟩
  clear hr tk pso hl hu hu1
  obtain ⟨p, ts, rfl, hq⟩ := hF
  walk_at "d"
  exact hq
end

end My

namespace My
open PySem PySem.Spec L2 DL
theorem sc__law_pairs : FnScope ["_law_held_here", "_law_offset"] ["_law_held_here"] (defScope (top 29)) := ⟨rfl, rfl, rfl, by decide +kernel, rfl, by decide +kernel, by decide +kernel⟩
section
variable {P : Program} {w : World} {K : PySem.W.Frag} {mg : Str → Option Value} {base : Heap}
theorem ok__law_pairs (T : Top K mg) : Sg P w K mg base "_law_pairs" 1 1 F__law_pairs [] := by
  obtain ⟨fd, FD⟩ := T.d__law_pairs
  refine ⟨_, fd, ["_law_held_here"], [], [], ?_, T.g__law_pairs, FD.kp, FD.bindsN (fun _ _ _ _ _ _ us hl => match us, hl with | [_], _ => rfl), .nil, fun _ => .nil⟩
  refine ok_def FD sc__law_pairs rfl ?_
  rintro X E W ds n q xx ⟨cdv, A, outer, s, H, rfl⟩ hr tk pso hl hF
  have hu := hr.units
  have hu1 := hu_of hr
  refine ⟨_, (pss_oneD (ps_retD (PF.pd (pf_lc [("_law_offset", 1)] rfl sc__law_pairs.nd (pid_keys (pd_var 0)) (blkOk_by (own := [("_law_offset", 1)]) (N := ["_law_held_here", "_law_offset"]) (sc := defScope (top 29)) (by decide +kernel)) (fun _ _ _ _ _ => (pgd_name 1 sc__law_pairs.nd)) (fun _ _ _ _ _ => ptsD_nil) (fun _ _ _ _ _ => (pd_tup (pad_cons (pd_var 1) (pad_cons (pd_dg hu1 (pb_var 0) (pb_var 1)) pad_nil)))))))), ?_⟩
  clear hr tk pso hl hu hu1
  obtain ⟨ts, rfl, hn, hl2, hq⟩ := hF
  walk_at "d"
  refine lcD_map (pairF ts) _ _ _ (fun d hd K h => ?_) (by simp; omega) ?_
  · obtain ⟨k, hk, rfl⟩ := List.mem_map.mp hd
    walk_at "d"
    rw [get_kvp' hk]
    exact ⟨by decide, h⟩
  · rw [List.nil_append, pairF_eq hn]
    exact hq
end

end My

namespace My
open PySem PySem.Spec L2 DL
theorem sc__law_same : FnScope ["_law_found", "_law_due", "_law_x", "_law_y"] ["_law_found", "_law_due"] (defScope (top 27)) := ⟨rfl, rfl, rfl, by decide +kernel, rfl, by decide +kernel, by decide +kernel⟩
section
variable {P : Program} {w : World} {K : PySem.W.Frag} {mg : Str → Option Value} {base : Heap}
theorem ok__law_same (T : Top K mg) : ∀ k, Sg P w K mg base "_law_same" (k + 1) 2 (F__law_same k) []
  | 0 => by
    obtain ⟨fd, FD⟩ := T.d__law_same
    refine ⟨_, fd, ["_law_found", "_law_due"], [], [], ?_, T.g__law_same, FD.kp, FD.bindsN (fun _ _ _ _ _ _ us hl => match us, hl with | [_, _], _ => rfl), .nil, fun _ => .nil⟩
    refine ok_def FD sc__law_same rfl ?_
    rintro X E W ds n q xx ⟨cdv, A, outer, s, H, rfl⟩ hr tk pso hl hF
    have hu := hr.units
    have hu1 := hu_of hr
    refine ⟨_, (pss_consD (ps_ifD (pt_valD (PD.pb (pd_isiT T.tyf (T.kt_list_tuple) (by rfl) T.f_isinstance (pa_cons (pe_bltn (v := .ty "list") (by rfl) T.f_list (by decide +kernel) rfl) (pa_cons (pe_bltn (v := .ty "tuple") (by rfl) T.f_tuple (by decide +kernel) rfl) pa_nil)) (fun _ _ _ h => h) (.cons (.ty "list") (.cons (.ty "tuple") .nil)) (by decide) (pb_var 1)))) (pss_consD (ps_ifD (PWD.pt (pwd_or (pt_ne hu (PD.pb (pd_isiB T.tyf (T.kb_list) (by rfl) T.f_isinstance (by rfl) T.f_list (by decide +kernel) (pb_var 0))) (PD.pb (pd_isiB T.tyf (T.kb_list) (by rfl) T.f_isinstance (by rfl) T.f_list (by decide +kernel) (pb_var 1)))) (pwd_or1 (pt_ne hu (PD.pb (pd_isiB T.tyf (T.kb_tuple) (by rfl) T.f_isinstance (by rfl) T.f_tuple (by decide +kernel) (pb_var 0))) (PD.pb (pd_isiB T.tyf (T.kb_tuple) (by rfl) T.f_isinstance (by rfl) T.f_tuple (by decide +kernel) (pb_var 1))))))) (pss_oneD (ps_retD pd_bl)) pss_nilD)
      (pss_oneD (ps_retD (pd_and (pd_eq hu (PD.pb (pd_callB call_lenD2 dcall_len (by rfl) T.f_len (by decide +kernel) (pab_cons (pb_var 0) pab_nil))) (PD.pb (pd_callB call_lenD2 dcall_len (by rfl) T.f_len (by decide +kernel) (pab_cons (pb_var 1) pab_nil)))) (pd_one (pd_callB (cr_all rfl) dcall_all (by rfl) T.f_all (by decide +kernel) (pab_cons (PD.pb (PF.pd (pf_lc [("_law_x", 2), ("_law_y", 3)] rfl sc__law_same.nd (pid_zipK (by rfl) T.f_zip (pad_cons (pd_var 0) (pad_cons (pd_var 1) pad_nil))) (blkOk_by (own := [("_law_x", 2), ("_law_y", 3)]) (N := ["_law_found", "_law_due", "_law_x", "_law_y"]) (sc := defScope (top 27)) (by decide +kernel)) (fun _ _ _ _ _ => (pgd_tup (m := 2) rfl (pgsd_cons (pgd_name 2 sc__law_same.nd) (pgsd_cons (pgd_name 3 sc__law_same.nd) pgsd_nil)))) (fun _ _ _ _ _ => ptsD_nil) (fun _ _ _ _ _ => pd_never)))) pab_nil))))))) pss_nilD)
      (pss_consD (ps_ifD (pt_valD (PD.pb (pd_isiB T.tyf (T.kb_int) (by rfl) T.f_isinstance (by rfl) T.f_int (by decide +kernel) (pb_var 1)))) (pss_oneD (ps_retD (pd_and (pd_isiB T.tyf (T.kb_int) (by rfl) T.f_isinstance (by rfl) T.f_int (by decide +kernel) (pb_var 0)) (pd_and (pd_eq hu (PD.pb (pd_isiB T.tyf (T.kb_bool) (by rfl) T.f_isinstance (by rfl) T.f_bool (by decide +kernel) (pb_var 0))) (PD.pb (pd_isiB T.tyf (T.kb_bool) (by rfl) T.f_isinstance (by rfl) T.f_bool (by decide +kernel) (pb_var 1)))) (pd_one (pd_eq hu (pb_var 0) (pb_var 1))))))) pss_nilD)
      (pss_oneD (ps_retD (pd_and pd_never (pd_one (pd_eq hu (pb_var 0) (pb_var 1)))))))), ?_⟩
    obtain ⟨d, rfl, hp, hq⟩ := hF
    cases d with
    | int i =>
      walk_at "d"
      exact hq
    | bl b =>
      walk_at "d"
      exact hq
    | _ => exact hp.elim
  | k + 1 => by
    obtain ⟨fd, FD⟩ := T.d__law_same
    refine ⟨_, fd, ["_law_found", "_law_due"], [], [], ?_, T.g__law_same, FD.kp, FD.bindsN (fun _ _ _ _ _ _ us hl => match us, hl with | [_, _], _ => rfl), .nil, fun _ => .nil⟩
    refine ok_def FD sc__law_same rfl ?_
    rintro X E W ds n q xx ⟨cdv, A, outer, s, H, rfl⟩ hr tk pso hl hF
    have hu := hr.units
    have hu1 := hu_of hr
    refine ⟨_, (pss_consD (ps_ifD (pt_valD (PD.pb (pd_isiT T.tyf (T.kt_list_tuple) (by rfl) T.f_isinstance (pa_cons (pe_bltn (v := .ty "list") (by rfl) T.f_list (by decide +kernel) rfl) (pa_cons (pe_bltn (v := .ty "tuple") (by rfl) T.f_tuple (by decide +kernel) rfl) pa_nil)) (fun _ _ _ h => h) (.cons (.ty "list") (.cons (.ty "tuple") .nil)) (by decide) (pb_var 1)))) (pss_consD (ps_ifD (PWD.pt (pwd_or (pt_ne hu (PD.pb (pd_isiB T.tyf (T.kb_list) (by rfl) T.f_isinstance (by rfl) T.f_list (by decide +kernel) (pb_var 0))) (PD.pb (pd_isiB T.tyf (T.kb_list) (by rfl) T.f_isinstance (by rfl) T.f_list (by decide +kernel) (pb_var 1)))) (pwd_or1 (pt_ne hu (PD.pb (pd_isiB T.tyf (T.kb_tuple) (by rfl) T.f_isinstance (by rfl) T.f_tuple (by decide +kernel) (pb_var 0))) (PD.pb (pd_isiB T.tyf (T.kb_tuple) (by rfl) T.f_isinstance (by rfl) T.f_tuple (by decide +kernel) (pb_var 1))))))) (pss_oneD (ps_retD pd_bl)) pss_nilD)
      (pss_oneD (ps_retD (pd_and (pd_eq hu (PD.pb (pd_callB call_lenD2 dcall_len (by rfl) T.f_len (by decide +kernel) (pab_cons (pb_var 0) pab_nil))) (PD.pb (pd_callB call_lenD2 dcall_len (by rfl) T.f_len (by decide +kernel) (pab_cons (pb_var 1) pab_nil)))) (pd_one (pd_callB (cr_all rfl) dcall_all (by rfl) T.f_all (by decide +kernel) (pab_cons (PD.pb (PF.pd (pf_lc [("_law_x", 2), ("_law_y", 3)] rfl sc__law_same.nd (pid_zipK (by rfl) T.f_zip (pad_cons (pd_var 0) (pad_cons (pd_var 1) pad_nil))) (blkOk_by (own := [("_law_x", 2), ("_law_y", 3)]) (N := ["_law_found", "_law_due", "_law_x", "_law_y"]) (sc := defScope (top 27)) (by decide +kernel)) (fun _ _ _ _ _ => (pgd_tup (m := 2) rfl (pgsd_cons (pgd_name 2 sc__law_same.nd) (pgsd_cons (pgd_name 3 sc__law_same.nd) pgsd_nil)))) (fun _ _ _ _ _ => ptsD_nil) (fun _ _ _ _ _ => (pd_call (ok__law_same T k) hr DL.takes0 (by rfl) (pad_cons (pd_var 2) (pad_cons (pd_var 3) pad_nil))))))) pab_nil))))))) pss_nilD)
      (pss_consD (ps_ifD (pt_valD (PD.pb (pd_isiB T.tyf (T.kb_int) (by rfl) T.f_isinstance (by rfl) T.f_int (by decide +kernel) (pb_var 1)))) (pss_oneD (ps_retD (pd_and (pd_isiB T.tyf (T.kb_int) (by rfl) T.f_isinstance (by rfl) T.f_int (by decide +kernel) (pb_var 0)) (pd_and (pd_eq hu (PD.pb (pd_isiB T.tyf (T.kb_bool) (by rfl) T.f_isinstance (by rfl) T.f_bool (by decide +kernel) (pb_var 0))) (PD.pb (pd_isiB T.tyf (T.kb_bool) (by rfl) T.f_isinstance (by rfl) T.f_bool (by decide +kernel) (pb_var 1)))) (pd_one (pd_eq hu (pb_var 0) (pb_var 1))))))) pss_nilD)
      (pss_oneD (ps_retD (pd_and pd_never (pd_one (pd_eq hu (pb_var 0) (pb_var 1)))))))), ?_⟩
    obtain ⟨d, rfl, hp, hq⟩ := hF
    cases d with
    | lst es =>
      walk_at "d"
      rw [zip_self]
      refine lcD_map yesF _ _ _ (fun d hd K h => ?_) (by rw [List.length_map, List.length_nil]; have := hp.1; omega) ?_
      · obtain ⟨x, hx, rfl⟩ := List.mem_map.mp hd
        walk_at "d"
        exact ⟨x, rfl, hp.2 x hx, h⟩
      · rw [List.nil_append, bools_yes]
        simp only [all_yes]
        exact hq
    | tup es =>
      walk_at "d"
      rw [zip_self]
      refine lcD_map yesF _ _ _ (fun d hd K h => ?_) (by rw [List.length_map, List.length_nil]; have := hp.1; omega) ?_
      · obtain ⟨x, hx, rfl⟩ := List.mem_map.mp hd
        walk_at "d"
        exact ⟨x, rfl, hp.2 x hx, h⟩
      · rw [List.nil_append, bools_yes]
        simp only [all_yes]
        exact hq
    | int i =>
      walk_at "d"
      exact hq
    | bl b =>
      walk_at "d"
      exact hq
    | _ => exact hp.elim
theorem ok__law_same3 (T : Top K mg) : Sg P w K mg base "_law_same" 4 2 F__law_same3 [] := ok__law_same T 3
end

end My

namespace My
open PySem PySem.Spec L2 DL
theorem sc__law_is : FnScope ["_law_f", "_law_prime_here", "_law_held_here"] ["_law_f", "_law_prime_here", "_law_held_here"] (defScope (top 35)) := ⟨rfl, rfl, rfl, by decide +kernel, rfl, by decide +kernel, by decide +kernel⟩
section
variable {P : Program} {w : World} {K : PySem.W.Frag} {mg : Str → Option Value} {base : Heap}
theorem ok__law_is (T : Top K mg) : Sg P w K mg base "_law_is" 5 3 F__law_is [] := by
  obtain ⟨fd, FD⟩ := T.d__law_is
  refine ⟨_, fd, ["_law_f", "_law_prime_here", "_law_held_here"], [], [], ?_, T.g__law_is, FD.kp, FD.bindsN (fun _ _ _ _ _ _ us hl => match us, hl with | [_, _, _], _ => rfl), .nil, fun _ => .nil⟩
  refine ok_def FD sc__law_is rfl ?_
  rintro X E W ds n q xx ⟨cdv, A, outer, s, H, rfl⟩ hr tk pso hl hF
  have hu := hr.units
  have hu1 := hu_of hr
  refine ⟨_, (pss_oneD (ps_retD (pd_and (pd_isiO T.tyf (T.ko_Filter) (by rfl) T.f_isinstance (by rfl) T.g_Filter (pb_var 0)) (pd_one (pd_call (ok__law_same3 T) (hr.mono (by decide)) tk (by rfl) (pad_cons (PF.pd (pf_lst (pad_cons (pd_fld ["Filter"] T.fld_Filter_prime (pb_var 0)) (pad_cons (pd_meth0 (ok_Filter_terms T) (hr.mono (by decide)) tk (pd_var 0)) pad_nil)))) (pad_cons (PF.pd (pf_lst (pad_cons (pd_var 1) (pad_cons (pd_call (ok__law_pairs T) (hr.mono (by decide)) tk (by rfl) (pad_cons (pd_var 2) pad_nil)) pad_nil)))) pad_nil))))))), ?_⟩
  clear hr tk pso hl hu hu1
  obtain ⟨p, x, rfl, hp, hl2, hq⟩ := hF
  have hl3 : (can x).length < 1000000 := hl2
  walk_at "d"
  refine ⟨p, can x, rfl, by decide, can x, rfl, can_nodup x, hl3, by decide, _, rfl, ?_, hq⟩
  refine ⟨by show 2 < 10000000; decide, fun d hd => ?_⟩
  rcases List.mem_cons.mp hd with rfl | hd
  · exact trivial
  · rcases List.mem_cons.mp hd with rfl | hd
    · refine ⟨by rw [List.length_map]; omega, fun d hd => ?_⟩
      obtain ⟨t, _, rfl⟩ := List.mem_map.mp hd
      refine ⟨by show 2 < 10000000; decide, fun d hd => ?_⟩
      rcases List.mem_cons.mp hd with rfl | hd
      · exact trivial
      · rcases List.mem_cons.mp hd with rfl | hd
        · exact trivial
        · exact absurd hd List.not_mem_nil
    · exact absurd hd List.not_mem_nil
end

end My

namespace My
open PySem PySem.Spec L2 DL
theorem sc__law_far_right : FnScope ["_law_spring_here", "_law_p", "_law_size", "_law_low", "_law_c", "_law_h", "_law_rows", "_law_k", "_law_due", "_law_offset", "_law_coefficient"] ["_law_spring_here", "_law_p"] (defScope (top 41)) := ⟨rfl, rfl, rfl, by decide +kernel, rfl, by decide +kernel, by decide +kernel⟩
section
variable {P : Program} {w : World} {K : PySem.W.Frag} {mg : Str → Option Value} {base : Heap}
theorem geo {p s : Int} : ∀ n : Nat, Dv (mono p s 1 - 1) (mono p (s * n) 1 - 1)
  | 0 => by rw [Int.natCast_zero, Int.mul_zero, mono_one, show (1 : LP p) - 1 = 0 by grind]; exact .zero _
  | n + 1 => by
    have e : mono p (s * ((n + 1 : Nat) : Int)) 1 - 1 = mono p s 1 * (mono p (s * n) 1 - 1) + (mono p s 1 - 1) := by
      have : mono p (s * ((n + 1 : Nat) : Int)) 1 = mono p s 1 * mono p (s * n) 1 := by
        rw [mono_mul, Int.mul_one]
        congr 1
        push_cast
        rw [Int.mul_add, Int.mul_one, Int.add_comm]
      rw [this]; grind
    rw [e]
    exact ((geo n).mul _).add (.refl _)
theorem geoZ {p s : Int} (k : Int) : Dv (mono p s 1 - 1) (mono p (s * k) 1 - 1) := by
  by_cases h : 0 ≤ k
  · have := geo (p := p) (s := s) k.toNat
    rwa [Int.toNat_of_nonneg h] at this
  · have := geo (p := p) (s := s) (-k).toNat
    rw [Int.toNat_of_nonneg (by omega)] at this
    have e : mono p (s * k) 1 - 1 = -(mono p (s * k) 1 * (mono p (s * -k) 1 - 1)) := by
      have : mono p (s * k) 1 * mono p (s * -k) 1 = 1 := by
        rw [mono_mul, Int.mul_one, ← Int.mul_add, show k + -k = 0 by omega, Int.mul_zero]; exact mono_one
      grind
    rw [e]
    exact (this.mul _).neg
theorem near_dv {p s : Int} (k c : Int) : Dv (mono p s 1 - 1) (mono p k c - mono p (k % s) c) := by
  have e : mono p k c - mono p (k % s) c = mono p (k % s) c * (mono p (s * (k / s)) 1 - 1) := by
    have : mono p k c = mono p (k % s) c * mono p (s * (k / s)) 1 := by
      rw [mono_mul, Int.mul_one]
      congr 1
      have := Int.emod_add_mul_ediv k s
      omega
    rw [this]; grind
  rw [e]
  exact (geoZ _).mul _
theorem rows_dv {p s : Int} : ∀ ts : Tm, Dv (mono p s 1 - 1) (lp p ts - lp p (ts.map fun t => (t.1 % s, t.2)))
  | [] => by rw [List.map_nil, ← lp_zero, show (0 : LP p) - 0 = 0 by grind]; exact .zero _
  | t :: ts => by
    rw [List.map_cons, lp_cons, lp_cons, show mono p t.1 t.2 + lp p ts - (mono p (t.1 % s) t.2 + lp p (ts.map fun t => (t.1 % s, t.2))) = (mono p t.1 t.2 - mono p (t.1 % s) t.2) + (lp p ts - lp p (ts.map fun t => (t.1 % s, t.2))) by grind]
    exact (near_dv _ _).add (rows_dv ts)
theorem ok__law_far_right (T : Top K mg) : Sg P w K mg base "_law_far_right" 8 2 F__law_far_right [] := by
  obtain ⟨fd, FD⟩ := T.d__law_far_right
  refine ⟨_, fd, ["_law_spring_here", "_law_p"], [], [], ?_, T.g__law_far_right, FD.kp, FD.bindsN (fun _ _ _ _ _ _ us hl => match us, hl with | [_, _], _ => rfl), .nil, fun _ => .nil⟩
  refine ok_def FD sc__law_far_right rfl ?_
  rintro X E W ds n q xx ⟨cdv, A, outer, s, H, rfl⟩ hr tk pso hl hF
  have hu := hr.units
  have hu1 := hu_of hr
  refine ⟨_, (pss_consD (ps_asgD (pd_tup (pad_cons (pd_add (PD.pb pd_int) (PD.pb (pd_call (ok__law_draw T) (hr.mono (by decide)) tk (by rfl) (pad_cons (pd_var 0) (pad_cons pd_int pad_nil))))) (pad_cons (pd_sub (PD.pb (pd_call (ok__law_draw T) (hr.mono (by decide)) tk (by rfl) (pad_cons (pd_var 0) (pad_cons pd_int pad_nil)))) (PD.pb pd_int)) (pad_cons (pd_add (PD.pb pd_int) (PD.pb (pd_call (ok__law_draw T) (hr.mono (by decide)) tk (by rfl) (pad_cons (pd_var 0) (pad_cons (pd_sub (pb_var 1) (PD.pb pd_int)) pad_nil))))) pad_nil)))) (pgd_tup (m := 3) rfl (pgsd_cons (pgd_name 2 sc__law_far_right.nd) (pgsd_cons (pgd_name 3 sc__law_far_right.nd) (pgsd_cons (pgd_name 4 sc__law_far_right.nd) pgsd_nil)))))
      (pss_consD (ps_setD 5 (pd_make (ok_Filter___init__ T) (hr.mono (by decide)) tk (by rfl) (pad_cons (pd_var 1) (pad_cons (PF.pd (pf_lst (pad_cons (pd_tup (pad_cons (pd_add (pb_var 3) (pb_var 2)) (pad_cons (pd_var 4) pad_nil))) (pad_cons (pd_tup (pad_cons (pd_var 3) (pad_cons (pd_sub (PD.pb pd_int) (pb_var 4)) pad_nil))) pad_nil)))) pad_nil))) sc__law_far_right.nd)
      (pss_consD (ps_setLcD 6 [("_law_k", 7)] rfl sc__law_far_right.nd (pid_r1 (by rfl) T.f_range (pab_cons (PD.pb (pd_call (ok__law_draw T) (hr.mono (by decide)) tk (by rfl) (pad_cons (pd_var 0) (pad_cons pd_int pad_nil)))) pab_nil)) (blkOk_by (own := [("_law_k", 7)]) (N := ["_law_spring_here", "_law_p", "_law_size", "_law_low", "_law_c", "_law_h", "_law_rows", "_law_k", "_law_due", "_law_offset", "_law_coefficient"]) (sc := defScope (top 41)) (by decide +kernel)) (fun _ _ _ _ _ => (pgd_name 7 sc__law_far_right.nd)) (fun _ _ _ _ _ => ptsD_nil) (fun _ _ _ _ _ => (pd_tup (pad_cons (pd_call (ok__law_far T) (hr.mono (by decide)) DL.takes0 (by rfl) (pad_cons (pd_var 0) pad_nil)) (pad_cons (pd_call (ok__law_draw T) (hr.mono (by decide)) DL.takes0 (by rfl) (pad_cons (pd_var 0) (pad_cons (pd_var 1) pad_nil))) pad_nil)))))
      (pss_consD (ps_setD 8 (PF.pd (pf_call (ok__law_held T) (hr.mono (by decide)) tk (by rfl) (pad_cons (pd_var 1) (pad_cons (PF.pd (pf_lc [("_law_offset", 9), ("_law_coefficient", 10)] rfl sc__law_far_right.nd (pid_seq (pd_var 6)) (blkOk_by (own := [("_law_offset", 9), ("_law_coefficient", 10)]) (N := ["_law_spring_here", "_law_p", "_law_size", "_law_low", "_law_c", "_law_h", "_law_rows", "_law_k", "_law_due", "_law_offset", "_law_coefficient"]) (sc := defScope (top 41)) (by decide +kernel)) (fun _ _ _ _ _ => (pgd_tup (m := 2) rfl (pgsd_cons (pgd_name 9 sc__law_far_right.nd) (pgsd_cons (pgd_name 10 sc__law_far_right.nd) pgsd_nil)))) (fun _ _ _ _ _ => ptsD_nil) (fun _ _ _ _ _ => (pd_tup (pad_cons (pd_mod (PD.pb (pd_callTy call_int1 dcall_int (by rfl) T.f_int (by decide +kernel) (pab_cons (pb_var 9) pab_nil))) (pb_var 2)) (pad_cons (pd_var 10) pad_nil)))))) pad_nil)))) sc__law_far_right.nd)
      (pss_oneD (ps_retD (pd_call (ok__law_is T) (hr.mono (by decide)) tk (by rfl) (pad_cons (pd_binO T.op_Filter_Mod opI_mod (ok_Filter___mod__ T) (hr.mono (by decide)) tk (pd_make (ok_Filter___init__ T) (hr.mono (by decide)) tk (by rfl) (pad_cons (pd_var 1) (pad_cons (pd_var 6) pad_nil))) (pd_var 5)) (pad_cons (pd_var 1) (pad_cons (pd_var 8) pad_nil)))))))))), ?_⟩
  clear hr tk pso hl hu hu1
  obtain ⟨s0, p, rfl, hW, hp, hn, hq⟩ := hF
  have hp0 := isPr_pos hp
  have hp2 : 2 ≤ p := by rcases isPr_cases hp with h | h | h | h <;> omega
  walk_at "d"
  refine ⟨hW, by decide, by decide, by omega, fun a ha => ?_⟩
  walk_at "d"
  refine ⟨hW, by decide, by decide, by omega, fun b hb => ?_⟩
  walk_at "d"
  refine ⟨hW, by omega, by omega, by omega, fun c hc => ?_⟩
  walk_at "d"
  generalize hs : (1 : Int) + (a : Int) = s at *
  generalize hl : (b : Int) - 4 = l at *
  generalize hcc : (1 : Int) + (c : Int) = cc at *
  refine ⟨by decide, by decide, by decide, by decide, p, _, [(l + s, cc), (l, 0 - cc)], rfl, rfl, hp, by rw [List.length_cons, List.length_singleton]; decide, ?_⟩
  have ccp : cc % p = cc := Int.emod_eq_of_lt (by omega) (by omega)
  rw [can_of hp0.1 (x := mono p l cc * (mono p s 1 - 1)) (by
    rw [show mono p l cc * (mono p s 1 - 1) = mono p l cc * mono p s 1 - mono p l cc by grind, mono_mul, Int.mul_one]
    refine cf_ext fun k => ?_
    rw [cf_lp, cf_sub, cf_mono, cf_mono, show csum [(l + s, cc), (l, 0 - cc)] k = (if l + s = k then cc else 0) + ((if l = k then 0 - cc else 0) + 0) from by rw [csum_cons, csum_cons, csum_nil]]
    by_cases h1 : l + s = k
    · have h2 : ¬ l = k := by omega
      rw [if_pos h1, if_neg h2, if_pos h1, if_neg h2, Int.add_zero, Int.add_zero, Int.sub_zero, Int.emod_emod_of_dvd _ (Int.dvd_refl p)]
    · by_cases h2 : l = k
      · rw [if_neg h1, if_pos h2, if_neg h1, if_pos h2, Int.add_zero, Int.zero_add, ← emod_sub_congr (a := 0) rfl]
      · rw [if_neg h1, if_neg h2, if_neg h1, if_neg h2]; rfl)]
  have hm0 : Lo (mono p l cc * (mono p s 1 - 1)) l ∧ Hi (mono p l cc * (mono p s 1 - 1)) (l + s) := by
    have k1 : Lo (mono p l cc) l := mono_lo l (by omega)
    have k2 : Hi (mono p l cc) l := mono_hi l (by omega)
    have c1 : ∀ j : Int, cf (mono p s 1 - 1) j = if j = s then 1 else if j = 0 then p - 1 else 0 := fun j => by
      rw [cf_sub, cf_mono, ← mono_one, cf_mono, one_mod hp]
      by_cases h1 : j = s
      · have a1 : s = j := h1.symm
        have a2 : ¬ (0 : Int) = j := by omega
        rw [if_pos a1, if_neg a2, if_pos h1, Int.sub_zero, one_mod hp]
      · have a1 : ¬ s = j := fun z => h1 z.symm
        rw [if_neg a1]
        by_cases h2 : j = 0
        · have a2 : (0 : Int) = j := h2.symm
          rw [if_pos a2, if_neg h1, if_pos h2]
          rcases isPr_cases hp with rfl | rfl | rfl | rfl <;> decide
        · have a2 : ¬ (0 : Int) = j := fun z => h2 z.symm
          rw [if_neg a2, if_neg h1, if_neg h2]; rfl
    have k3 : Lo (mono p s 1 - 1) 0 := ⟨by rw [c1, if_neg (by omega), if_pos rfl]; omega, fun j hj => by rw [c1, if_neg (by omega), if_neg (by omega)]⟩
    have k4 : Hi (mono p s 1 - 1) s := ⟨by rw [c1, if_pos rfl]; decide, fun j hj => by rw [c1, if_neg (by omega), if_neg (by omega)]⟩
    have := k1.mul hp k3
    rw [Int.add_zero] at this
    exact ⟨this, k2.mul hp k4⟩
  have hdv : ∀ x : LP p, Dv (mono p s 1 - 1) x → Dv (mono p l cc * (mono p s 1 - 1)) x := fun x ⟨u, e⟩ => by
    have := mono_unit hp (a := l) (c := cc) (by omega) (by omega)
    refine ⟨u * mono p (-l) (invD p cc), ?_⟩
    rw [e]
    calc u * (mono p s 1 - 1) = u * (mono p (-l) (invD p cc) * mono p l cc) * (mono p s 1 - 1) := by rw [this]; grind
      _ = _ := by grind
  have hsp : sp (mono p l cc * (mono p s 1 - 1)) = s := by
    unfold sp
    rw [hm0.1.lo hp0.1, hm0.2.hi hp0.1]; omega
  have hnb := (Bd.of_hl hm0.2 hm0.1).nt hp0.1
  have hne := hm0.1.ne
  generalize mono p l cc * (mono p s 1 - 1) = h at *
  refine ⟨hW, by decide, by decide, by omega, fun k hk => ?_⟩
  walk_at "d"
  refine ⟨by omega, ?_⟩
  rw [rngD_map]
  refine lcD_pre _ _ (fun pre acc n' => ∃ ts : Tm, acc = ts.map trm ∧ ts.length = pre.length ∧ n' ≤ n + 4 + 6 * pre.length) (fun pre x post e acc n' R hI hR => ?_) (fun acc n' hI => ?_) ⟨[], rfl, rfl, by rw [List.length_nil]; omega⟩
  · obtain ⟨ts, rfl, hts, hn'⟩ := hI
    obtain ⟨rfl, hpl⟩ := range_split e
    walk_at "d"
    refine ⟨s0, rfl, hW, by omega, fun o n2 h2 => ?_⟩
    walk_at "d"
    refine ⟨hW, by omega, by omega, by omega, fun j hj => ?_⟩
    walk_at "d"
    refine ⟨by decide, by omega, hR _ _ ⟨ts ++ [(o, (j : Int))], by rw [List.map_append]; rfl, by rw [List.length_append, List.length_append, hts]; rfl, by rw [List.length_append, List.length_singleton]; omega⟩⟩
  · obtain ⟨ts, rfl, hts, hn'⟩ := hI
    rw [List.length_range] at hts hn'
    refine lcD_all trm (fun t => trm (t.1 % s, t.2)) _ _ (fun t ht K h => ?_) (by omega) ?_
    · walk_at "d"
      exact ⟨by omega, by decide, h⟩
    rw [mapTrm (fun t => (t.1 % s, t.2))]
    refine ⟨p, _, rfl, hp0.1, by rw [List.length_map]; omega, ?_⟩
    refine ⟨p, _, ts, rfl, rfl, hp, by omega, ?_⟩
    rw [← can_lp hp0.1, ← can_lp hp0.1]
    have t1 := nt_lp hp0.1 ts
    have t2 := nt_lp hp0.1 (ts.map fun t => (t.1 % s, t.2))
    rw [List.length_map] at t2
    have bdue : Bd (lp p (ts.map fun t => (t.1 % s, t.2))) 0 (s - 1) := Bd.lp fun t ht => by
      obtain ⟨u, _, rfl⟩ := List.mem_map.mp ht
      have a1 := Int.emod_nonneg u.1 (show s ≠ 0 by omega)
      have a2 := Int.emod_lt_of_pos u.1 (show 0 < s by omega)
      dsimp only
      omega
    have hd := hdv _ (rows_dv (p := p) (s := s) ts)
    refine ⟨⟨_, rfl⟩, rfl, .inl ⟨p, lp p ts, h, rfl, hp, hne, by omega, by omega, by omega, .inr ?_, fun r hr => ?_⟩⟩
    · have : (nt (lp p ts) : Int) * (sp h + 1) ≤ 5 * 8 := by
        rw [hsp]
        exact Int.mul_le_mul (by omega) (by omega) (by omega) (by omega)
      omega
    have er : r = lp p (ts.map fun t => (t.1 % s, t.2)) := by
      obtain ⟨u, eu⟩ := hd
      exact mod_uniq (f' := lp p ts) hp hne hr ⟨⟨u, by rw [← eu]; grind⟩, by rw [hsp]; exact bdue⟩ (by rw [show lp p ts - lp p ts = 0 by grind]; exact .zero _)
    rw [er]
    exact ⟨p, _, rfl, hp, by omega, hq _ (by omega)⟩
end

end My

namespace My
open PySem PySem.Spec L2 DL
theorem sc__law_made : FnScope ["_law_prime_here", "_law_held_here"] ["_law_prime_here", "_law_held_here"] (defScope (top 34)) := ⟨rfl, rfl, rfl, by decide +kernel, rfl, by decide +kernel, by decide +kernel⟩
section
variable {P : Program} {w : World} {K : PySem.W.Frag} {mg : Str → Option Value} {base : Heap}
theorem ok__law_made (T : Top K mg) : Sg P w K mg base "_law_made" 5 2 F__law_made [] := by
  obtain ⟨fd, FD⟩ := T.d__law_made
  refine ⟨_, fd, ["_law_prime_here", "_law_held_here"], [], [], ?_, T.g__law_made, FD.kp, FD.bindsN (fun _ _ _ _ _ _ us hl => match us, hl with | [_, _], _ => rfl), .nil, fun _ => .nil⟩
  refine ok_def FD sc__law_made rfl ?_
  rintro X E W ds n q xx ⟨cdv, A, outer, s, H, rfl⟩ hr tk pso hl hF
  have hu := hr.units
  have hu1 := hu_of hr
  refine ⟨_, (pss_oneD (ps_retD (pd_make (ok_Filter___init__ T) (hr.mono (by decide)) tk (by rfl) (pad_cons (pd_var 0) (pad_cons (pd_call (ok__law_pairs T) (hr.mono (by decide)) tk (by rfl) (pad_cons (pd_var 1) pad_nil)) pad_nil))))), ?_⟩
  clear hr tk pso hl hu hu1
  obtain ⟨p, x, rfl, hp, hl2, hq⟩ := hF
  have hp0 := isPr_pos hp
  walk_at "d"
  refine ⟨can x, rfl, can_nodup x, hl2, ?_⟩
  refine ⟨p, _, can x, rfl, rfl, hp, (show (can x).length < 8000000 by have : (can x).length < 1000000 := hl2; omega), ?_⟩
  rw [canon_can hp0.1]
  exact hq
end

end My

namespace My
open PySem PySem.Spec L2 DL
theorem sc__law_plus : FnScope ["_law_prime_here", "_law_one", "_law_two", "_law_scale", "_law_offset"] ["_law_prime_here", "_law_one", "_law_two", "_law_scale"] (defScope (top 30)) := ⟨rfl, rfl, rfl, by decide +kernel, rfl, by decide +kernel, by decide +kernel⟩
section
variable {P : Program} {w : World} {K : PySem.W.Frag} {mg : Str → Option Value} {base : Heap}
theorem ok__law_plus (T : Top K mg) : Sg P w K mg base "_law_plus" 2 4 F__law_plus [] := by
  obtain ⟨fd, FD⟩ := T.d__law_plus
  refine ⟨_, fd, ["_law_prime_here", "_law_one", "_law_two", "_law_scale"], [], [], ?_, T.g__law_plus, FD.kp, FD.bindsN (fun _ _ _ _ _ _ us hl => match us, hl with | [_, _, _, _], _ => rfl), .nil, fun _ => .nil⟩
  refine ok_def FD sc__law_plus rfl ?_
  rintro X E W ds n q xx ⟨cdv, A, outer, s, H, rfl⟩ hr tk pso hl hF
  have hu := hr.units
  have hu1 := hu_of hr
  refine ⟨_, (pss_oneD (ps_retD (PF.pd (pf_call (ok__law_held T) (hr.mono (by decide)) tk (by rfl) (pad_cons (pd_var 0) (pad_cons (pd_add (PD.pb (pd_call (ok__law_pairs T) (hr.mono (by decide)) tk (by rfl) (pad_cons (pd_var 1) pad_nil))) (PD.pb (PF.pd (pf_lc [("_law_offset", 4)] rfl sc__law_plus.nd (pid_keys (pd_var 2)) (blkOk_by (own := [("_law_offset", 4)]) (N := ["_law_prime_here", "_law_one", "_law_two", "_law_scale", "_law_offset"]) (sc := defScope (top 30)) (by decide +kernel)) (fun _ _ _ _ _ => (pgd_name 4 sc__law_plus.nd)) (fun _ _ _ _ _ => ptsD_nil) (fun _ _ _ _ _ => (pd_tup (pad_cons (pd_var 4) (pad_cons (pd_mul (pb_var 3) (PD.pb (pd_dg hu1 (pb_var 2) (pb_var 4)))) pad_nil)))))))) pad_nil)))))), ?_⟩
  clear hr tk pso hl hu hu1
  obtain ⟨p, x, y, s, rfl, hp, hx, hy, hq⟩ := hF
  have hp0 := isPr_pos hp
  unfold nt at hx hy
  walk_at "d"
  refine ⟨can x, rfl, can_nodup x, by omega, ?_⟩
  walk_at "d"
  rw [List.map_map]
  refine lcD_all (fun t : Int × Int => D.int t.1) (fun t => trm (t.1, s * t.2)) (can y) _ (fun t ht K h => ?_) (by omega) ?_
  · have m1 : t.1 ∈ (can y).map (·.1) := List.mem_map.mpr ⟨t, ht, rfl⟩
    have m2 := getI_mem (can_nodup y) ht
    have m3 := can_small hp0.1 y t ht
    walk_at "d"
    rw [get_kvp' m1, m2]
    exact ⟨.inl (.inr ⟨by omega, by omega⟩), by decide, h⟩
  · rw [List.length_map]
    refine ⟨by omega, ?_⟩
    rw [mapTrm (fun t => (t.1, s * t.2)), ← List.map_append]
    refine ⟨p, _, rfl, hp0.1, by rw [List.length_append, List.length_map]; omega, ?_⟩
    rw [can_of hp0.1 (show lp p (can x ++ (can y).map fun t => (t.1, s * t.2)) = x + ((s : Int) : LP p) * y from ?_)]
    · exact hq
    · rw [← lp_add, lp_can hp0.1]
      have e := lp_scale hp0.1 0 s y
      simp only [Int.sub_zero] at e
      rw [e]
      rfl
end

end My

namespace My
open PySem PySem.Spec L2 DL
theorem sc__law_prime : FnScope ["_law_spring_here"] ["_law_spring_here"] (defScope (top 36)) := ⟨rfl, rfl, rfl, by decide +kernel, rfl, by decide +kernel, by decide +kernel⟩
section
variable {P : Program} {w : World} {K : PySem.W.Frag} {mg : Str → Option Value} {base : Heap}
theorem ok__law_prime (T : Top K mg) : Sg P w K mg base "_law_prime" 3 1 F__law_prime [] := by
  obtain ⟨fd, FD⟩ := T.d__law_prime
  refine ⟨_, fd, ["_law_spring_here"], [], [], ?_, T.g__law_prime, FD.kp, FD.bindsN (fun _ _ _ _ _ _ us hl => match us, hl with | [_], _ => rfl), .nil, fun _ => .nil⟩
  refine ok_def FD sc__law_prime rfl ?_
  rintro X E W ds n q xx ⟨cdv, A, outer, s, H, rfl⟩ hr tk pso hl hF
  have hu := hr.units
  have hu1 := hu_of hr
  refine ⟨_, (pss_oneD (ps_retD (pd_call (ok__law_pick T) (hr.mono (by decide)) tk (by rfl) (pad_cons (pd_var 0) (pad_cons (PF.pd (pf_lst (pad_cons pd_int (pad_cons pd_int (pad_cons pd_int (pad_cons pd_int pad_nil)))))) pad_nil))))), ?_⟩
  clear hr tk pso hl hu hu1
  obtain ⟨s0, rfl, hW, hn, hq⟩ := hF
  walk_at "d"
  refine ⟨by decide, hW, by decide, by decide, hn, fun d hd => ?_⟩
  simp only [List.mem_cons, List.not_mem_nil, or_false] at hd
  rcases hd with rfl | rfl | rfl | rfl <;> exact hq _ (by decide)
end

end My

namespace My
open PySem PySem.Spec L2 DL
theorem sc__law_other : FnScope ["_law_spring_here", "_law_p", "_law_one"] ["_law_spring_here", "_law_p"] (defScope (top 37)) := ⟨rfl, rfl, rfl, by decide +kernel, rfl, by decide +kernel, by decide +kernel⟩
section
variable {P : Program} {w : World} {K : PySem.W.Frag} {mg : Str → Option Value} {base : Heap}
theorem ok__law_other (T : Top K mg) : Sg P w K mg base "_law_other" 3 2 F__law_other [] := by
  obtain ⟨fd, FD⟩ := T.d__law_other
  refine ⟨_, fd, ["_law_spring_here", "_law_p"], [], [], ?_, T.g__law_other, FD.kp, FD.bindsN (fun _ _ _ _ _ _ us hl => match us, hl with | [_, _], _ => rfl), .nil, fun _ => .nil⟩
  refine ok_def FD sc__law_other rfl ?_
  rintro X E W ds n q xx ⟨cdv, A, outer, s, H, rfl⟩ hr tk pso hl hF
  have hu := hr.units
  have hu1 := hu_of hr
  refine ⟨_, (pss_oneD (ps_retD (pd_call (ok__law_pick T) (hr.mono (by decide)) tk (by rfl) (pad_cons (pd_var 0) (pad_cons (PF.pd (pf_lc [("_law_one", 2)] rfl sc__law_other.nd (pid_seq (PF.pd (pf_lst (pad_cons pd_int (pad_cons pd_int (pad_cons pd_int (pad_cons pd_int pad_nil))))))) (blkOk_by (own := [("_law_one", 2)]) (N := ["_law_spring_here", "_law_p", "_law_one"]) (sc := defScope (top 37)) (by decide +kernel)) (fun _ _ _ _ _ => (pgd_name 2 sc__law_other.nd)) (fun _ _ _ _ _ => (ptsD_one (pt_ne hu (pb_var 2) (pb_var 1)))) (fun _ _ _ _ _ => (pd_var 2)))) pad_nil))))), ?_⟩
  clear hr tk pso hl hu hu1
  obtain ⟨s0, p, rfl, hW, hp, hn, hq⟩ := hF
  walk_at "d"
  refine ⟨by decide, ?_⟩
  refine lcD_of D.int (fun i => if i = p then none else some (.int i)) [2, 3, 5, 7] [] _ (fun a _ K h => ?_) (by decide) ?_
  · walk_at "d"
    rw [show (pyD (.int a)).eqv (pyD (.int p)) = decide (a = p) from eqv_int a p]
    by_cases e : a = p
    · simpa [e] using h
    · simpa [e] using h
  · have key : ∀ p' : Int, isPr p' = true → p' ≠ p → q (.int p') (n + 1) := hq
    refine ⟨hW, ?_, ?_, by omega, fun d hd => ?_⟩
    · rcases isPr_cases hp with rfl | rfl | rfl | rfl <;> decide
    · rcases isPr_cases hp with rfl | rfl | rfl | rfl <;> decide
    · obtain ⟨i, hi, hm⟩ := List.mem_filterMap.mp hd
      by_cases e : i = p
      · rw [if_pos e] at hm; cases hm
      · rw [if_neg e] at hm
        cases hm
        refine key i ?_ e
        simp only [List.mem_cons, List.not_mem_nil, or_false] at hi
        rcases hi with rfl | rfl | rfl | rfl <;> rfl
end

end My

namespace My
open PySem PySem.Spec L2 DL
theorem sc__law_refuses : FnScope ["_law_spring_here", "_law_p", "_law_f", "_law_nothing", "_law_strange", "_law_empty", "_law_g", "_law_due"] ["_law_spring_here", "_law_p", "_law_f"] (defScope (top 39)) := ⟨rfl, rfl, rfl, by decide +kernel, rfl, by decide +kernel, by decide +kernel⟩
section
variable {P : Program} {w : World} {K : PySem.W.Frag} {mg : Str → Option Value} {base : Heap}
theorem ok__law_refuses (T : Top K mg) (TBS : TBs K mg base) : Sg P w K mg base "_law_refuses" 10 3 (F__law_refuses K) [] := by
  obtain ⟨fd, FD⟩ := T.d__law_refuses
  refine ⟨_, fd, ["_law_spring_here", "_law_p", "_law_f"], [], [], ?_, T.g__law_refuses, FD.kp, FD.bindsN (fun _ _ _ _ _ _ us hl => match us, hl with | [_, _, _], _ => rfl), .nil, fun _ => .nil⟩
  refine ok_defC (p := ("_law_refuses", none)) FD sc__law_refuses rfl ?_
  obtain ⟨fd__law_tried, FD__law_tried⟩ := T.d__law_tried
  rintro X E W ds n q xx ⟨cdv, A, outer, s, H, rfl, hcdv⟩ hr tk pso hl hF
  have hu := hr.units
  have hu1 := hu_of hr
  refine ⟨_, (pss_consD (ps_parD 3 4 rfl sc__law_refuses.nd (pad_cons (pd_make (ok_Filter___init___d1 T) (hr.mono (by decide)) tk (by rfl) (pad_cons (pd_var 1) pad_nil)) (pad_cons (pd_make (ok_Filter___init__ T) (hr.mono (by decide)) tk (by rfl) (pad_cons (pd_call (ok__law_other T) (hr.mono (by decide)) tk (by rfl) (pad_cons (pd_var 0) (pad_cons (pd_var 1) pad_nil))) (pad_cons (PF.pd (pf_lst (pad_cons (pd_tup (pad_cons pd_int (pad_cons pd_int pad_nil))) (pad_cons (pd_tup (pad_cons pd_int (pad_cons pd_int pad_nil))) pad_nil)))) pad_nil))) pad_nil)))
      (pss_consD (ps_setD 5 (pd_make (ok_Filter___init___d1 T) (hr.mono (by decide)) tk (by rfl) (pad_cons (pd_fld ["Filter"] T.fld_Filter_prime (pb_var 4)) pad_nil)) sc__law_refuses.nd)
      (pss_consD (ps_forD pso rfl (pid_seq (PF.pd (pf_lst (pad_cons (pd_tup (pad_cons (pd_var 3) (pad_cons pd_str pad_nil))) (pad_cons (pd_tup (pad_cons (pd_var 5) (pad_cons pd_str pad_nil))) (pad_cons (pd_tup (pad_cons (pd_var 4) (pad_cons pd_str pad_nil))) pad_nil)))))) (pgd_tup (m := 2) rfl (pgsd_cons (pgd_name 6 sc__law_refuses.nd) (pgsd_cons (pgd_name 7 sc__law_refuses.nd) pgsd_nil))) (pss_consD (ps_ifD (pt_ne hu (PD.pb (pd_lam (k := 7) (hs := [("ZeroFilter", .str "zero"), ("UnlikePrimes", .str "unlike")]) (d0 := .non) T.xs (List.forall_mem_cons.mpr ⟨⟨by decide, rfl⟩, (List.forall_mem_cons.mpr ⟨⟨by decide, rfl⟩, (fun _ h => nomatch h)⟩)⟩) rfl (by rfl) T.g__law_tried FD__law_tried (FD__law_tried.bindsN (fun _ _ _ _ _ _ us hl => match us, hl with | [_], _ => rfl)) sc__law_tried rfl (.inl rfl) (fun _ => gives_const (.cons (fun _ => pe_str) (.cons (fun _ => pe_str) .nil)) (List.forall_mem_cons.mpr ⟨⟨rfl, T.g_ZeroFilter, by decide⟩, (List.forall_mem_cons.mpr ⟨⟨rfl, T.g_UnlikePrimes, by decide⟩, (fun _ h => nomatch h)⟩)⟩) (fun _ => pe_non) (fun _ => rfl)) (TBS "_law_refuses" (by decide +kernel)) hcdv (hr.mono (by decide)) (LamX.lamS_by (sc := defScope (top 39)) (by decide +kernel)) (by rfl) (fun _ _ _ _ _ => rfl) (fun _ _ _ _ _ _ _ hr => have tk := takes_lam; (pd_binO T.op_Filter_Mod opI_mod (ok_Filter___mod__ T) (hr.mono (by decide)) tk (pd_var 2) (pd_var 6))))) (pb_var 7)) (pss_oneD (ps_retD pd_bl)) pss_nilD)
      (pss_oneD (ps_ifD (pt_ne hu (PD.pb (pd_lam (k := 7) (hs := [("ZeroFilter", .str "zero"), ("UnlikePrimes", .str "unlike")]) (d0 := .non) T.xs (List.forall_mem_cons.mpr ⟨⟨by decide, rfl⟩, (List.forall_mem_cons.mpr ⟨⟨by decide, rfl⟩, (fun _ h => nomatch h)⟩)⟩) rfl (by rfl) T.g__law_tried FD__law_tried (FD__law_tried.bindsN (fun _ _ _ _ _ _ us hl => match us, hl with | [_], _ => rfl)) sc__law_tried rfl (.inl rfl) (fun _ => gives_const (.cons (fun _ => pe_str) (.cons (fun _ => pe_str) .nil)) (List.forall_mem_cons.mpr ⟨⟨rfl, T.g_ZeroFilter, by decide⟩, (List.forall_mem_cons.mpr ⟨⟨rfl, T.g_UnlikePrimes, by decide⟩, (fun _ h => nomatch h)⟩)⟩) (fun _ => pe_non) (fun _ => rfl)) (TBS "_law_refuses" (by decide +kernel)) hcdv (hr.mono (by decide)) (LamX.lamS_by (sc := defScope (top 39)) (by decide +kernel)) (by rfl) (fun _ _ _ _ _ => rfl) (fun _ _ _ _ _ _ _ hr => have tk := takes_lam; (pd_binO T.op_Filter_FloorDiv opI_fdiv (ok_Filter___floordiv__ T) (hr.mono (by decide)) tk (pd_var 2) (pd_var 6))))) (pb_var 7)) (pss_oneD (ps_retD pd_bl)) pss_nilD))))
      (pss_oneD (ps_retD pd_bl))))), ?_⟩
  clear hr tk pso hl hu hu1
  obtain ⟨s0, p, f, rfl, hW, hL, hp, hfl, hn, hq⟩ := hF
  have hp0 := isPr_pos hp
  walk_at "d"
  refine ⟨p, _, [], rfl, rfl, hp, by decide, ?_⟩
  refine ⟨s0, p, rfl, hW, hp, by omega, fun p' hp' hne => ?_⟩
  have hp0' := isPr_pos hp'
  refine ⟨by decide, by decide, by decide, p', _, [(0, 1), (1, 1)], rfl, rfl, hp', by decide, ?_⟩
  walk_at "d"
  refine ⟨p', _, [], rfl, rfl, hp', by decide, ?_⟩
  have e0 : ∀ {p : Int}, 0 < p → canon p [] = can (0 : LP p) := fun h => by rw [lp_zero, can_lp h]
  rw [e0 hp0.1, e0 hp0'.1, ← can_lp hp0'.1]
  have hg : lp p' [(0, 1), (1, 1)] ≠ 0 := fun z => by
    have := congrArg (fun x => cf x 0) z
    rw [cf_zero, cf_lp, csum_cons, csum_cons, csum_nil] at this
    simp [one_mod hp'] at this
  generalize lp p' [(0, 1), (1, 1)] = g at hg ⊢
  walk_at "d"
  refine ⟨by decide, by decide, by decide, by decide, ?_⟩
  have x1 : (("UnlikePrimes" : Str) ∈ XS) := by decide
  have x2 : (("ZeroFilter" : Str) ∈ XS) := by decide
  have z1 : xsub "ZeroFilter" "ZeroFilter" = true := by decide
  have z2 : xsub "UnlikePrimes" "ZeroFilter" = false := by decide
  have z3 : xsub "UnlikePrimes" "UnlikePrimes" = true := by decide
  rw [forD_cons]
  try walk_at "d"
  refine ⟨hL, ⟨_, rfl⟩, rfl, .inr (.inl ⟨p, p, f, rfl, hp0.1, x2, ?_⟩)⟩
  rw [if_pos z1]
  try refine ⟨by decide +kernel, by decide +kernel, ?_⟩
  try rw [show (pyD (.str "zero")).eqv (pyD (.str "zero")) = true from by decide +kernel]
  try walk_at "d"
  refine ⟨hL, ⟨_, rfl⟩, rfl, .inr (.inl ⟨p, p, f, rfl, hp0.1, x2, ?_⟩)⟩
  rw [if_pos z1]
  try refine ⟨by decide +kernel, by decide +kernel, ?_⟩
  try rw [show (pyD (.str "zero")).eqv (pyD (.str "zero")) = true from by decide +kernel]
  try walk_at "d"
  rw [forD_cons]
  try walk_at "d"
  refine ⟨hL, ⟨_, rfl⟩, rfl, .inr (.inl ⟨p, p', f, rfl, hp0'.1, x2, ?_⟩)⟩
  rw [if_pos z1]
  try refine ⟨by decide +kernel, by decide +kernel, ?_⟩
  try rw [show (pyD (.str "zero")).eqv (pyD (.str "zero")) = true from by decide +kernel]
  try walk_at "d"
  refine ⟨hL, ⟨_, rfl⟩, rfl, .inr (.inl ⟨p, p', f, rfl, hp0'.1, x2, ?_⟩)⟩
  rw [if_pos z1]
  try refine ⟨by decide +kernel, by decide +kernel, ?_⟩
  try rw [show (pyD (.str "zero")).eqv (pyD (.str "zero")) = true from by decide +kernel]
  try walk_at "d"
  rw [forD_cons]
  try walk_at "d"
  refine ⟨hL, ⟨_, rfl⟩, rfl, .inr (.inr ⟨p, p', f, g, rfl, hp0'.1, hg, hne.symm, x1, ?_⟩)⟩
  rw [if_neg (by rw [z2]; exact Bool.false_ne_true), if_pos z3]
  try refine ⟨by decide +kernel, by decide +kernel, ?_⟩
  try rw [show (pyD (.str "unlike")).eqv (pyD (.str "unlike")) = true from by decide +kernel]
  try walk_at "d"
  refine ⟨hL, ⟨_, rfl⟩, rfl, .inr (.inr ⟨p, p', f, g, rfl, hp0'.1, hg, hne.symm, x1, ?_⟩)⟩
  rw [if_neg (by rw [z2]; exact Bool.false_ne_true), if_pos z3]
  try refine ⟨by decide +kernel, by decide +kernel, ?_⟩
  try rw [show (pyD (.str "unlike")).eqv (pyD (.str "unlike")) = true from by decide +kernel]
  try walk_at "d"
  rw [forD_nil]
  try walk_at "d"
  exact hq _ (by omega)
end

end My

namespace My
open PySem PySem.Spec L2 DL
theorem sc_Filter___eq__ : FnScope ["self", "other"] ["self", "other"] (defScope (inClass (top 22) 5)) := ⟨rfl, rfl, rfl, by decide +kernel, rfl, by decide +kernel, by decide +kernel⟩
section
variable {P : Program} {w : World} {K : PySem.W.Frag} {mg : Str → Option Value} {base : Heap}
theorem ok_Filter___eq__ (T : Top K mg) : Mg P w K mg base "Filter" "__eq__" 1 2 F_Filter___eq__ [] := by
  obtain ⟨fd, FD⟩ := T.d_Filter___eq__
  refine ⟨T.cl_Filter, _, fd, ["self", "other"], [], [], ?_, T.m_Filter___eq__, FD.bindsN (fun _ _ _ _ _ _ us hl => match us, hl with | [_, _], _ => rfl), .nil, fun _ => .nil⟩
  refine ok_def FD sc_Filter___eq__ rfl ?_
  rintro X E W ds n q xx ⟨cdv, A, outer, s, H, rfl⟩ hr tk pso hl hF
  have hu := hr.units
  have hu1 := hu_of hr
  refine ⟨_, (pss_oneD (ps_retD (pd_and (pd_isiO T.tyf (T.ko_Filter) (by rfl) T.f_isinstance (by rfl) T.g_Filter (pb_var 1)) (pd_and (pd_eq hu (PD.pb (pd_fld ["Filter"] T.fld_Filter_prime (pb_var 0))) (PD.pb (pd_fld ["Filter"] T.fld_Filter_prime (pb_var 1)))) (pd_one (pd_eq hu (PD.pb (pd_fld ["Filter"] T.fld_Filter_kept (pb_var 0))) (PD.pb (pd_fld ["Filter"] T.fld_Filter_kept (pb_var 1))))))))), ?_⟩
  clear hr tk pso hl hu hu1
  obtain ⟨p, ts, p', ts', rfl, hl1, hl2, hq⟩ := hF
  walk_at "d"
  rw [eqv_int, eqv_trms]
  by_cases h : p = p'
  · rw [if_pos (decide_eq_true h)]
    refine ⟨sh_trms _, sh_trms _, ?_⟩
    simpa [h] using hq
  · rw [if_neg (by simp [h])]
    simpa [h] using hq
end

end My

namespace My
open PySem PySem.Spec L2 DL
theorem sc_Filter___mul__ : FnScope ["self", "other", "offset", "digit", "sums", "place", "part"] ["self", "other"] (defScope (inClass (top 22) 15)) := ⟨rfl, rfl, rfl, by decide +kernel, rfl, by decide +kernel, by decide +kernel⟩
section
variable {P : Program} {w : World} {K : PySem.W.Frag} {mg : Str → Option Value} {base : Heap}
theorem mul_in {E : DEnds} {L : Nat} (hL : L = 2) {p : Int} (hp : 0 < p) (t : Int × Int) (h2 : 0 ≤ t.2 ∧ t.2 < 10) (ts vs : Tm) (us : Tm) : ∀ (m : Tm) (x y : Option Sl) (n : Nat), m.length + us.length < 2000000 → (∀ x y, E.nx [some (.val (fob p ts)), some (.val (fob p vs)), some (.val (.int t.1)), some (.val (.int t.2)), some (.own (.dct (((us.map fun u => (t.1 + u.1, t.2 * u.2)).foldl (hstep p) m).map kvp))), x, y] n) →
    forD (gTn L (gsC (gN 5) (gsC (gN 6) gs0))) (dPut 4 (dOp fAdd (bVar 2) (bVar 5)) (dOp fMod (dOp fAdd (dGet2 (bVar 4) (dOp fAdd (bVar 2) (bVar 5)) (dC (.int 0))) (dOp fMul (bVar 3) (bVar 6))) (dFld ["Filter"] "prime" (bVar 0)))) (us.map trm) E [some (.val (fob p ts)), some (.val (fob p vs)), some (.val (.int t.1)), some (.val (.int t.2)), some (.own (.dct (m.map kvp))), x, y] n := by
  subst hL
  induction us with
  | nil => intro m x y n _ h; exact h x y
  | cons a us ih =>
    intro m x y n hl h
    rw [List.map_cons, forD_cons]
    walk_at "d"
    rw [List.length_cons] at hl
    refine ⟨.inl (.inl ⟨by omega, by omega⟩), hp, by omega, ?_⟩
    refine ih _ _ _ _ ?_ h
    have := putI_length m (t.1 + a.1) ((getI m (t.1 + a.1) + t.2 * a.2) % p)
    omega
theorem mul_out {E : DEnds} {L L' : Nat} (hL : L = 2) (hL' : L' = 2) {p : Int} (hp : 0 < p) (vs us : Tm) (ts : Tm) : ∀ (m : Tm) (x y z w : Option Sl) (n : Nat), (∀ t ∈ ts, 0 ≤ t.2 ∧ t.2 < 10) → m.length + ts.length * us.length < 1000000 → (∀ x y z w, E.nx [some (.val (fob p vs)), some (.val (fob p us)), x, y, some (.own (.dct (((prods ts us).foldl (hstep p) m).map kvp))), z, w] n) →
    forD (gTn L (gsC (gN 2) (gsC (gN 3) gs0))) (dFor (iSq (dFld ["Filter"] "kept" (bVar 1))) (gTn L' (gsC (gN 5) (gsC (gN 6) gs0))) (dPut 4 (dOp fAdd (bVar 2) (bVar 5)) (dOp fMod (dOp fAdd (dGet2 (bVar 4) (dOp fAdd (bVar 2) (bVar 5)) (dC (.int 0))) (dOp fMul (bVar 3) (bVar 6))) (dFld ["Filter"] "prime" (bVar 0))))) (ts.map trm) E [some (.val (fob p vs)), some (.val (fob p us)), x, y, some (.own (.dct (m.map kvp))), z, w] n := by
  subst hL
  induction ts with
  | nil => intro m x y z w n _ _ h; exact h x y z w
  | cons t ts ih =>
    intro m x y z w n h2 hl h
    rw [List.length_cons, Nat.succ_mul] at hl
    rw [List.map_cons, forD_cons]
    walk_at "d"
    refine mul_in hL' hp t (h2 t (List.mem_cons_self ..)) vs us us m _ _ n (by omega) fun x y => ?_
    have hf := fold_length p (us.map fun u => (t.1 + u.1, t.2 * u.2)) m
    rw [List.length_map] at hf
    refine ih _ _ _ _ _ _ (fun u hu => h2 u (List.mem_cons_of_mem _ hu)) (by omega) fun x y z w => ?_
    have z1 := h x y z w
    rw [prods_cons, List.foldl_append] at z1
    exact z1
theorem ok_Filter___mul__ (T : Top K mg) : Mg P w K mg base "Filter" "__mul__" 5 2 F_Filter___mul__ [] := by
  obtain ⟨fd, FD⟩ := T.d_Filter___mul__
  refine ⟨T.cl_Filter, _, fd, ["self", "other"], [], [], ?_, T.m_Filter___mul__, FD.bindsN (fun _ _ _ _ _ _ us hl => match us, hl with | [_, _], _ => rfl), .nil, fun _ => .nil⟩
  refine ok_def FD sc_Filter___mul__ rfl ?_
  rintro X E W ds n q xx ⟨cdv, A, outer, s, H, rfl⟩ hr tk pso hl hF
  have hu := hr.units
  have hu1 := hu_of hr
  refine ⟨_, (pss_consD (ps_ifD (pt_valD (PD.pb (pd_call (ok_is_integer T) (hr.mono (by decide)) tk (by rfl) (pad_cons (pd_var 1) pad_nil)))) (pss_oneD (ps_retD (pd_make (ok_Filter___init__ T) (hr.mono (by decide)) tk (by rfl) (pad_cons (pd_fld ["Filter"] T.fld_Filter_prime (pb_var 0)) (pad_cons (PF.pd (pf_lc [("offset", 2), ("digit", 3)] rfl sc_Filter___mul__.nd (pid_seq (pd_fld ["Filter"] T.fld_Filter_kept (pb_var 0))) (blkOk_by (own := [("offset", 2), ("digit", 3)]) (N := ["self", "other", "offset", "digit", "sums", "place", "part"]) (sc := defScope (inClass (top 22) 15)) (by decide +kernel)) (fun _ _ _ _ _ => (pgd_tup (m := 2) rfl (pgsd_cons (pgd_name 2 sc_Filter___mul__.nd) (pgsd_cons (pgd_name 3 sc_Filter___mul__.nd) pgsd_nil)))) (fun _ _ _ _ _ => ptsD_nil) (fun _ _ _ _ _ => (pd_tup (pad_cons (pd_var 2) (pad_cons (pd_mul (pb_var 1) (pb_var 3)) pad_nil)))))) pad_nil))))) pss_nilD)
      (pss_consD (ps_ifD (ptd_not (pt_valD (PD.pb (pd_isiO T.tyf (T.ko_Filter) (by rfl) T.f_isinstance (by rfl) T.g_Filter (pb_var 1))))) (pss_oneD (ps_retD pd_never)) pss_nilD)
      (pss_consD (ps_exprD (PD.pb (pd_call (ok_check_primes T) (hr.mono (by decide)) tk (by rfl) (pad_cons (pd_var 0) (pad_cons (pd_var 1) pad_nil)))))
      (pss_consD (ps_ownD 4 pf_dct0 sc_Filter___mul__.nd)
      (pss_consD (ps_forD pso rfl (pid_seq (pd_fld ["Filter"] T.fld_Filter_kept (pb_var 0))) (pgd_tup (m := 2) rfl (pgsd_cons (pgd_name 2 sc_Filter___mul__.nd) (pgsd_cons (pgd_name 3 sc_Filter___mul__.nd) pgsd_nil))) (pss_oneD (ps_forD pso rfl (pid_seq (pd_fld ["Filter"] T.fld_Filter_kept (pb_var 1))) (pgd_tup (m := 2) rfl (pgsd_cons (pgd_name 5 sc_Filter___mul__.nd) (pgsd_cons (pgd_name 6 sc_Filter___mul__.nd) pgsd_nil))) (pss_oneD (ps_putD 4 hu1 (PD.pb (pd_add (pb_var 2) (pb_var 5))) (pd_mod (PD.pb (pd_add (PD.pb (pd_get2 hu1 (pb_var 4) (PD.pb (pd_add (pb_var 2) (pb_var 5))) pd_int)) (PD.pb (pd_mul (pb_var 3) (pb_var 6))))) (PD.pb (pd_fld ["Filter"] T.fld_Filter_prime (pb_var 0)))))))))
      (pss_oneD (ps_retD (pd_make (ok_Filter___init__ T) (hr.mono (by decide)) tk (by rfl) (pad_cons (pd_fld ["Filter"] T.fld_Filter_prime (pb_var 0)) (pad_cons (pd_listItems rfl (pb_var 4) (by rfl) T.f_list) pad_nil)))))))))), ?_⟩
  clear hr tk pso hl hu hu1
  obtain ⟨p, x, hp, ⟨y, rfl, hl2, hq⟩ | ⟨i, rfl, hl2, hq⟩ | ⟨p', y, rfl, hne, hq⟩⟩ := hF
  · have hp0 := isPr_pos hp
    unfold nt at hl2
    simp only [fo]
    walk_at "d"
    refine ⟨ok_obj cs_Filter _, ?_⟩
    simp only [isInt, bq]
    walk_at "d"
    refine ⟨rfl, rfl, p, rfl, .inl ⟨rfl, ?_⟩⟩
    refine mul_out rfl rfl hp0.1 (can x) (can y) (can x) [] _ _ _ _ n (fun t ht => by have := can_small hp0.1 x t ht; omega) (by rw [List.length_nil]; omega) fun x' y' z w => ?_
    walk_at "d"
    have hln := hsum_length p (prods (can x) (can y))
    rw [prods_length] at hln
    refine ⟨p, _, hsum p (prods (can x) (can y)), by rw [items_kvp], rfl, hp, by omega, ?_⟩
    rw [canon_hsum hp0.1, can_of hp0.1 (show lp p (prods (can x) (can y)) = x * y by rw [← lp_mul, lp_can hp0.1, lp_can hp0.1])]
    exact hq
  · have hp0 := isPr_pos hp
    unfold nt at hl2
    simp only [fo]
    walk_at "d"
    refine ⟨ok_int _, ?_⟩
    simp only [isInt, bq]
    walk_at "d"
    refine lcD_all trm (fun t => trm (t.1, i * t.2)) (can x) _ (fun t ht K h => ?_) (by omega) ?_
    · have := can_small hp0.1 x t ht
      walk_at "d"
      exact ⟨.inl (.inr ⟨by omega, by omega⟩), by decide, h⟩
    · rw [mapTrm]
      refine ⟨p, _, _, rfl, rfl, hp, by rw [List.length_map]; omega, ?_⟩
      have e := lp_scale hp0.1 0 i x
      simp only [Int.sub_zero] at e
      rw [can_of hp0.1 e]
      exact hq
  · simp only [fo]
    walk_at "d"
    refine ⟨ok_obj cs_Filter _, ?_⟩
    simp only [isInt, bq]
    walk_at "d"
    exact ⟨rfl, rfl, p, rfl, .inr ⟨p', hne, rfl, hq⟩⟩
end

end My

namespace My
open PySem PySem.Spec L2 DL
theorem sc_Filter_shift : FnScope ["cls", "prime", "offset"] ["cls", "prime", "offset"] (defScope (inClass (top 22) 1)) := ⟨rfl, rfl, rfl, by decide +kernel, rfl, by decide +kernel, by decide +kernel⟩
section
variable {P : Program} {w : World} {K : PySem.W.Frag} {mg : Str → Option Value} {base : Heap}
theorem ok_Filter_shift (T : Top K mg) : Cg P w K mg base "Filter" "shift" 5 3 F_Filter_shift [] := by
  obtain ⟨fd, FD⟩ := T.d_Filter_shift
  refine ⟨T.g_Filter, T.cr_Filter, _, _, fd, ["cls", "prime", "offset"], [], [], ?_, T.cm_Filter_shift, FD.bindsN (fun _ _ _ _ _ _ us hl => match us, hl with | [_, _, _], _ => rfl), .nil, fun _ => .nil⟩
  refine ok_def FD sc_Filter_shift rfl ?_
  rintro X E W ds n q xx ⟨cdv, A, outer, s, H, rfl⟩ hr tk pso hl hF
  have hu := hr.units
  have hu1 := hu_of hr
  refine ⟨_, (pss_oneD (ps_retD (pd_makeV 0 (ok_Filter___init__ T) (hr.mono (by decide)) tk (pad_cons (pd_var 1) (pad_cons (PF.pd (pf_lst (pad_cons (pd_tup (pad_cons (pd_var 2) (pad_cons pd_int pad_nil))) pad_nil))) pad_nil))))), ?_⟩
  clear hr tk pso hl hu hu1
  obtain ⟨ds, rfl, hF⟩ := hF
  obtain ⟨p, k, rfl, hp, hq⟩ := hF
  have hp0 := isPr_pos hp
  walk_at "d"
  refine ⟨rfl, by decide, by decide, p, _, [(k, 1)], rfl, rfl, hp, by rw [List.length_singleton]; decide, ?_⟩
  rw [can_of hp0.1 (x := mono p k 1) rfl]
  exact hq
end

end My

namespace My
open PySem PySem.Spec L2 DL
theorem sc__law_shifts_right : FnScope ["_law_spring_here", "_law_p", "_law_g", "_law_a", "_law_b", "_law_one", "_law_two", "_law_back", "_law_offset", "_law_coefficient", "_law_both", "_law_near"] ["_law_spring_here", "_law_p", "_law_g"] (defScope (top 42)) := ⟨rfl, rfl, rfl, by decide +kernel, rfl, by decide +kernel, by decide +kernel⟩
section
variable {P : Program} {w : World} {K : PySem.W.Frag} {mg : Str → Option Value} {base : Heap}
theorem ok__law_shifts_right (T : Top K mg) : Sg P w K mg base "_law_shifts_right" 8 3 F__law_shifts_right [] := by
  obtain ⟨fd, FD⟩ := T.d__law_shifts_right
  refine ⟨_, fd, ["_law_spring_here", "_law_p", "_law_g"], [], [], ?_, T.g__law_shifts_right, FD.kp, FD.bindsN (fun _ _ _ _ _ _ us hl => match us, hl with | [_, _, _], _ => rfl), .nil, fun _ => .nil⟩
  refine ok_def FD sc__law_shifts_right rfl ?_
  rintro X E W ds n q xx ⟨cdv, A, outer, s, H, rfl⟩ hr tk pso hl hF
  have hu := hr.units
  have hu1 := hu_of hr
  refine ⟨_, (pss_consD (ps_parD 3 4 rfl sc__law_shifts_right.nd (pad_cons (pd_call (ok__law_far T) (hr.mono (by decide)) tk (by rfl) (pad_cons (pd_var 0) pad_nil)) (pad_cons (pd_call (ok__law_far T) (hr.mono (by decide)) tk (by rfl) (pad_cons (pd_var 0) pad_nil)) pad_nil)))
      (pss_consD (ps_ifD (PWD.pt (pwd_or (pt_gt (PD.pb (pd_add (pb_var 3) (pb_var 4))) (PD.pb (pd_pow (PD.pb pd_int) (PD.pb pd_int)))) (pwd_or1 (pt_lt (PD.pb (pd_add (pb_var 3) (pb_var 4))) (PD.pb (pd_sub (PD.pb pd_int) (PD.pb (pd_pow (PD.pb pd_int) (PD.pb pd_int))))))))) (pss_oneD (ps_setD 4 (pd_sub (PD.pb pd_int) (pb_var 4)) sc__law_shifts_right.nd)) pss_nilD)
      (pss_consD (ps_parD 5 6 rfl sc__law_shifts_right.nd (pad_cons (pd_binO T.op_Filter_Mod opI_mod (ok_Filter___mod__ T) (hr.mono (by decide)) tk (pd_cmeth (ok_Filter_shift T) (hr.mono (by decide)) tk (by rfl) (pad_cons (pd_var 1) (pad_cons (pd_var 3) pad_nil))) (pd_var 2)) (pad_cons (pd_binO T.op_Filter_Mod opI_mod (ok_Filter___mod__ T) (hr.mono (by decide)) tk (pd_cmeth (ok_Filter_shift T) (hr.mono (by decide)) tk (by rfl) (pad_cons (pd_var 1) (pad_cons (pd_var 4) pad_nil))) (pd_var 2)) pad_nil)))
      (pss_consD (ps_setD 7 (pd_binO T.op_Filter_Mod opI_mod (ok_Filter___mod__ T) (hr.mono (by decide)) tk (pd_cmeth (ok_Filter_shift T) (hr.mono (by decide)) tk (by rfl) (pad_cons (pd_var 1) (pad_cons (pd_sub (PD.pb pd_int) (pb_var 3)) pad_nil))) (pd_var 2)) sc__law_shifts_right.nd)
      (pss_consD (ps_ifD (pt_valD (PD.pb (pd_callB (cr_any rfl) dcall_any (by rfl) T.f_any (by decide +kernel) (pab_cons (PD.pb (PF.pd (pf_lc [("_law_offset", 8), ("_law_coefficient", 9)] rfl sc__law_shifts_right.nd (pid_seq (pd_add (PD.pb (pd_meth0 (ok_Filter_terms T) (hr.mono (by decide)) tk (pd_var 5))) (PD.pb (pd_meth0 (ok_Filter_terms T) (hr.mono (by decide)) tk (pd_var 6))))) (blkOk_by (own := [("_law_offset", 8), ("_law_coefficient", 9)]) (N := ["_law_spring_here", "_law_p", "_law_g", "_law_a", "_law_b", "_law_one", "_law_two", "_law_back", "_law_offset", "_law_coefficient", "_law_both", "_law_near"]) (sc := defScope (top 42)) (by decide +kernel)) (fun _ _ _ _ _ => (pgd_tup (m := 2) rfl (pgsd_cons (pgd_name 8 sc__law_shifts_right.nd) (pgsd_cons (pgd_name 9 sc__law_shifts_right.nd) pgsd_nil)))) (fun _ _ _ _ _ => ptsD_nil) (fun _ _ _ _ _ => (pd_or (pd_lt (pb_var 8) (PD.pb pd_int)) (pd_one (pd_ge (pb_var 8) (PD.pb (pd_meth0 (ok_Filter_span T) (hr.mono (by decide)) DL.takes0 (pd_var 2)))))))))) pab_nil)))) (pss_oneD (ps_retD pd_bl)) pss_nilD)
      (pss_consD (ps_parD 10 11 rfl sc__law_shifts_right.nd (pad_cons (pd_binO T.op_Filter_Mod opI_mod (ok_Filter___mod__ T) (hr.mono (by decide)) tk (pd_binO T.op_Filter_Mult opI_mul (ok_Filter___mul__ T) (hr.mono (by decide)) tk (pd_var 5) (pd_var 6)) (pd_var 2)) (pad_cons (pd_binO T.op_Filter_Mod opI_mod (ok_Filter___mod__ T) (hr.mono (by decide)) tk (pd_make (ok_Filter___init__ T) (hr.mono (by decide)) tk (by rfl) (pad_cons (pd_var 1) (pad_cons (PF.pd (pf_lst (pad_cons (pd_tup (pad_cons pd_int (pad_cons pd_int pad_nil))) pad_nil))) pad_nil))) (pd_var 2)) pad_nil)))
      (pss_oneD (ps_retD (pd_and (pd_eqO T.tyf T.eq_Filter (ok_Filter___eq__ T) (hr.mono (by decide)) tk (pd_var 10) (pd_binO T.op_Filter_Mod opI_mod (ok_Filter___mod__ T) (hr.mono (by decide)) tk (pd_cmeth (ok_Filter_shift T) (hr.mono (by decide)) tk (by rfl) (pad_cons (pd_var 1) (pad_cons (pd_add (pb_var 3) (pb_var 4)) pad_nil))) (pd_var 2))) (pd_one (pd_eqO T.tyf T.eq_Filter (ok_Filter___eq__ T) (hr.mono (by decide)) tk (pd_binO T.op_Filter_Mod opI_mod (ok_Filter___mod__ T) (hr.mono (by decide)) tk (pd_binO T.op_Filter_Mult opI_mul (ok_Filter___mul__ T) (hr.mono (by decide)) tk (pd_var 5) (pd_var 7)) (pd_var 2)) (pd_var 11)))))))))))), ?_⟩
  clear hr tk pso hl hu hu1
  obtain ⟨s0, p, g, rfl, hW, hp, hg, hs, hgl, hn, hq⟩ := hF
  have hp0 := isPr_pos hp
  have s0' := sp_nonneg hp0.1 hg
  have md1 : ∀ {x : LP p} {n : Nat} {q : D → Nat → Prop} {xx : Xn → Nat → Prop}, nt x ≤ 1 → (∀ r, IsMod x g r → q (fo r) n) → F_Filter___mod__ W [fo x, fo g] n q xx := fun {x n q xx} hx h => by
    refine .inl ⟨p, x, g, rfl, hp, hg, by omega, by omega, by omega, .inr ?_, h⟩
    have : (nt x : Int) = 0 ∨ (nt x : Int) = 1 := by omega
    rcases this with e | e <;> rw [e] <;> omega
  have md2 : ∀ {x : LP p} {n : Nat} {q : D → Nat → Prop} {xx : Xn → Nat → Prop}, Bd x (-2000) 2000 → (∀ r, IsMod x g r → q (fo r) n) → F_Filter___mod__ W [fo x, fo g] n q xx := fun {x n q xx} hx h => by
    refine .inl ⟨p, x, g, rfl, hp, hg, by omega, by omega, ?_, .inl hx, h⟩
    have := hx.nt hp0.1; omega
  walk_at "d"
  refine ⟨s0, rfl, hW, by omega, fun a n1 h1 => ⟨s0, rfl, hW, by omega, fun b n2 h2 => ⟨by decide, ?_⟩⟩⟩
  have m1 : ∀ k : Int, nt (mono p k 1) ≤ 1 := fun k => mono_run (p := p) hp0.1 k 1
  have mm : ∀ a b : Int, mono p a 1 * mono p b 1 = mono p (a + b) 1 := fun a b => by rw [mono_mul, Int.mul_one]
  have dd : ∀ {a b c : Int} {F S r t : LP p}, a + b = c → IsMod (mono p a 1) g F → IsMod (mono p b 1) g S → IsMod (F * S) g r → IsMod (mono p c 1) g t → r = t := fun {a b c F S r t} e h1 h2 h3 h4 => by
    refine mod_uniq hp hg h3 h4 ?_
    have : F * S - mono p c 1 = -(mono p b 1 * (mono p a 1 - F) + F * (mono p b 1 - S)) := by
      rw [← e, ← mm]; grind
    rw [this]
    exact ((h1.dv.mul _).add (h2.dv.mul _)).neg
  walk_at "d"
  split
  rotate_left
  refine ⟨by decide, ?_⟩
  split
  all_goals (
    refine ⟨p, a, rfl, hp, ⟨_, rfl⟩, rfl, md1 (m1 a) fun r1 e1 => ?_⟩
    refine ⟨p, _, rfl, hp, ⟨_, rfl⟩, rfl, md1 (m1 _) fun r2 e2 => ?_⟩
    refine ⟨p, _, rfl, hp, ⟨_, rfl⟩, rfl, md1 (m1 _) fun r3 e3 => ?_⟩
    walk_at "d"
    refine ⟨p, can r1, rfl, p, can r2, rfl, ?_⟩
    have t1 := e1.2.nt hp0.1
    have t2 := e2.2.nt hp0.1
    have t3 := e3.2.nt hp0.1
    walk_at "d"
    refine ⟨by show nt r1 + nt r2 ≤ 16777216; omega, ?_⟩
    rw [← List.map_append]
    refine lcD_all trm (fun _ => .bl false) _ _ (fun t ht K h => ?_) (by rw [List.length_append]; show nt r1 + nt r2 < 16777216; omega) ?_
    · have hb : 0 ≤ t.1 ∧ t.1 ≤ sp g - 1 := by
        rcases List.mem_append.mp ht with ht | ht
        · exact e1.2.mem hp0.1 t ht
        · exact e2.2.mem hp0.1 t ht
      have l0 : ¬ t.1 < 0 := by omega
      walk_at "d"
      simp only [l0, decide_false, Bool.false_eq_true, if_false]
      refine ⟨rfl, p, can g, rfl, ?_⟩
      rw [span_eq hp0.1 hg]
      have l1 : ¬ sp g ≤ t.1 := by omega
      simp only [oi, l1, decide_false]
      exact h
    have eb : ∀ (L : Tm), boolsD (L.map fun _ => D.bl false) = some (L.map fun _ => false) := fun L => by
      induction L with
      | nil => rfl
      | cons t L ih => rw [List.map_cons, boolsD, ih]; rfl
    rw [eb]
    have ea : ∀ (L : Tm), (L.map fun _ => false).any id = false := fun L => by
      induction L with
      | nil => rfl
      | cons t L ih => rw [List.map_cons, List.any_cons, ih]; rfl
    walk_at "d"
    rw [ea]
    walk_at "d"
    have n12 : nt r1 * nt r2 < 1000000 := by have := Nat.mul_le_mul (show nt r1 ≤ 100 by omega) (show nt r2 ≤ 100 by omega); omega
    have n13 : nt r1 * nt r3 < 1000000 := by have := Nat.mul_le_mul (show nt r1 ≤ 100 by omega) (show nt r3 ≤ 100 by omega); omega
    refine ⟨⟨_, rfl⟩, rfl, p, r1, hp, .inl ⟨r2, rfl, n12, ⟨_, rfl⟩, rfl, md2 (Bd.mono (Bd.mul hp0.1 e1.2 e2.2) (by omega) (by omega)) fun r4 e4 => ?_⟩⟩
    refine ⟨by decide, by decide, p, _, [(0, 1)], rfl, rfl, hp, by decide, ?_⟩
    rw [can_of hp0.1 (x := mono p 0 1) rfl]
    refine ⟨⟨_, rfl⟩, rfl, md1 (m1 0) fun r5 e5 => ?_⟩
    refine ⟨p, _, rfl, hp, ⟨_, rfl⟩, rfl, md1 (m1 _) fun r6 e6 => ?_⟩
    walk_at "d"
    have q4 := e4.2.nt hp0.1
    have q5 := e5.2.nt hp0.1
    have q6 := e6.2.nt hp0.1
    obtain rfl := dd (by omega) e1 e2 e4 e6
    refine ⟨⟨_, rfl⟩, p, can r4, p, can r4, rfl, by show nt r4 < 1000000; omega, by show nt r4 < 1000000; omega, ?_⟩
    simp only [decide_true, and_self]
    walk_at "d"
    refine ⟨⟨_, rfl⟩, rfl, p, r1, hp, .inl ⟨r3, rfl, n13, ⟨_, rfl⟩, rfl, md2 (Bd.mono (Bd.mul hp0.1 e1.2 e3.2) (by omega) (by omega)) fun r7 e7 => ?_⟩⟩
    have q7 := e7.2.nt hp0.1
    obtain rfl := dd (by omega) e1 e3 e7 e5
    walk_at "d"
    refine ⟨⟨_, rfl⟩, p, can r7, p, can r7, rfl, by show nt r7 < 1000000; omega, by show nt r7 < 1000000; omega, ?_⟩
    simp only [decide_true, and_self]
    exact hq _ (by omega))
end

end My

namespace My
open PySem PySem.Spec L2 DL
theorem sc__law_some : FnScope ["_law_spring_here", "_law_prime_here", "_law_most", "_law_reach", "_law_found", "_law_offset"] ["_law_spring_here", "_law_prime_here", "_law_most", "_law_reach"] (defScope (top 33)) := ⟨rfl, rfl, rfl, by decide +kernel, rfl, by decide +kernel, by decide +kernel⟩
section
variable {P : Program} {w : World} {K : PySem.W.Frag} {mg : Str → Option Value} {base : Heap}
theorem canon_mono {p : Int} (hp : 0 < p) (k c : Int) (h0 : 0 < c) (h1 : c < p) : canon p [(k, c)] = [(k, c)] := by
  have hm : c % p = c := Int.emod_eq_of_lt (by omega) h1
  refine pair_ext (canon_sorted p _) (by simp) fun j v => ?_
  rw [canon_mem hp, csum_cons, csum_nil]
  by_cases e : k = j
  · subst e
    simp [hm]
    omega
  · have e' : ¬ j = k := fun z => e z.symm
    simp [e, e']
    omega
theorem ok__law_some (T : Top K mg) : Sg P w K mg base "_law_some" 3 4 F__law_some [] := by
  obtain ⟨fd, FD⟩ := T.d__law_some
  refine ⟨_, fd, ["_law_spring_here", "_law_prime_here", "_law_most", "_law_reach"], [], [], ?_, T.g__law_some, FD.kp, FD.bindsN (fun _ _ _ _ _ _ us hl => match us, hl with | [_, _, _, _], _ => rfl), .nil, fun _ => .nil⟩
  refine ok_def FD sc__law_some rfl ?_
  rintro X E W ds n q xx ⟨cdv, A, outer, s, H, rfl⟩ hr tk pso hl hF
  have hu := hr.units
  have hu1 := hu_of hr
  refine ⟨_, (pss_consD (ps_ownD 4 (pf_call (ok__law_drawn T) (hr.mono (by decide)) tk (by rfl) (pad_cons (pd_var 0) (pad_cons (pd_var 1) (pad_cons (pd_var 2) (pad_cons (pd_var 3) pad_nil))))) sc__law_some.nd)
      (pss_consD (ps_ifD (pt_eqDct hu (pb_var 4) (PD.pb (PF.pd pf_dct0))) (pss_consD (ps_setD 5 (pd_sub (PD.pb (pd_call (ok__law_draw T) (hr.mono (by decide)) tk (by rfl) (pad_cons (pd_var 0) (pad_cons (pd_add (PD.pb (pd_mul (PD.pb pd_int) (pb_var 3))) (PD.pb pd_int)) pad_nil)))) (pb_var 3)) sc__law_some.nd)
      (pss_oneD (ps_putD 4 hu1 (pb_var 5) (pd_add (PD.pb pd_int) (PD.pb (pd_call (ok__law_draw T) (hr.mono (by decide)) tk (by rfl) (pad_cons (pd_var 0) (pad_cons (pd_sub (pb_var 1) (PD.pb pd_int)) pad_nil)))))))) pss_nilD)
      (pss_frz 4 (pss_oneD (ps_retD (pd_var 4)))))), ?_⟩
  clear hr tk pso hl hu hu1
  obtain ⟨s0, p, most, reach, rfl, hW, hp, hm0, hm, hr2, hn, hq⟩ := hF
  have hp0 := isPr_pos hp
  have hp2 : 2 ≤ p := by rcases isPr_cases hp with h | h | h | h <;> omega
  walk_at "d"
  refine ⟨s0, p, most, reach, rfl, hW, hp, hm, hr2, hn, fun x n1 h1 h2 h3 => ?_⟩
  walk_at "d"
  refine ⟨?_, rfl, ?_⟩
  · rw [List.all_eq_true]
    intro q hq
    obtain ⟨t, _, rfl⟩ := List.mem_map.mp hq
    rfl
  by_cases e : x = 0
  · subst e
    rw [can_zero hp0.1, if_pos (by rfl)]
    refine ⟨.inl (.inl ⟨by decide, by decide⟩), hW, by omega, by omega, by omega, fun k hk => ?_⟩
    walk_at "d"
    refine ⟨hW, by omega, by omega, by omega, fun j hj => ?_⟩
    walk_at "d"
    have hj1 : (1 + (j : Int)) % p ≠ 0 := by rw [Int.emod_eq_of_lt (by omega) (by omega)]; omega
    have hc := canon_mono hp0.1 ((k : Int) - reach) (1 + (j : Int)) (by omega) (by omega)
    have hl := mono_lo (p := p) ((k : Int) - reach) hj1
    have hdk : dk (mono p ((k : Int) - reach) (1 + (j : Int))) = D.dct (List.map kvp (putI [] ((k : Int) - reach) (1 + (j : Int)))) := by
      unfold dk mono
      rw [can_lp hp0.1, hc]; rfl
    rw [← hdk]
    refine hq _ _ hl.ne ?_ (.lp fun t ht => ?_) (by omega)
    · have := nt_lp hp0.1 [((k : Int) - reach, 1 + (j : Int))]
      unfold mono
      rw [List.length_singleton] at this
      omega
    · rw [List.mem_singleton.mp ht]; constructor <;> omega
  · have e2 : (List.length (can x) == 0 && eqKD (List.map kvp (can x)) []) = false := by
      cases e3 : can x with
      | nil => exact absurd ((can_nil hp0.1).mp e3) e
      | cons a b => rfl
    rw [e2]
    exact hq x n1 e h1 h2 (by omega)
end

end My

namespace My
open PySem PySem.Spec L2 DL
theorem sc__law_times : FnScope ["_law_prime_here", "_law_one", "_law_two", "_law_terms", "_law_offset", "_law_other_here"] ["_law_prime_here", "_law_one", "_law_two"] (defScope (top 31)) := ⟨rfl, rfl, rfl, by decide +kernel, rfl, by decide +kernel, by decide +kernel⟩
section
variable {P : Program} {w : World} {K : PySem.W.Frag} {mg : Str → Option Value} {base : Heap}
def prodF (k v : Int) (S : Tm) : D → Option D
  | .int j => some (trm (k + j, v * getI S j))
  | _ => none
theorem prodF_eq' (k v : Int) (S : Tm) : ∀ us : Tm, (∀ u ∈ us, getI S u.1 = u.2) → ((us.map (·.1)).map D.int).filterMap (prodF k v S) = (us.map fun u => (k + u.1, v * u.2)).map trm
  | [], _ => rfl
  | u :: us, h => by
    rw [List.map_cons, List.map_cons, List.filterMap_cons, prodF_eq' k v S us (fun u hu => h u (List.mem_cons_of_mem _ hu))]
    simp only [prodF]
    rw [h u (List.mem_cons_self ..)]
    rfl
theorem times_loop {E : DEnds} (S us : Tm) (hn : (us.map (·.1)).Nodup) (o : Option Sl) (ts : Tm) : ∀ (acc : Tm) (x : Option Sl) (n : Nat), (∀ t ∈ ts, t.1 ∈ S.map (·.1) ∧ getI S t.1 = t.2 ∧ 0 ≤ t.2 ∧ t.2 < 10) → us.length < 1000000 → acc.length + ts.length * us.length < 1000000 → (∀ x, E.nx [o, some (.val (.dct (S.map kvp))), some (.val (.dct (us.map kvp))), some (.own (.lst ((acc ++ prods ts us).map trm))), x, none] n) →
    forD (gN 4) (dExt 3 (dLc (iKy (dVar 2)) (gN 5) dYes (dTup (dCons (dOp fAdd (bVar 4) (bVar 5)) (dCons (dOp fMul (dOp fDg (bVar 1) (bVar 4)) (dOp fDg (bVar 2) (bVar 5))) dNil))) [5])) ((ts.map (·.1)).map D.int) E [o, some (.val (.dct (S.map kvp))), some (.val (.dct (us.map kvp))), some (.own (.lst (acc.map trm))), x, none] n := by
  induction ts with
  | nil => intro acc x n _ _ _ h; have z := h x; rw [show prods [] us = [] from rfl, List.append_nil] at z; exact z
  | cons t ts ih =>
    intro acc x n ht hu hl h
    obtain ⟨m1, m2, m3, m4⟩ := ht t (List.mem_cons_self ..)
    rw [List.length_cons, Nat.succ_mul] at hl
    rw [List.map_cons, List.map_cons, forD_cons]
    walk_at "d"
    refine lcD_map (prodF t.1 t.2 us) _ _ _ (fun d hd K h => ?_) (by simp; omega) ?_
    · obtain ⟨k, hk, rfl⟩ := List.mem_map.mp hd
      walk_at "d"
      rw [get_kvp' m1, m2]
      walk_at "d"
      rw [get_kvp' hk]
      exact ⟨.inl (.inl ⟨by omega, by omega⟩), by decide, h⟩
    · rw [List.nil_append, prodF_eq' t.1 t.2 us us (fun u hu => getI_mem hn hu), List.length_map, List.length_map]
      refine ⟨by omega, ?_⟩
      rw [← List.map_append]
      refine ih _ _ _ (fun u hu => ht u (List.mem_cons_of_mem _ hu)) hu ?_ fun x => ?_
      · rw [List.length_append, List.length_map]; omega
      · rw [List.append_assoc, ← prods_cons]
        exact h x
theorem ok__law_times (T : Top K mg) : Sg P w K mg base "_law_times" 2 3 F__law_times [] := by
  obtain ⟨fd, FD⟩ := T.d__law_times
  refine ⟨_, fd, ["_law_prime_here", "_law_one", "_law_two"], [], [], ?_, T.g__law_times, FD.kp, FD.bindsN (fun _ _ _ _ _ _ us hl => match us, hl with | [_, _, _], _ => rfl), .nil, fun _ => .nil⟩
  refine ok_def FD sc__law_times rfl ?_
  rintro X E W ds n q xx ⟨cdv, A, outer, s, H, rfl⟩ hr tk pso hl hF
  have hu := hr.units
  have hu1 := hu_of hr
  refine ⟨_, (pss_consD (ps_ownD 3 (pf_lst pad_nil) sc__law_times.nd)
      (pss_consD (ps_forD pso rfl (pid_keys (pd_var 1)) (pgd_name 4 sc__law_times.nd) (pss_oneD (ps_extD 3 (PF.pd (pf_lc [("_law_other_here", 5)] rfl sc__law_times.nd (pid_keys (pd_var 2)) (blkOk_by (own := [("_law_other_here", 5)]) (N := ["_law_prime_here", "_law_one", "_law_two", "_law_terms", "_law_offset", "_law_other_here"]) (sc := defScope (top 31)) (by decide +kernel)) (fun _ _ _ _ _ => (pgd_name 5 sc__law_times.nd)) (fun _ _ _ _ _ => ptsD_nil) (fun _ _ _ _ _ => (pd_tup (pad_cons (pd_add (pb_var 4) (pb_var 5)) (pad_cons (pd_mul (PD.pb (pd_dg hu1 (pb_var 1) (pb_var 4))) (PD.pb (pd_dg hu1 (pb_var 2) (pb_var 5)))) pad_nil)))))))))
      (pss_frz 3 (pss_oneD (ps_retD (PF.pd (pf_call (ok__law_held T) (hr.mono (by decide)) tk (by rfl) (pad_cons (pd_var 0) (pad_cons (pd_var 3) pad_nil))))))))), ?_⟩
  clear hr tk pso hl hu hu1
  obtain ⟨p, x, y, rfl, hp, hy, hxy, hq⟩ := hF
  have hp0 := isPr_pos hp
  unfold nt at hy hxy
  walk_at "d"
  refine ⟨by decide, ?_⟩
  refine times_loop (can x) (can y) (can_nodup y) _ (can x) [] _ n (fun t ht => ⟨List.mem_map.mpr ⟨t, ht, rfl⟩, getI_mem (can_nodup x) ht, by have := can_small hp0.1 x t ht; omega⟩) hy (by rw [List.length_nil]; omega) fun x' => ?_
  walk_at "d"
  refine ⟨p, prods (can x) (can y), rfl, hp0.1, by rw [prods_length]; exact hxy, ?_⟩
  rw [can_of hp0.1 (show lp p (prods (can x) (can y)) = x * y by rw [← lp_mul, lp_can hp0.1, lp_can hp0.1])]
  exact hq
end

end My

namespace My
open PySem PySem.Spec L2 DL
theorem sc__law_spring : FnScope ["_law_script"] ["_law_script"] (defScope (top 24)) := ⟨rfl, rfl, rfl, by decide +kernel, rfl, by decide +kernel, by decide +kernel⟩
theorem sc_law : FnScope ["_law_script", "_law_spring_here", "_law_turn", "_law_p", "_law_divisor", "_law_quotient", "_law_span", "_law_rest", "_law_k", "_law_whole", "_law_f", "_law_g", "_law_near"] ["_law_script"] (defScope (top 43)) := ⟨rfl, rfl, rfl, by decide +kernel, rfl, by decide +kernel, by decide +kernel⟩
section
variable {P : Program} {w : World} {K : PySem.W.Frag} {mg : Str → Option Value} {base : Heap}
theorem lp_list {p : Int} {m : Nat} {ts : Tm} (h : ts.length = m) (hk : ∀ i : Nat, i < m → (ts[i]?).map (·.1) = some (i : Int)) : Bd (lp p ts) 0 ((m : Int) - 1) := Bd.lp fun t ht => by
  obtain ⟨i, hi⟩ := List.mem_iff_getElem?.mp ht
  have hlt := (List.getElem?_eq_some_iff.mp hi).1
  have := hk i (by omega)
  rw [hi] at this
  simp at this
  omega


def spSpring (K : PySem.W.Frag) : Sp := fun vs H Q _ => ∃ (a : Addr) (ns : List Int), vs = [.ref a] ∧ SqL K H a (ns.map V.int) ∧ ns.length ≤ 63 ∧ ∀ c s0, H c = none → H s0 = none → s0 ≠ c → Q (.ref s0) (upd (upd H c (.lst (ns.map V.int))) s0 (.lst [.ref c, .int 0, .int 0, .int 7]))
theorem ok__law_spring (T : Top K mg) : ∃ fd, FnOk P w K mg base (L2.CX P w) 1 (ca K "_law_spring") fd ["_law_script"] (spSpring K) ∧ PySem.W.keepIn K (.ref (ca K "_law_spring")) = true ∧ Binds K fd ["_law_script"] [] := by
  obtain ⟨fd, FD⟩ := T.d__law_spring
  refine ⟨fd, ?_, FD.kp, FD.bindsN (fun _ _ _ _ _ _ us hl => match us, hl with | [_], _ => rfl)⟩
  refine FD.ok sc__law_spring (fun vs H Q E h => ?_) (fun cdv A outer sh H vs Q E hr h => ?_)
  · obtain ⟨a, ns, rfl, _⟩ := h
    rfl
  · obtain ⟨a, ns, rfl, hS, hl, hQ⟩ := h
    refine ⟨_, pss_one (ps_ret (pe_lst (pa_cons (pe_callTy call_list_of (by rfl) T.f_list (by decide +kernel) (pa_cons (pv 0) pa_nil)) (pa_cons pe_int (pa_cons pe_int (pa_cons pe_int pa_nil)))))), ?_⟩
    refine ⟨_, rfl, a, _, rfl, .inl hS, fun c nc => ?_⟩
    refine ⟨by show 4 ≤ sizeLine; decide, fun s0 ns0 => ?_⟩
    have ne : s0 ≠ c := fun z => by rw [z, upd_same] at ns0; cases ns0
    rw [upd_ne ne] at ns0
    exact hQ c s0 nc ns0 ne
def spLaw (K : PySem.W.Frag) : Sp := fun vs H Q _ => ∃ (a : Addr) (ns : List Int), vs = [.ref a] ∧ SqL K H a (ns.map V.int) ∧ ns.length ≤ 63 ∧ (∀ x ∈ tfn, H (He.cT K (x, none)).2 = some (.tbl #[])) ∧ ∀ H', Q (.bl true) H'
theorem ok_law (T : Top K mg) {fd : FuncData} (FD : FunD K "law" "law" (defArgs (top 43)) (defBody (top 43)) (defScope (top 43)) [] [] (ca K "law") fd) (TBS : TBs K mg base) : FnOk P w K mg base (L2.CX P w) 11 (ca K "law") fd ["_law_script"] (spLaw K) := by
  refine okC (p := ("law", none)) FD sc_law (fun vs H Q E h => ?_) (fun cdv A outer sh H vs Q E hcdv hr h => ?_)
  · obtain ⟨a, ns, rfl, _⟩ := h
    rfl
  · obtain ⟨a, ns, rfl, hS, hl, hTb, hQ⟩ := h
    obtain ⟨fd__law_tried, FD__law_tried⟩ := T.d__law_tried
    obtain ⟨fdS, okS, kpS, hbS⟩ := ok__law_spring (P := P) (w := w) (base := base) T
    have hu := hr.units
    have hu1 := hu_of hr
    have tk : Takes (cxOf (L2.CX P w) P w K mg base ["_law_script", "_law_spring_here", "_law_turn", "_law_p", "_law_divisor", "_law_quotient", "_law_span", "_law_rest", "_law_k", "_law_whole", "_law_f", "_law_g", "_law_near"] "law" (defScope (top 43)) (ca K "law") cdv A outer sh H E) (fun c d _ H => E c d H) := takes_of rfl rfl rfl rfl
    have pso : PassesOwn (model P w) (cxOf (L2.CX P w) P w K mg base ["_law_script", "_law_spring_here", "_law_turn", "_law_p", "_law_divisor", "_law_quotient", "_law_span", "_law_rest", "_law_k", "_law_whole", "_law_f", "_law_g", "_law_near"] "law" (defScope (top 43)) (ca K "law") cdv A outer sh H E).A (cxOf (L2.CX P w) P w K mg base ["_law_script", "_law_spring_here", "_law_turn", "_law_p", "_law_divisor", "_law_quotient", "_law_span", "_law_rest", "_law_k", "_law_whole", "_law_f", "_law_g", "_law_near"] "law" (defScope (top 43)) (ca K "law") cdv A outer sh H E).env (cxOf (L2.CX P w) P w K mg base ["_law_script", "_law_spring_here", "_law_turn", "_law_p", "_law_divisor", "_law_quotient", "_law_span", "_law_rest", "_law_k", "_law_whole", "_law_f", "_law_g", "_law_near"] "law" (defScope (top 43)) (ca K "law") cdv A outer sh H E).xe := passes_of rfl
    obtain ⟨δ, ⟨t2, p2, e2⟩, h2⟩ : ∃ δ, PSsD (cxOf (L2.CX P w) P w K mg base ["_law_script", "_law_spring_here", "_law_turn", "_law_p", "_law_divisor", "_law_quotient", "_law_span", "_law_rest", "_law_k", "_law_whole", "_law_f", "_law_g", "_law_near"] "law" (defScope (top 43)) (ca K "law") cdv A outer sh H E) (fun c d _ H => E c d H) ((defBody (top 43)).drop 1) δ ∧ ∀ (W : Wd) (s0 : Addr) (c : SpC), W = sprW s0 c → (∀ x ∈ tfn, LW K x W) → δ (endsD W (fun d _ => d = .bl true) (fun _ _ => False)) [none, some (.val (.hnd s0)), none, none, none, none, none, none, none, none, none, none, none] 0 := by
      refine ⟨_, (pss_consD (ps_forD pso rfl (pid_r1 (by rfl) T.f_range (pab_cons (PD.pb pd_int) pab_nil)) (pgd_name 2 sc_law.nd) (pss_consD (ps_setD 3 (pd_call (ok__law_prime T) (hr.mono (by decide)) tk (by rfl) (pad_cons (pd_var 1) pad_nil)) sc_law.nd)
      (pss_consD (ps_parD 4 5 rfl sc_law.nd (pad_cons (pd_call (ok__law_some T) (hr.mono (by decide)) tk (by rfl) (pad_cons (pd_var 1) (pad_cons (pd_var 3) (pad_cons pd_int (pad_cons pd_int pad_nil))))) (pad_cons (PF.pd (pf_call (ok__law_drawn T) (hr.mono (by decide)) tk (by rfl) (pad_cons (pd_var 1) (pad_cons (pd_var 3) (pad_cons pd_int (pad_cons pd_int pad_nil)))))) pad_nil)))
      (pss_consD (ps_setD 6 (pd_sub (PD.pb (pd_ix (PD.pb (pd_ix (PD.pb (pd_call (ok__law_pairs T) (hr.mono (by decide)) tk (by rfl) (pad_cons (pd_var 4) pad_nil))) (PD.pb (pd_neg (PD.pb pd_int))))) (PD.pb pd_int))) (PD.pb (pd_ix (PD.pb (pd_ix (PD.pb (pd_call (ok__law_pairs T) (hr.mono (by decide)) tk (by rfl) (pad_cons (pd_var 4) pad_nil))) (PD.pb pd_int))) (PD.pb pd_int)))) sc_law.nd)
      (pss_consD (ps_setD 7 (PF.pd (pf_call (ok__law_held T) (hr.mono (by decide)) tk (by rfl) (pad_cons (pd_var 3) (pad_cons (PF.pd (pf_lc [("_law_k", 8)] rfl sc_law.nd (pid_r1 (by rfl) T.f_range (pab_cons (pb_var 6) pab_nil)) (blkOk_by (own := [("_law_k", 8)]) (N := ["_law_script", "_law_spring_here", "_law_turn", "_law_p", "_law_divisor", "_law_quotient", "_law_span", "_law_rest", "_law_k", "_law_whole", "_law_f", "_law_g", "_law_near"]) (sc := defScope (top 43)) (by decide +kernel)) (fun _ _ _ _ _ => (pgd_name 8 sc_law.nd)) (fun _ _ _ _ _ => ptsD_nil) (fun _ _ _ _ _ => (pd_tup (pad_cons (pd_var 8) (pad_cons (pd_call (ok__law_draw T) (hr.mono (by decide)) DL.takes0 (by rfl) (pad_cons (pd_var 1) (pad_cons (pd_var 3) pad_nil))) pad_nil)))))) pad_nil)))) sc_law.nd)
      (pss_consD (ps_setD 9 (pd_call (ok__law_plus T) (hr.mono (by decide)) tk (by rfl) (pad_cons (pd_var 3) (pad_cons (pd_call (ok__law_times T) (hr.mono (by decide)) tk (by rfl) (pad_cons (pd_var 3) (pad_cons (pd_var 5) (pad_cons (pd_var 4) pad_nil)))) (pad_cons (pd_var 7) (pad_cons pd_int pad_nil))))) sc_law.nd)
      (pss_consD (ps_parD 10 11 rfl sc_law.nd (pad_cons (pd_call (ok__law_made T) (hr.mono (by decide)) tk (by rfl) (pad_cons (pd_var 3) (pad_cons (pd_var 9) pad_nil))) (pad_cons (pd_call (ok__law_made T) (hr.mono (by decide)) tk (by rfl) (pad_cons (pd_var 3) (pad_cons (pd_var 4) pad_nil))) pad_nil)))
      (pss_consD (ps_ifD (PWD.pt (pwd_or (ptd_not (pt_valD (PD.pb (pd_call (ok__law_is T) (hr.mono (by decide)) tk (by rfl) (pad_cons (pd_binO T.op_Filter_Mod opI_mod (ok_Filter___mod__ T) (hr.mono (by decide)) tk (pd_var 10) (pd_var 11)) (pad_cons (pd_var 3) (pad_cons (pd_var 7) pad_nil))))))) (pwd_or1 (ptd_not (pt_valD (PD.pb (pd_call (ok__law_is T) (hr.mono (by decide)) tk (by rfl) (pad_cons (pd_binO T.op_Filter_FloorDiv opI_fdiv (ok_Filter___floordiv__ T) (hr.mono (by decide)) tk (pd_var 10) (pd_var 11)) (pad_cons (pd_var 3) (pad_cons (pd_var 5) pad_nil)))))))))) (pss_oneD (ps_retD pd_bl)) pss_nilD)
      (pss_consD (ps_ifD (PWD.pt (pwd_or (ptd_not (pt_valD (PD.pb (pd_call (ok__law_is T) (hr.mono (by decide)) tk (by rfl) (pad_cons (pd_binO T.op_Filter_Mod opI_mod (ok_Filter___mod__ T) (hr.mono (by decide)) tk (pd_make (ok_Filter___init___d1 T) (hr.mono (by decide)) tk (by rfl) (pad_cons (pd_var 3) pad_nil)) (pd_var 11)) (pad_cons (pd_var 3) (pad_cons (PF.pd pf_dct0) pad_nil))))))) (pwd_or1 (ptd_not (pt_valD (PD.pb (pd_call (ok__law_is T) (hr.mono (by decide)) tk (by rfl) (pad_cons (pd_binO T.op_Filter_FloorDiv opI_fdiv (ok_Filter___floordiv__ T) (hr.mono (by decide)) tk (pd_make (ok_Filter___init___d1 T) (hr.mono (by decide)) tk (by rfl) (pad_cons (pd_var 3) pad_nil)) (pd_var 11)) (pad_cons (pd_var 3) (pad_cons (PF.pd pf_dct0) pad_nil)))))))))) (pss_oneD (ps_retD pd_bl)) pss_nilD)
      (pss_consD (ps_ifD (PWD.pt (pwd_or (ptd_not (pt_valD (PD.pb (pd_call (ok__law_is T) (hr.mono (by decide)) tk (by rfl) (pad_cons (pd_var 10) (pad_cons (pd_var 3) (pad_cons (pd_var 9) pad_nil))))))) (pwd_or (ptd_not (pt_valD (PD.pb (pd_call (ok__law_is T) (hr.mono (by decide)) tk (by rfl) (pad_cons (pd_var 11) (pad_cons (pd_var 3) (pad_cons (pd_var 4) pad_nil))))))) (pwd_or1 (ptd_not (pt_valD (PD.pb (pd_call (ok__law_refuses T TBS) (hr.mono (by decide)) tk (by rfl) (pad_cons (pd_var 1) (pad_cons (pd_var 3) (pad_cons (pd_var 10) pad_nil))))))))))) (pss_oneD (ps_retD pd_bl)) pss_nilD)
      (pss_consD (ps_setD 12 (pd_call (ok__law_made T) (hr.mono (by decide)) tk (by rfl) (pad_cons (pd_var 3) (pad_cons (pd_call (ok__law_some T) (hr.mono (by decide)) tk (by rfl) (pad_cons (pd_var 1) (pad_cons (pd_var 3) (pad_cons pd_int (pad_cons pd_int pad_nil))))) pad_nil))) sc_law.nd)
      (pss_oneD (ps_ifD (PWD.pt (pwd_or (ptd_not (pt_valD (PD.pb (pd_call (ok__law_far_right T) (hr.mono (by decide)) tk (by rfl) (pad_cons (pd_var 1) (pad_cons (pd_var 3) pad_nil)))))) (pwd_or1 (ptd_not (pt_valD (PD.pb (pd_call (ok__law_shifts_right T) (hr.mono (by decide)) tk (by rfl) (pad_cons (pd_var 1) (pad_cons (pd_var 3) (pad_cons (pd_var 12) pad_nil)))))))))) (pss_oneD (ps_retD pd_bl)) pss_nilD)))))))))))))
      (pss_oneD (ps_retD pd_bl))), ?_⟩
      intro W s0 c hW hL
      have hW' : ∃ c, W = sprW s0 c := ⟨c, hW⟩
      have hLr : LW K "_law_refuses" W := hL _ (by decide +kernel)
      clear hr hu hu1 tk pso okS kpS hbS hS hQ hTb TBS
      walk_at "d"
      refine ⟨by decide, ?_⟩
      refine forD_ind (fun ρ n k => ∃ x2 x3 x4 x5 x6 x7 x8 x9 x10 x11 x12, ρ = [none, some (.val (.hnd s0)), x2, x3, x4, x5, x6, x7, x8, x9, x10, x11, x12] ∧ n + 1000 * k ≤ 5000) (fun ρ n k d R hI hR => ?_) (fun ρ n hI => ?_) _ _ _ ⟨_, _, _, _, _, _, _, _, _, _, _, rfl, by rw [rng_len]; decide⟩
      · obtain ⟨x2, x3, x4, x5, x6, x7, x8, x9, x10, x11, x12, rfl, hn⟩ := hI
        walk_at "d"
        refine ⟨s0, rfl, hW', by omega, fun p hp => ?_⟩
        have hp0 := isPr_pos hp
        have hp2 : 2 ≤ p := by rcases isPr_cases hp with h | h | h | h <;> omega
        walk_at "d"
        refine ⟨s0, p, 4, 6, rfl, hW', hp, by decide, by decide, by decide, by omega, fun g n1 hg hg1 hg2 hn1 => ?_⟩
        refine ⟨s0, p, 4, 6, rfl, hW', hp, by decide, by decide, by omega, fun u n2 hu1 hu2 hn2 => ?_⟩
        walk_at "d"
        have hgl : nt g < 1000000 := by omega
        obtain ⟨ga, gb, ea, eb⟩ : ∃ ga gb, (can g).head? = some ga ∧ (can g).getLast? = some gb := by
          cases ea : (can g).head? with
          | none => exact absurd ((can_nil hp0.1).mp (List.head?_eq_none_iff.mp ea)) hg
          | some a =>
            cases eb : (can g).getLast? with
            | none => exact absurd ((can_nil hp0.1).mp (List.getLast?_eq_none_iff.mp eb)) hg
            | some b => exact ⟨a, b, rfl, rfl⟩
        have esp : gb.1 - ga.1 = sp g := by unfold sp hi lo; rw [ea, eb]; rfl
        have s0' := sp_nonneg hp0.1 hg
        have sle : sp g ≤ 12 := by
          have h1 := hg2.lo hp0.1 hg
          have h2 := hg2.hi hp0.1 hg
          unfold sp; omega
        have e1 : atI ((can g).map trm) 0 = some (trm ga) := by
          cases h : can g with
          | nil => rw [h] at ea; cases ea
          | cons c l => rw [h] at ea; cases ea; exact at0 _ _
        have e2 : ((can g).map trm).getLast? = some (trm gb) := by rw [List.getLast?_map, eb]; rfl
        refine ⟨can g, rfl, can_nodup g, hgl, ?_⟩
        walk_at "d"
        rw [atLast e2]
        walk_at "d"
        refine ⟨can g, rfl, can_nodup g, hgl, ?_⟩
        walk_at "d"
        rw [e1]
        walk_at "d"
        rw [esp]
        refine ⟨by omega, ?_⟩
        rw [rngD_map]
        refine lcD_pre _ _ (fun pre acc n' => ∃ ts : Tm, acc = ts.map trm ∧ ts.length = pre.length ∧ (∀ i : Nat, i < pre.length → (ts[i]?).map (·.1) = some (i : Int)) ∧ n' = n2 + pre.length) (fun pre x post e acc n' R hI hR => ?_) (fun acc n' hI => ?_) ⟨[], rfl, rfl, fun i hi => absurd hi (Nat.not_lt_zero i), rfl⟩
        · obtain ⟨ts, rfl, hts, hk, rfl⟩ := hI
          obtain ⟨rfl, hpl⟩ := range_split e
          walk_at "d"
          refine ⟨hW', by omega, by omega, by omega, fun j hj => ?_⟩
          walk_at "d"
          refine ⟨by decide, by omega, hR _ _ ⟨ts ++ [((pre.length : Int), (j : Int))], by rw [List.map_append, Int.zero_add]; rfl, by rw [List.length_append, List.length_append, hts]; rfl, fun i hi => ?_, by rw [List.length_append, List.length_singleton]; omega⟩⟩
          rw [List.length_append, List.length_singleton] at hi
          by_cases hc : i < pre.length
          · rw [List.getElem?_append_left (by omega)]; exact hk i hc
          · obtain rfl : i = pre.length := by omega
            rw [List.getElem?_append_right (by omega), hts, Nat.sub_self]; rfl
        obtain ⟨ts, rfl, hts, hk, rfl⟩ := hI
        rw [List.length_range] at hts hk ⊢
        refine ⟨p, ts, rfl, hp0.1, by omega, ?_⟩
        rw [← can_lp hp0.1]
        have rb : Bd (lp p ts) 0 (sp g - 1) := by
          have := lp_list (p := p) hts hk
          rw [Int.toNat_of_nonneg s0'] at this
          exact this
        have rn := nt_lp hp0.1 ts
        generalize lp p ts = r at rb rn ⊢
        have nm := nt_mul hp0.1 u g
        have nm2 := Nat.mul_le_mul hu1 hg1
        refine ⟨p, u, g, rfl, hp, by omega, by omega, ?_⟩
        refine ⟨p, u * g, r, 1, rfl, hp, by omega, by omega, ?_⟩
        rw [show u * g + ((1 : Int) : LP p) * r = u * g + r from by have : ((1 : Int) : LP p) = 1 := rfl; rw [this]; grind]
        have bug := Bd.mul hp0.1 hu2 hg2
        have bf : Bd (u * g + r) (-2000) 2000 := Bd.add (bug.mono (by omega) (by omega)) (rb.mono (by omega) (by omega))
        have nf := nt_add hp0.1 (u * g) r
        refine ⟨p, u * g + r, rfl, hp, by omega, ?_⟩
        refine ⟨p, g, rfl, hp, by omega, ?_⟩
        have um : IsMod (u * g + r) g r := ⟨⟨u, rfl⟩, rb⟩
        have uq : IsQuo (u * g + r) g u := ⟨r, rfl, rb⟩
        generalize u * g + r = f at *
        walk_at "d"
        refine ⟨⟨_, rfl⟩, rfl, .inl ⟨p, f, g, rfl, hp, hg, by omega, by omega, by omega, .inl bf, fun r' hr' => ?_⟩⟩
        obtain rfl : r' = r := mod_uniq hp hg hr' um (by rw [show f - f = 0 by grind]; exact .zero _)
        refine ⟨p, r', rfl, hp, by omega, ?_⟩
        walk_at "d"
        refine ⟨⟨_, rfl⟩, rfl, .inl ⟨p, f, g, rfl, hp, hg, by omega, by omega, bf.mono (by omega) (by omega), fun u' hu' => ?_⟩⟩
        obtain rfl := quo_uniq hp hg hu' uq
        refine ⟨p, u', rfl, hp, by omega, ?_⟩
        walk_at "d"
        have n0 : nt (0 : LP p) = 0 := by unfold nt; rw [can_zero hp0.1]; rfl
        have e0 : canon p [] = can (0 : LP p) := by rw [lp_zero, can_lp hp0.1]
        have i0 : dk (0 : LP p) = .dct [] := by unfold dk; rw [can_zero hp0.1]; rfl
        have m0 : IsMod (0 : LP p) g 0 := ⟨⟨0, by grind⟩, .zero _ _⟩
        have q0 : IsQuo (0 : LP p) g 0 := ⟨0, by grind, .zero _ _⟩
        refine ⟨p, _, [], rfl, rfl, hp, by decide, ?_⟩
        rw [e0]
        refine ⟨⟨_, rfl⟩, rfl, .inl ⟨p, 0, g, rfl, hp, hg, by omega, by omega, by omega, .inl (.zero _ _), fun z hz => ?_⟩⟩
        obtain rfl : z = 0 := mod_uniq hp hg hz m0 (by rw [show (0 : LP p) - 0 = 0 by grind]; exact .zero _)
        refine ⟨p, 0, by rw [i0], hp, by omega, ?_⟩
        walk_at "d"
        refine ⟨p, _, [], rfl, rfl, hp, by decide, ?_⟩
        rw [e0]
        refine ⟨⟨_, rfl⟩, rfl, .inl ⟨p, 0, g, rfl, hp, hg, by omega, by omega, .zero _ _, fun z hz => ?_⟩⟩
        obtain rfl : z = 0 := quo_uniq hp hg hz q0
        refine ⟨p, 0, by rw [i0], hp, by omega, ?_⟩
        walk_at "d"
        refine ⟨p, f, rfl, hp, by omega, ?_⟩
        walk_at "d"
        refine ⟨p, g, rfl, hp, by omega, ?_⟩
        walk_at "d"
        refine ⟨s0, p, f, rfl, hW', hLr, hp, by omega, by omega, fun n3 hn3 => ?_⟩
        walk_at "d"
        refine ⟨s0, p, 3, 3, rfl, hW', hp, by decide, by decide, by decide, by omega, fun h n4 hh hh1 hh2 hn4 => ?_⟩
        refine ⟨p, h, rfl, hp, by omega, ?_⟩
        walk_at "d"
        refine ⟨s0, p, rfl, hW', hp, by omega, fun n5 hn5 => ?_⟩
        walk_at "d"
        have shl : sp h ≤ 100 := by
          have h1 := hh2.lo hp0.1 hh
          have h2 := hh2.hi hp0.1 hh
          unfold sp; omega
        refine ⟨s0, p, h, rfl, hW', hp, hh, shl, by omega, by omega, fun n6 hn6 => ?_⟩
        walk_at "d"
        exact hR _ _ ⟨_, _, _, _, _, _, _, _, _, _, _, rfl, by omega⟩
      · obtain ⟨x2, x3, x4, x5, x6, x7, x8, x9, x10, x11, x12, rfl, hn⟩ := hI
        walk_at "d"
    refine ⟨_, pss_cons (ps_set (i := 1) sc_law.nd rfl (by first | exact Or.inl rfl | exact Or.inr rfl) (pe_callSD okS (hr.mono (by decide)) (by rfl) T.g__law_spring kpS hbS .nil (fun σ => passAt tk σ) (pa_cons (pv 0) pa_nil))) p2, ?_⟩
    refine ⟨_, rfl, a, ns, rfl, hS, hl, fun c s0 nc ns0 ne => ?_⟩
    have nPc : ∀ x ∈ tfn, (He.cT K (x, none)).2 ≠ c := fun x hx => ne_of_none (hTb x hx) nc
    have nPs : ∀ x ∈ tfn, (He.cT K (x, none)).2 ≠ s0 := fun x hx => ne_of_none (hTb x hx) ns0
    have j0 : (sprW s0 (c, tblOf K tfn)).J 0 (upd (upd H c (.lst (ns.map V.int))) s0 (.lst [.ref c, .int 0, .int 0, .int 7])) := ⟨⟨ne, ns, 0, 7, upd_same, by rw [upd_ne (Ne.symm ne), upd_same], by decide, by decide⟩, fun p hp => by
      obtain ⟨x, hx, rfl⟩ := List.mem_map.mp hp
      exact LamX.TabS.nil (by rw [upd_ne (nPs x hx), upd_ne (nPc x hx)]; exact hTb x hx)⟩
    refine e2 ⟨sprW s0 (c, tblOf K tfn), K, _, fun _ => none, none⟩ _ _ [none, some (.val (.hnd s0)), none, none, none, none, none, none, none, none, none, none, none] 0 (fun _ => none) (fun _ => 0) _ _ rfl ⟨.refl _ (fun a o e => nomatch e), fun _ _ => rfl, j0, rfl, fun i d h => ?_, fun i d h => ?_, fun i j d e h => ?_, fun a d h => nomatch h⟩ ?_ (h2 _ s0 (c, tblOf K tfn) rfl (fun x hx => sprW_lam (List.mem_map.mpr ⟨x, hx, rfl⟩) (nodup_at T.tbl (List.mem_map.mpr ⟨x, hx, rfl⟩))))
    · match i, h with
      | 1, h => cases h; exact ⟨_, rfl, .hnd _⟩
      | 0, h => exact nomatch h
      | 2, h => exact nomatch h
      | 3, h => exact nomatch h
      | 4, h => exact nomatch h
      | 5, h => exact nomatch h
      | 6, h => exact nomatch h
      | 7, h => exact nomatch h
      | 8, h => exact nomatch h
      | 9, h => exact nomatch h
      | 10, h => exact nomatch h
      | 11, h => exact nomatch h
      | 12, h => exact nomatch h
      | (i + 13), h => exact nomatch h
    · match i, h with
      | 0, h => exact nomatch h
      | 1, h => exact nomatch h
      | 2, h => exact nomatch h
      | 3, h => exact nomatch h
      | 4, h => exact nomatch h
      | 5, h => exact nomatch h
      | 6, h => exact nomatch h
      | 7, h => exact nomatch h
      | 8, h => exact nomatch h
      | 9, h => exact nomatch h
      | 10, h => exact nomatch h
      | 11, h => exact nomatch h
      | 12, h => exact nomatch h
      | (i + 13), h => exact nomatch h
    · match i, h with
      | 0, h => exact nomatch h
      | 1, h => exact nomatch h
      | 2, h => exact nomatch h
      | 3, h => exact nomatch h
      | 4, h => exact nomatch h
      | 5, h => exact nomatch h
      | 6, h => exact nomatch h
      | 7, h => exact nomatch h
      | 8, h => exact nomatch h
      | 9, h => exact nomatch h
      | 10, h => exact nomatch h
      | 11, h => exact nomatch h
      | 12, h => exact nomatch h
      | (i + 13), h => exact nomatch h
    · refine ⟨fun σ H' ρ n' G' α R hq => (nomatch (show D.non = D.bl true from hq)), fun v H' d n' G' st j r hq => ?_, fun _ _ _ _ _ _ _ h => False.elim h, fun _ _ _ _ _ _ _ h => False.elim h, fun c dd σ H' ρ n' G' α e R r hq => False.elim hq, rfl, fun _ _ _ _ _ _ _ _ _ _ _ h => False.elim h⟩
      cases hq
      cases r
      exact hQ _
end

end My

namespace My
open PySem PySem.Spec PyProof.Rows L2 DL
theorem facts {P : Program} {w : World} {K : PySem.W.Frag} {h : Heap} {mg : Str → Option Value} {f : Addr} (X : K.In h) (G : h.Ns mainGlobals mg) (hfa : mg ("law" : Str) = some (.ref f)) (c : He.SaysD fa fn K) (cm : He5.SaysA [] cmf K) (hx : exB K = true) :
    ∃ fd : FuncData, (∀ (s : Shared) (v : Value), BindsTo s fd ⟨[v], []⟩ [("_law_script", v)]) ∧ ∀ base : Heap, K.In base → base.Ns mainGlobals mg → (∀ p ∈ tf.map (He.cT K), LamX.TabB base mg p.1 p.2) → FnOk P w K mg base (L2.CX P w) 11 f fd ["_law_script"] (spLaw K) := by
  have T : Top K mg := ⟨c, hx, cm, h, X, G⟩
  obtain ⟨fd, FD⟩ := T.d_law
  have e := hfa.symm.trans T.g_law
  cases e
  have b := FunD.bindsA (ps := ["_law_script"]) FD fun _ _ _ _ _ _ us hl => match us, hl with | [_], _ => rfl
  exact ⟨fd, fun s v => b s [v] rfl, fun base _ _ hT => ok_law T FD (fun x hx => hT _ (List.mem_map.mpr ⟨(x, none), tf_mem hx, rfl⟩))⟩
end My
open PySem PySem.W PySem.Calls PyProof.Rows
theorem PySem.Challenge.cw_seenrows_k05_remainders_told_holds : PySem.Challenge.rw_seenrows_k05_remainders_told.Holds := by
  w_on; o_law
  refine HandSHeadRun.head_any (r := OpenLaw.row PySem.Challenge.rw_seenrows_k05_remainders_told) (q := view (OpenLaw.row PySem.Challenge.rw_seenrows_k05_remainders_told).prog [43]) (H := My.hk) (ob := My.ob) (M := 9000) (loose := My.names) (d := HandSHeadRun.topDef (OpenLaw.row PySem.Challenge.rw_seenrows_k05_remainders_told).prog 43) (kwd := []) My.ob_eq
    (by kernel_rfl) (fun s => by kernel_rfl) My.run (by kernel_rfl) (by kernel_rfl) (by kernel_rfl) (by rfl) (by first | assumption | decide +kernel) (by decide +kernel) ⟨rfl, rfl, rfl, rfl, rfl, by decide +kernel⟩ ?hw ?hc
  case hw => w_witness2
  case hc =>
    refine LamX.walk_ofTsE (l := PySem.Challenge.rw_seenrows_k05_remainders_told) (n := 63) (k := 11) (x := "_law_script") (CX := fun w => L2.CX PySem.Challenge.pw_seenrows_k05_remainders_told w) rfl (by decide) (by kernel_rfl) ⟨rfl, by decide, by decide⟩ ?F (fun w H s e s' ⟨_, _, _, _, _, _, _, _, _, _, _, _, z⟩ => z)
    intro w mg fa h Y G hmg0
    obtain ⟨K, KX, c⟩ := Y
    have hmg : mg ("law" : PySem.Str) = some (.ref fa) := by
      have e : (HandSHeadRun.topDef (OpenLaw.row PySem.Challenge.rw_seenrows_k05_remainders_told).prog 43).name = ("law" : PySem.Str) := by kernel_rfl
      rw [← e]
      exact hmg0
    obtain ⟨fd, hb, hF⟩ := My.facts (P := (PySem.Challenge.rw_seenrows_k05_remainders_told).prog) (w := w) KX G hmg c.d c.cm c.more
    refine ⟨K, KX, fd, My.tf.map (He.cT K), My.spLaw K, fun p hp => ?_, fun p hp => ?_, fun p hp => ?_, hb, fun H a ns hl _ hT hS => ⟨a, ns, rfl, hS, hl, fun x hx => hT _ (List.mem_map.mpr ⟨_, My.tf_mem hx, rfl⟩), fun _ => rfl⟩, hF⟩
    · obtain ⟨d, hd, rfl⟩ := List.mem_map.mp hp
      exact (c.tabs d hd).2.2
    · obtain ⟨d, hd, rfl⟩ := List.mem_map.mp hp
      exact (c.tabs d hd).2.1
    · obtain ⟨d, hd, rfl⟩ := List.mem_map.mp hp
      exact PySem.W.codeHd_of_K KX (c.tabs d hd).1
