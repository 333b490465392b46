import PyProof.Rows.All
import Wide.All
import OpenK.AllK
import Wide.FinOn
import HandS.ForMost
import HandS.ForExc
import HandS.Walk
import HandS.Defaults
import HandS.HeadHook1
import HandS.IsInst
import HandS.Wide
import HandS.CallSlots
import HandS.Small
import HandS.SortInts
import HandS.Zip
import HandS.ListItems
import HandS.Style
import HandS.Head0
import HandS.Head1
import HandS.Head2
import HandS.HeadEnd
import HandS.HeadHook2
import HandS.Ends
import HandS.ExcInit
import HandS.TryOnly
import HandS.TryMany
import HandS.SlotsOwn
import HandS.Conv
import HandS.Star
import HandS.Flow
import KE.KDictZip
import KE.KDictSum
import KE.GoesNew
import KE.GoesEnum
import KE.KEqDict
import HandS.Lambda
import HandS.HeadHook4
import HandS.HeadWalk
import HandS.ClsMeth
import HandS.HeadNt
import PyProof.StrOps2
import PyProof.FitsStr
import PyProof.Rows.Range3
import HandS.OwnEq
import PyProof.LongRange
import HandS.More
import HandS.ExcField
import HandS.MakeKw
import HandS.Deep
import HandS.TupLe
import HandS.IterVal
import HandS.TupAny
import HandS.RevRange
import PyProof.PureInt
import PyProof.ReprRoads
import HandS.SetKeys
import PyProof.EqKinds
import HandS.HotCalls
import HandS.RaiseMore
import HandS.MapJoin
import PySem.Challenge.RW_seenrows_k15_tables_made
set_option Elab.async false
set_option linter.all false
set_option maxRecDepth 100000
set_option maxHeartbeats 0
section
open PySem PySem.W PySem.Calls PyProof.Rows
theorem My.pre (h : PySem.Challenge.rw_seenrows_k15_tables_made.row.wellSaid = true → PySem.Challenge.rw_seenrows_k15_tables_made.row.Holds) : PySem.Challenge.rw_seenrows_k15_tables_made.Holds := by
  w_on; o_law
  exact h (by assumption)
theorem My.pre2 : (OpenLaw.row PySem.Challenge.rw_seenrows_k15_tables_made).prog.bare := ⟨rfl, rfl, rfl, rfl, rfl, by decide +kernel⟩
end
set_option maxHeartbeats 200000

section
set_option autoImplicit false
namespace DL
open PySem PySem.Spec PyProof.Rows L2

inductive D where
  | non | bl (b : Bool) | int (i : Int) | str (x : Str)
  | lst (ds : List D) | tup (ds : List D)
  | dct (kvs : List (Key × D))
  | obj (c : Str) (fs : List (Str × D))
  | hnd (a : Addr)
  | exc (a dd : Addr) (c : Str) (fs : List (Str × D))
  | rol (ds : List D)

abbrev ca (K : PySem.W.Frag) (c : Str) : Addr := He.ga K c

mutual
inductive Rep (K : PySem.W.Frag) (G : Hp) : D → V → Prop where
  | non : Rep K G .non .non
  | bl (b : Bool) : Rep K G (.bl b) (.bl b)
  | int (i : Int) : Rep K G (.int i) (.int i)
  | str (x : Str) : Rep K G (.str x) (.str x)
  | lst {a : Addr} {ds : List D} {vs : List V} : G a = some (.lst vs) → RepL K G ds vs → Rep K G (.lst ds) (.ref a)
  | tup {a : Addr} {ds : List D} {vs : List V} : SqT K G a vs → RepL K G ds vs → Rep K G (.tup ds) (.ref a)
  | dct {a : Addr} {o : Obj} {kvs : List (Key × D)} {ws : List (Key × V)} : G a = some (.frz o (.dK ws)) → RepK K G kvs ws → Rep K G (.dct kvs) (.ref a)
  | obj {a dx : Addr} {c : Str} {fs : List (Str × D)} {ws : List (Str × V)} : G a = some (.ins (ca K c) dx ws) → RepF K G fs ws → Rep K G (.obj c fs) (.ref a)
  | hnd (a : Addr) : Rep K G (.hnd a) (.ref a)
  | exc {a dd : Addr} {c : Str} {fs : List (Str × D)} {ws : List (Str × V)} : G dd = some (.xd ws) → RepF K G fs ws → Rep K G (.exc a dd c fs) (.ref a)
  | rol {a : Addr} {o : Obj} {ds : List D} {vs : List V} : G a = some (.frz o (.lst vs)) → RepL K G ds vs → Rep K G (.rol ds) (.ref a)
inductive RepL (K : PySem.W.Frag) (G : Hp) : List D → List V → Prop where
  | nil : RepL K G [] []
  | cons {d : D} {v : V} {ds : List D} {vs : List V} : Rep K G d v → RepL K G ds vs → RepL K G (d :: ds) (v :: vs)
inductive RepK (K : PySem.W.Frag) (G : Hp) : List (Key × D) → List (Key × V) → Prop where
  | nil : RepK K G [] []
  | cons {k : Key} {d : D} {v : V} {ds : List (Key × D)} {vs : List (Key × V)} : Rep K G d v → RepK K G ds vs → RepK K G ((k, d) :: ds) ((k, v) :: vs)
inductive RepF (K : PySem.W.Frag) (G : Hp) : List (Str × D) → List (Str × V) → Prop where
  | nil : RepF K G [] []
  | cons {k : Str} {d : D} {v : V} {ds : List (Str × D)} {vs : List (Str × V)} : Rep K G d v → RepF K G ds vs → RepF K G ((k, d) :: ds) ((k, v) :: vs)
end

def Le (G G' : Hp) : Prop := ∀ a o, G a = some o → ∃ o', G' a = some o' ∧ o' = o
theorem Le.refl (G : Hp) : Le G G := fun a o h => ⟨o, h, rfl⟩
theorem Le.trans {G G1 G2 : Hp} (h : Le G G1) (h' : Le G1 G2) : Le G G2 := fun a o e => by
  obtain ⟨o1, e1, c1⟩ := h a o e
  obtain ⟨o2, e2, c2⟩ := h' a o1 e1
  exact ⟨o2, e2, c2.trans c1⟩
theorem Le.get {G G' : Hp} (h : Le G G') {a : Addr} {o : HO} (e : G a = some o) : G' a = some o := by
  obtain ⟨o', e', c⟩ := h a o e
  rw [e', c]
theorem Le.of_same {G G' : Hp} (h : ∀ a o, G a = some o → G' a = some o) : Le G G' := fun a o e => ⟨o, h a o e, rfl⟩
theorem Le.lst {G G' : Hp} (h : Le G G') {a : Addr} {vs : List V} (e : G a = some (.lst vs)) : G' a = some (.lst vs) := by
  obtain ⟨o, e', c⟩ := h a _ e
  rw [e', c]
theorem Le.ins {G G' : Hp} (h : Le G G') {a C dx : Addr} {ws : List (Str × V)} (e : G a = some (.ins C dx ws)) : G' a = some (.ins C dx ws) := by
  obtain ⟨o, e', c⟩ := h a _ e
  rw [e', c]
theorem Le.sqT {G G' : Hp} (h : Le G G') {K : PySem.W.Frag} {a : Addr} {vs : List V} (e : SqT K G a vs) : SqT K G' a vs := by
  rcases e with (e | ⟨x, e⟩) | e
  · obtain ⟨o, e', c⟩ := h a _ e
    exact .inl (.inl (by rw [e', c]))
  · obtain ⟨o, e', c⟩ := h a _ e
    exact .inl (.inr ⟨x, by rw [e', c]⟩)
  · exact .inr e
mutual
theorem Rep.mono {K : PySem.W.Frag} {G G' : Hp} (h : Le G G') : ∀ {d : D} {v : V}, Rep K G d v → Rep K G' d v
  | _, _, .non => .non
  | _, _, .bl b => .bl b
  | _, _, .int i => .int i
  | _, _, .str x => .str x
  | _, _, .lst e r => .lst (h.lst e) (RepL.mono h r)
  | _, _, .tup e r => .tup (h.sqT e) (RepL.mono h r)
  | _, _, .dct e r => .dct (h.get e) (RepK.mono h r)
  | _, _, .obj e r => .obj (h.ins e) (RepF.mono h r)
  | _, _, .hnd a => .hnd a
  | _, _, .exc e r => .exc (h.get e) (RepF.mono h r)
  | _, _, .rol e r => .rol (h.get e) (RepL.mono h r)
theorem RepL.mono {K : PySem.W.Frag} {G G' : Hp} (h : Le G G') : ∀ {d : List D} {v : List V}, RepL K G d v → RepL K G' d v
  | _, _, .nil => .nil
  | _, _, .cons r t => .cons (Rep.mono h r) (RepL.mono h t)
theorem RepK.mono {K : PySem.W.Frag} {G G' : Hp} (h : Le G G') : ∀ {d : List (Key × D)} {v : List (Key × V)}, RepK K G d v → RepK K G' d v
  | _, _, .nil => .nil
  | _, _, .cons r t => .cons (Rep.mono h r) (RepK.mono h t)
theorem RepF.mono {K : PySem.W.Frag} {G G' : Hp} (h : Le G G') : ∀ {d : List (Str × D)} {v : List (Str × V)}, RepF K G d v → RepF K G' d v
  | _, _, .nil => .nil
  | _, _, .cons r t => .cons (Rep.mono h r) (RepF.mono h t)
end

section
variable {K : PySem.W.Frag} {G : Hp}
theorem RepL.length : ∀ {ds : List D} {vs : List V}, RepL K G ds vs → ds.length = vs.length
  | _, _, .nil => rfl
  | _, _, .cons _ t => by rw [List.length_cons, List.length_cons, RepL.length t]
theorem RepL.get : ∀ {ds : List D} {vs : List V} {i : Nat} {d : D}, RepL K G ds vs → ds[i]? = some d → ∃ v, vs[i]? = some v ∧ Rep K G d v
  | _, _, _, _, .nil, e => by simp at e
  | _, _, 0, _, .cons r _, e => by
    simp at e
    subst e
    exact ⟨_, rfl, r⟩
  | _, _, i + 1, d, .cons _ t, e => by
    obtain ⟨u, h1, h2⟩ := RepL.get (i := i) (d := d) t (by simpa using e)
    exact ⟨u, by simpa using h1, h2⟩
theorem RepL.getV : ∀ {ds : List D} {vs : List V} {i : Nat} {v : V}, RepL K G ds vs → vs[i]? = some v → ∃ d, ds[i]? = some d ∧ Rep K G d v
  | _, _, _, _, .nil, e => by simp at e
  | _, _, 0, _, .cons r _, e => by
    simp at e
    subst e
    exact ⟨_, rfl, r⟩
  | _, _, i + 1, d, .cons _ t, e => by
    obtain ⟨u, h1, h2⟩ := RepL.getV (i := i) (v := d) t (by simpa using e)
    exact ⟨u, by simpa using h1, h2⟩
theorem RepL.append : ∀ {ds es : List D} {vs us : List V}, RepL K G ds vs → RepL K G es us → RepL K G (ds ++ es) (vs ++ us)
  | _, _, _, _, .nil, s => s
  | _, _, _, _, .cons r t, s => .cons r (RepL.append t s)
theorem RepL.set {d : D} {v : V} (r : Rep K G d v) : ∀ {ds : List D} {vs : List V} (i : Nat), RepL K G ds vs → RepL K G (ds.set i d) (vs.set i v)
  | _, _, _, .nil => .nil
  | _, _, 0, .cons _ t => .cons r t
  | _, _, i + 1, .cons q t => .cons q (RepL.set r i t)
theorem RepL.drop : ∀ {ds : List D} {vs : List V} (n : Nat), RepL K G ds vs → RepL K G (ds.drop n) (vs.drop n)
  | _, _, 0, r => r
  | _, _, _ + 1, .nil => .nil
  | _, _, n + 1, .cons _ t => RepL.drop n t
theorem RepL.take : ∀ {ds : List D} {vs : List V} (n : Nat), RepL K G ds vs → RepL K G (ds.take n) (vs.take n)
  | _, _, 0, _ => .nil
  | _, _, _ + 1, .nil => .nil
  | _, _, n + 1, .cons r t => .cons r (RepL.take n t)
theorem RepL.snoc {ds : List D} {vs : List V} {d : D} {v : V} (t : RepL K G ds vs) (r : Rep K G d v) : RepL K G (ds ++ [d]) (vs ++ [v]) := t.append (.cons r .nil)
theorem RepL.rep {ds : List D} {vs : List V} (h : RepL K G ds vs) : ∀ k : Nat, RepL K G (List.replicate k ds).flatten (List.replicate k vs).flatten
  | 0 => .nil
  | k + 1 => by
    rw [List.replicate_succ, List.replicate_succ, List.flatten_cons, List.flatten_cons]
    exact h.append (RepL.rep h k)
theorem RepF.lookup {f : Str} {d : D} : ∀ {fs : List (Str × D)} {ws : List (Str × V)}, RepF K G fs ws → fs.lookup f = some d → ∃ v, ws.lookup f = some v ∧ Rep K G d v
  | _, _, .nil, e => by simp at e
  | _, _, .cons (k := k) (ds := ds) (vs := vs) r t, e => by
    rw [List.lookup_cons] at e ⊢
    cases q : (f == k) with
    | true =>
      rw [q] at e
      simp at e
      subst e
      exact ⟨_, rfl, r⟩
    | false =>
      rw [q] at e
      exact RepF.lookup t e
theorem RepF.lookupN {f : Str} : ∀ {fs : List (Str × D)} {ws : List (Str × V)}, RepF K G fs ws → fs.lookup f = none → ws.lookup f = none
  | _, _, .nil, e => rfl
  | _, _, .cons (k := k) (ds := ds) (vs := vs) r t, e => by
    rw [List.lookup_cons] at e ⊢
    cases q : (f == k) with
    | true =>
      rw [q] at e
      simp at e
    | false =>
      rw [q] at e
      exact RepF.lookupN t e
theorem RepF.length : ∀ {fs : List (Str × D)} {ws : List (Str × V)}, RepF K G fs ws → fs.length = ws.length
  | _, _, .nil => rfl
  | _, _, .cons _ t => by rw [List.length_cons, List.length_cons, RepF.length t]
theorem RepK.length : ∀ {fs : List (Key × D)} {ws : List (Key × V)}, RepK K G fs ws → fs.length = ws.length
  | _, _, .nil => rfl
  | _, _, .cons _ t => by rw [List.length_cons, List.length_cons, RepK.length t]
end

def getD (kvs : List (Key × D)) (k : Key) : Option D := (kvs.find? fun kv => decide (kv.1 = k)).map (·.2)
def putD (kvs : List (Key × D)) (k : Key) (d : D) : List (Key × D) :=
  if kvs.any fun kv => decide (kv.1 = k) then kvs.map fun kv => if kv.1 = k then (kv.1, d) else kv else kvs ++ [(k, d)]
def setF (f : Str) (d : D) : List (Str × D) → List (Str × D)
  | [] => [(f, d)]
  | (g, x) :: r => if g = f then (g, d) :: r else (g, x) :: setF f d r
end DL

end

section
set_option autoImplicit false
namespace DL
open PySem PySem.Spec L2
section
variable {K : PySem.W.Frag} {G : Hp}
theorem getD_cons (k j : Key) (d : D) (r : List (Key × D)) : getD ((k, d) :: r) j = if k = j then some d else getD r j := by
  unfold getD
  rw [List.find?_cons]
  by_cases e : k = j
  · simp [e]
  · simp [e]
theorem valV_cons (k j : Key) (v : V) (r : List (Key × V)) : valV ((k, v) :: r) j = if k = j then some v else valV r j := by
  by_cases e : k = j
  · rw [if_pos e]; exact valV_pos (p := (k, v)) e
  · rw [if_neg e]; exact valV_neg (p := (k, v)) e
theorem RepK.val {k : Key} : ∀ {kvs : List (Key × D)} {ws : List (Key × V)}, RepK K G kvs ws → (∃ d v, getD kvs k = some d ∧ valV ws k = some v ∧ Rep K G d v) ∨ (getD kvs k = none ∧ valV ws k = none)
  | _, _, .nil => .inr ⟨rfl, rfl⟩
  | _, _, .cons (k := j) (d := d) (v := v) r t => by
    rw [getD_cons, valV_cons]
    by_cases e : j = k
    · rw [if_pos e, if_pos e]
      exact .inl ⟨d, v, rfl, rfl, r⟩
    · rw [if_neg e, if_neg e]
      exact RepK.val t
theorem RepK.any {k : Key} : ∀ {kvs : List (Key × D)} {ws : List (Key × V)}, RepK K G kvs ws → (kvs.any fun kv => decide (kv.1 = k)) = ws.any fun kv => decide (kv.1 = k)
  | _, _, .nil => rfl
  | _, _, .cons r t => by rw [List.any_cons, List.any_cons, RepK.any t]
theorem RepK.repl {k : Key} {d : D} {v : V} (r : Rep K G d v) : ∀ {kvs : List (Key × D)} {ws : List (Key × V)}, RepK K G kvs ws → RepK K G (kvs.map fun kv => if kv.1 = k then (kv.1, d) else kv) (ws.map fun kv => if kv.1 = k then (kv.1, v) else kv)
  | _, _, .nil => .nil
  | _, _, .cons (k := j) q t => by
    rw [List.map_cons, List.map_cons]
    by_cases e : j = k
    · rw [if_pos e, if_pos e]
      exact .cons r (RepK.repl r t)
    · rw [if_neg e, if_neg e]
      exact .cons q (RepK.repl r t)
theorem RepK.snoc {k : Key} {d : D} {v : V} (r : Rep K G d v) : ∀ {kvs : List (Key × D)} {ws : List (Key × V)}, RepK K G kvs ws → RepK K G (kvs ++ [(k, d)]) (ws ++ [(k, v)])
  | _, _, .nil => .cons r .nil
  | _, _, .cons q t => .cons q (RepK.snoc r t)
theorem RepK.put {k : Key} {d : D} {v : V} (r : Rep K G d v) {kvs : List (Key × D)} {ws : List (Key × V)} (h : RepK K G kvs ws) : RepK K G (putD kvs k d) (putK ws k v) := by
  unfold putD putK
  rw [h.any (k := k)]
  cases (ws.any fun kv => decide (kv.1 = k)) with
  | true => exact h.repl r
  | false => exact h.snoc r
theorem RepF.put {f : Str} {d : D} {v : V} (r : Rep K G d v) : ∀ {fs : List (Str × D)} {ws : List (Str × V)}, RepF K G fs ws → RepF K G (setF f d fs) (putF f v ws)
  | _, _, .nil => .cons r .nil
  | _, _, .cons (k := g) q t => by
    unfold setF putF
    by_cases e : g = f
    · rw [if_pos e, if_pos e]
      exact .cons r t
    · rw [if_neg e, if_neg e]
      exact .cons q (RepF.put r t)
end

structure Wd where
  rg : Addr → Prop
  J : Nat → Hp → Prop
  stable : ∀ n H H', (∀ a, rg a → H' a = H a) → (∀ a e, H a = some (.ext e) → H' a = some (.ext e)) → J n H → J n H'
  there : ∀ n H a, J n H → rg a → H a ≠ none
def Wd.none : Wd := ⟨fun _ => False, fun _ _ => True, fun _ _ _ _ _ _ => trivial, fun _ _ _ _ h => h.elim⟩

structure Step (W : Wd) (H G H' G' : Hp) : Prop where
  fr : ∀ a o, H a = some o → ¬ W.rg a → H' a = some o
  le : Le G G'
  hh : Le G' H'
  new : ∀ a, G' a ≠ none → G a ≠ none ∨ (H a = none ∧ ¬ W.rg a)
theorem Step.refl (W : Wd) {H G : Hp} (h : Le G H) : Step W H G H G := ⟨fun _ _ e _ => e, Le.refl G, h, fun _ e => .inl e⟩
theorem Step.trans {W : Wd} {H G H1 G1 H2 G2 : Hp} (s : Step W H G H1 G1) (t : Step W H1 G1 H2 G2) : Step W H G H2 G2 := by
  refine ⟨fun a o e r => t.fr a o (s.fr a o e r) r, s.le.trans t.le, t.hh, fun a e => ?_⟩
  rcases t.new a e with e | ⟨e, r⟩
  · exact s.new a e
  · refine .inr ⟨?_, r⟩
    cases q : H a with
    | none => rfl
    | some o => rw [s.fr a o q r] at e; cases e
structure StepP (H G H' G' : Hp) : Prop where
  fr : ∀ a o, H a = some o → H' a = some o
  le : Le G G'
  hh : Le G' H'
  new : ∀ a, G' a ≠ none → G a ≠ none ∨ H a = none
theorem StepP.refl {H G : Hp} (h : Le G H) : StepP H G H G := ⟨fun _ _ e => e, Le.refl G, h, fun _ e => .inl e⟩
theorem StepP.step {W : Wd} {n : Nat} {H G H' G' : Hp} (s : StepP H G H' G') (j : W.J n H) : Step W H G H' G' :=
  ⟨fun a o e _ => s.fr a o e, s.le, s.hh, fun a e => (s.new a e).imp (fun z => z) fun z => ⟨z, fun r => W.there n H a j r z⟩⟩
theorem StepP.J {W : Wd} {n : Nat} {H G H' G' : Hp} (s : StepP H G H' G') (j : W.J n H) : W.J n H' := by
  refine W.stable n H H' (fun a r => ?_) (fun a e q => s.fr a _ q) j
  cases q : H a with
  | none => exact (W.there n H a j r q).elim
  | some o => exact s.fr a o q
theorem StepP.made {H G : Hp} {p : Addr} {o : HO} (h : Le G H) (np : H p = none) : StepP H G (upd H p o) (upd G p o) := by
  have gp : G p = none := by
    cases q : G p with
    | none => rfl
    | some u =>
      obtain ⟨o', e, _⟩ := h p u q
      rw [np] at e; cases e
  refine ⟨fun a u e => by rw [upd_ne (ne_of_none e np)]; exact e, .of_same fun a u e => by rw [upd_ne (ne_of_none e gp)]; exact e, fun a u e => ?_, fun a e => ?_⟩
  · by_cases z : a = p
    · subst z
      rw [upd_same] at e
      cases e
      exact ⟨_, upd_same, rfl⟩
    · rw [upd_ne z] at e
      obtain ⟨o', e', c⟩ := h a u e
      exact ⟨o', by rw [upd_ne z]; exact e', c⟩
  · by_cases z : a = p
    · subst z
      exact .inr np
    · rw [upd_ne z] at e
      exact .inl e
theorem StepP.laid {H G : Hp} {p : Addr} {o : HO} (h : Le G H) (np : H p = none) : StepP H G (upd H p o) G := by
  refine ⟨fun a u e => by rw [upd_ne (ne_of_none e np)]; exact e, Le.refl G, fun a u e => ?_, fun a e => .inl e⟩
  obtain ⟨o', e', c⟩ := h a u e
  exact ⟨o', by rw [upd_ne (ne_of_none e' np)]; exact e', c⟩
theorem StepP.trans {H G H1 G1 H2 G2 : Hp} (s : StepP H G H1 G1) (t : StepP H1 G1 H2 G2) : StepP H G H2 G2 := by
  refine ⟨fun a o e => t.fr a o (s.fr a o e), s.le.trans t.le, t.hh, fun a e => ?_⟩
  rcases t.new a e with e | e
  · exact s.new a e
  · refine .inr ?_
    cases q : H a with
    | none => rfl
    | some o => rw [s.fr a o q] at e; cases e

inductive Sl where
  | val (d : D)
  | own (d : D)
  | gst (r : D) (gs : List (Addr × D))
abbrev Env := List (Option Sl)
def OwnAt (K : PySem.W.Frag) (G H : Hp) (a : Addr) : D → Prop
  | .lst ds => ∃ vs, H a = some (.lst vs) ∧ RepL K G ds vs
  | .dct kvs => ∃ ws, H a = some (.dK ws) ∧ RepK K G kvs ws
  | .obj c fs => ∃ dx ws, H a = some (.ins (ca K c) dx ws) ∧ RepF K G fs ws
  | _ => False
theorem OwnAt.noExt {K : PySem.W.Frag} {G H : Hp} {a : Addr} {d : D} {e : Heap → Prop} (h : OwnAt K G H a d) (q : H a = some (.ext e)) : False := by
  cases d with
  | lst ds => obtain ⟨vs, z, _⟩ := h; rw [q] at z; cases z
  | dct ds => obtain ⟨vs, z, _⟩ := h; rw [q] at z; cases z
  | obj c fs => obtain ⟨_, vs, z, _⟩ := h; rw [q] at z; cases z
  | _ => exact h.elim
theorem OwnAt.there {K : PySem.W.Frag} {G H : Hp} {a : Addr} {d : D} (h : OwnAt K G H a d) : ∃ o, H a = some o := by
  cases d with
  | lst ds => obtain ⟨vs, e, _⟩ := h; exact ⟨_, e⟩
  | dct ds => obtain ⟨vs, e, _⟩ := h; exact ⟨_, e⟩
  | obj c fs => obtain ⟨dx, ws, e, _⟩ := h; exact ⟨_, e⟩
  | _ => exact h.elim
theorem OwnAt.mono {K : PySem.W.Frag} {G H G' H' : Hp} {a : Addr} {d : D} (h : OwnAt K G H a d) (le : Le G G') (fr : ∀ o, H a = some o → H' a = some o) : OwnAt K G' H' a d := by
  cases d with
  | lst ds => obtain ⟨vs, e, r⟩ := h; exact ⟨vs, fr _ e, r.mono le⟩
  | dct ds => obtain ⟨vs, e, r⟩ := h; exact ⟨vs, fr _ e, r.mono le⟩
  | obj c fs => obtain ⟨dx, ws, e, r⟩ := h; exact ⟨dx, ws, fr _ e, r.mono le⟩
  | _ => exact h.elim
structure Bs where
  W : Wd
  K : PySem.W.Frag
  H0 : Hp
  G0 : Hp
  self : Option Addr
structure Gh (B : Bs) (σ : St) (H : Hp) (ρ : Env) (G : Hp) (α : Nat → Addr) : Prop where
  gst : ∀ (i : Nat) (r : D) (gs : List (Addr × D)), ρ[i]? = some (some (.gst r gs)) → (∃ v, σ[i]? = some (some v) ∧ Rep B.K G r v) ∧ (gs.map (·.1)).Nodup
  at_ : ∀ (i : Nat) (r : D) (gs : List (Addr × D)), ρ[i]? = some (some (.gst r gs)) → ∀ g ∈ gs, G g.1 = none ∧ B.H0 g.1 = none ∧ ¬ B.W.rg g.1 ∧ OwnAt B.K G H g.1 g.2
  sep : ∀ (i j : Nat) (r r' : D) (gs gs' : List (Addr × D)), ρ[i]? = some (some (.gst r gs)) → ρ[j]? = some (some (.gst r' gs')) → i ≠ j → ∀ g ∈ gs, ∀ g' ∈ gs', g.1 ≠ g'.1
  off : ∀ (i j : Nat) (r : D) (gs : List (Addr × D)) (d : D), ρ[i]? = some (some (.gst r gs)) → ρ[j]? = some (some (.own d)) → ∀ g ∈ gs, g.1 ≠ α j
  p1 : ∀ (a : Addr) (r : D) (gs : List (Addr × D)), B.self = some a → ρ[0]? = some (some (.gst r gs)) → r = .hnd a
theorem Gh.nil {B : Bs} {σ : St} {H : Hp} {ρ : Env} {G : Hp} {α : Nat → Addr} (h : ∀ (i : Nat) (r : D) (gs : List (Addr × D)), ρ[i]? ≠ some (some (.gst r gs))) : Gh B σ H ρ G α :=
  ⟨fun i r gs e => (h i r gs e).elim, fun i r gs e => (h i r gs e).elim, fun i _ r _ gs _ e => (h i r gs e).elim, fun i _ r gs _ e => (h i r gs e).elim, fun _ r gs _ e => (h 0 r gs e).elim⟩
theorem Gh.of {B B' : Bs} {σ σ' : St} {H H' : Hp} {ρ ρ' : Env} {G G' : Hp} {α α' : Nat → Addr} (h : Gh B σ H ρ G α) (eK : B'.K = B.K) (eH : B'.H0 = B.H0) (eW : B'.W = B.W) (eS : B'.self = B.self)
    (hg : ∀ (j : Nat) (r : D) (gs : List (Addr × D)), ρ'[j]? = some (some (.gst r gs)) → ρ[j]? = some (some (.gst r gs)) ∧ ∀ v, σ[j]? = some (some v) → σ'[j]? = some (some v))
    (ho : ∀ (j : Nat) (d : D), ρ'[j]? = some (some (.own d)) → (∃ d', ρ[j]? = some (some (.own d')) ∧ α' j = α j) ∨ ∀ (i : Nat) (r : D) (gs : List (Addr × D)), ρ'[i]? = some (some (.gst r gs)) → ∀ g ∈ gs, g.1 ≠ α' j)
    (hh : ∀ (i : Nat) (r : D) (gs : List (Addr × D)), ρ'[i]? = some (some (.gst r gs)) → ∀ g ∈ gs, G g.1 = none → ¬ B.W.rg g.1 → (∃ o, H g.1 = some o) → G' g.1 = none ∧ ∀ o, H g.1 = some o → H' g.1 = some o)
    (le : Le G G') : Gh B' σ' H' ρ' G' α' := by
  refine ⟨fun i r gs e => ?_, fun i r gs e g hm => ?_, fun i j r r' gs gs' e e' => h.sep i j r r' gs gs' (hg i r gs e).1 (hg j r' gs' e').1, fun i j r gs d e e' => ?_, fun a r gs hs e => h.p1 a r gs (eS ▸ hs) (hg 0 r gs e).1⟩
  · obtain ⟨e1, e2⟩ := hg i r gs e
    obtain ⟨⟨v, h1, h2⟩, h3⟩ := h.gst i r gs e1
    exact ⟨⟨v, e2 v h1, eK ▸ h2.mono le⟩, h3⟩
  · obtain ⟨h1, h2, h3, h4⟩ := h.at_ i r gs (hg i r gs e).1 g hm
    obtain ⟨k1, k2⟩ := hh i r gs e g hm h1 h3 h4.there
    exact ⟨k1, eH ▸ h2, eW ▸ h3, eK ▸ h4.mono le k2⟩
  · rcases ho j d e' with ⟨d', k1, k2⟩ | k
    · rw [k2]
      exact h.off i j r gs d' (hg i r gs e).1 k1
    · exact k i r gs e
structure RelB (B : Bs) (σ : St) (H : Hp) (ρ : Env) (n : Nat) (G : Hp) (α : Nat → Addr) : Prop where
  st : Step B.W B.H0 B.G0 H G
  rg : ∀ a, B.W.rg a → G a = none
  J : B.W.J n H
  len : σ.length = ρ.length
  val : ∀ (i : Nat) (d : D), ρ[i]? = some (some (.val d)) → ∃ v, σ[i]? = some (some v) ∧ Rep B.K G d v
  own : ∀ (i : Nat) (d : D), ρ[i]? = some (some (.own d)) → σ[i]? = some (some (.ref (α i))) ∧ G (α i) = none ∧ B.H0 (α i) = none ∧ ¬ B.W.rg (α i) ∧ OwnAt B.K G H (α i) d
  inj : ∀ (i j : Nat) (d e : D), ρ[i]? = some (some (.own d)) → ρ[j]? = some (some (.own e)) → α i = α j → i = j
  p0 : ∀ (a : Addr) (d : D), B.self = some a → ρ[0]? = some (some (.own d)) → α 0 = a
  gh : Gh B σ H ρ G α
theorem RelB.step {B : Bs} {σ : St} {H : Hp} {ρ : Env} {n : Nat} {G : Hp} {α : Nat → Addr} (R : RelB B σ H ρ n G α) {H' G' : Hp} {n' : Nat} (s : Step B.W H G H' G') (j : B.W.J n' H') : RelB B σ H' ρ n' G' α := by
  refine ⟨R.st.trans s, fun a r => ?_, j, R.len, fun i d e => ?_, fun i d e => ?_, R.inj, R.p0, R.gh.of rfl rfl rfl rfl (fun j r gs e => ⟨e, fun _ h => h⟩) (fun j d e => .inl ⟨d, e, rfl⟩) (fun i r gs e g hm h1 h3 h4 => ⟨?_, fun o q => s.fr _ o q h3⟩) s.le⟩
  · cases q : G' a with
    | none => rfl
    | some o =>
      rcases s.new a (by rw [q]; exact fun z => nomatch z) with z | ⟨_, z⟩
      · exact (z (R.rg a r)).elim
      · exact (z r).elim
  · obtain ⟨v, h1, h2⟩ := R.val i d e
    exact ⟨v, h1, h2.mono s.le⟩
  · obtain ⟨h1, h2, h3, h4, h5⟩ := R.own i d e
    refine ⟨h1, ?_, h3, h4, h5.mono s.le fun o q => s.fr _ o q h4⟩
    cases q : G' (α i) with
    | none => rfl
    | some o =>
      rcases s.new (α i) (by rw [q]; exact fun z => nomatch z) with z | ⟨z, _⟩
      · exact (z h2).elim
      · obtain ⟨o', z'⟩ := h5.there
        rw [z] at z'; cases z'
  · cases q : G' g.1 with
    | none => rfl
    | some o =>
      obtain ⟨o', h4⟩ := h4
      rcases s.new g.1 (by rw [q]; exact fun z => nomatch z) with z | ⟨z, _⟩
      · exact (z h1).elim
      · rw [z] at h4; cases h4
theorem RelB.le {B : Bs} {σ : St} {H : Hp} {ρ : Env} {n : Nat} {G : Hp} {α : Nat → Addr} (R : RelB B σ H ρ n G α) : Le G H := R.st.hh

abbrev Xn := Str × List (Str × D)
structure DX where
  ex : Xn → Nat → Prop
  w : Wd
abbrev DQ := D → Nat → Prop
abbrev DE := DX → Env → Nat → DQ → Prop
abbrev DT := DX → Env → Nat → (Bool → Nat → Prop) → Prop
abbrev DA := DX → Env → Nat → (List D → Nat → Prop) → Prop
def XRep (K : PySem.W.Frag) (W : Wd) (Hs G H : Hp) (e : Xn) (c : Value) (dd : Option Addr) : Prop :=
  c = .ref (ca K e.1) ∧ match dd with
    | some a => (Hs a = none ∧ ¬ W.rg a) ∧ ∃ ws, H a = some (.xd ws) ∧ RepF K G e.2 ws
    | none => e.2 = []
theorem XRep.backF {K : PySem.W.Frag} {W : Wd} {Hs H1 G H : Hp} {e : Xn} {c : Value} {dd : Option Addr} (r : XRep K W H1 G H e c dd) (fr : ∀ a o, Hs a = some o → ¬ W.rg a → H1 a = some o) : XRep K W Hs G H e c dd := by
  obtain ⟨h1, h2⟩ := r
  refine ⟨h1, ?_⟩
  cases dd with
  | none => exact h2
  | some a =>
    obtain ⟨⟨n1, n2⟩, h3⟩ := h2
    refine ⟨⟨?_, n2⟩, h3⟩
    cases q : Hs a with
    | none => rfl
    | some o => rw [fr a o q n2] at n1; cases n1
theorem XRep.back {K : PySem.W.Frag} {W : Wd} {Hs Gs H1 G1 G H : Hp} {e : Xn} {c : Value} {dd : Option Addr} (r : XRep K W H1 G H e c dd) (s : Step W Hs Gs H1 G1) : XRep K W Hs G H e c dd := r.backF s.fr
def XL (B : Bs) (W : WX) (σ : St) (H G : Hp) (x : DX) : Prop :=
  x.w = B.W ∧ ∀ (c : Value) (dd : Option Addr) (H' G' : Hp) (e : Xn) (n' : Nat), Step B.W H G H' G' → B.W.J n' H' → XRep B.K B.W H G' H' e c dd → x.ex e n' → W c dd σ H'
theorem XL.step {B : Bs} {W : WX} {σ : St} {H G H1 G1 : Hp} {x : DX} (h : XL B W σ H G x) (s : Step B.W H G H1 G1) : XL B W σ H1 G1 x :=
  ⟨h.1, fun c dd H' G' e n' t j r q => h.2 c dd H' G' e n' (s.trans t) j (r.back s) q⟩
def RepB (K : PySem.W.Frag) (W : Wd) (G H : Hp) (d : D) (v : V) : Prop :=
  Rep K G d v ∨ ∃ a, v = .ref a ∧ G a = none ∧ ¬ W.rg a ∧ OwnAt K G H a d
theorem RepB.step {K : PySem.W.Frag} {W : Wd} {G H G' H' : Hp} {d : D} {v : V} (r : RepB K W G H d v) (s : Step W H G H' G') : RepB K W G' H' d v := by
  rcases r with r | ⟨a, e, g, h4, h5⟩
  · exact .inl (r.mono s.le)
  · refine .inr ⟨a, e, ?_, h4, h5.mono s.le fun o q => s.fr _ o q h4⟩
    cases q : G' a with
    | none => rfl
    | some o =>
      rcases s.new a (by rw [q]; exact fun z => nomatch z) with z | ⟨z, _⟩
      · exact (z g).elim
      · obtain ⟨o', z'⟩ := h5.there
        rw [z] at z'; cases z'
inductive RepBL (K : PySem.W.Frag) (W : Wd) (G H : Hp) : List D → List V → Prop where
  | nil : RepBL K W G H [] []
  | cons {d : D} {v : V} {ds : List D} {vs : List V} : RepB K W G H d v → RepBL K W G H ds vs → RepBL K W G H (d :: ds) (v :: vs)
theorem RepBL.step {K : PySem.W.Frag} {W : Wd} {G H G' H' : Hp} (s : Step W H G H' G') : ∀ {ds : List D} {vs : List V}, RepBL K W G H ds vs → RepBL K W G' H' ds vs
  | _, _, .nil => .nil
  | _, _, .cons r t => .cons (r.step s) (RepBL.step s t)

def ED (K : PySem.W.Frag) (W : WX) (t : TE) (δ : DE) : Prop :=
  ∀ (B : Bs) (σ : St) (H : Hp) (ρ : Env) (n : Nat) (G : Hp) (α : Nat → Addr) (Q : VK) (x : DX) (q : DQ), B.K = K → RelB B σ H ρ n G α → XL B W σ H G x → δ x ρ n q →
    (∀ v H' G' d n', Step B.W H G H' G' → B.W.J n' H' → Rep K G' d v → q d n' → Q v H') → t σ H Q
def EB (K : PySem.W.Frag) (W : WX) (t : TE) (δ : DE) : Prop :=
  ∀ (B : Bs) (σ : St) (H : Hp) (ρ : Env) (n : Nat) (G : Hp) (α : Nat → Addr) (Q : VK) (x : DX) (q : DQ), B.K = K → RelB B σ H ρ n G α → XL B W σ H G x → δ x ρ n q →
    (∀ v H' G' d n', Step B.W H G H' G' → B.W.J n' H' → RepB K B.W G' H' d v → q d n' → Q v H') → t σ H Q
def EF (K : PySem.W.Frag) (W : WX) (t : TE) (δ : DE) : Prop :=
  ∀ (B : Bs) (σ : St) (H : Hp) (ρ : Env) (n : Nat) (G : Hp) (α : Nat → Addr) (Q : VK) (x : DX) (q : DQ), B.K = K → RelB B σ H ρ n G α → XL B W σ H G x → δ x ρ n q →
    (∀ a H' G' d n', Step B.W H G H' G' → B.W.J n' H' → H a = none → G' a = none → ¬ B.W.rg a → OwnAt K G' H' a d → q d n' → Q (.ref a) H') → t σ H Q
def ET (K : PySem.W.Frag) (W : WX) (t : TT) (δ : DT) : Prop :=
  ∀ (B : Bs) (σ : St) (H : Hp) (ρ : Env) (n : Nat) (G : Hp) (α : Nat → Addr) (Q : Bool → Hp → Prop) (x : DX) (q : Bool → Nat → Prop), B.K = K → RelB B σ H ρ n G α → XL B W σ H G x → δ x ρ n q →
    (∀ b H' G' n', Step B.W H G H' G' → B.W.J n' H' → q b n' → Q b H') → t σ H Q
def EA (K : PySem.W.Frag) (W : WX) (t : TA) (δ : DA) : Prop :=
  ∀ (B : Bs) (σ : St) (H : Hp) (ρ : Env) (n : Nat) (G : Hp) (α : Nat → Addr) (Q : List V → Hp → Prop) (x : DX) (q : List D → Nat → Prop), B.K = K → RelB B σ H ρ n G α → XL B W σ H G x → δ x ρ n q →
    (∀ vs H' G' ds n', Step B.W H G H' G' → B.W.J n' H' → RepL K G' ds vs → q ds n' → Q vs H') → t σ H Q
def EAB (K : PySem.W.Frag) (W : WX) (t : TA) (δ : DA) : Prop :=
  ∀ (B : Bs) (σ : St) (H : Hp) (ρ : Env) (n : Nat) (G : Hp) (α : Nat → Addr) (Q : List V → Hp → Prop) (x : DX) (q : List D → Nat → Prop), B.K = K → RelB B σ H ρ n G α → XL B W σ H G x → δ x ρ n q →
    (∀ vs H' G' ds n', Step B.W H G H' G' → B.W.J n' H' → RepBL K B.W G' H' ds vs → q ds n' → Q vs H') → t σ H Q
def PD (X : Cx) (W : WX) (e : Expr) (δ : DE) : Prop := ∃ t, PE X e t ∧ ED X.K W t δ
def PB (X : Cx) (W : WX) (e : Expr) (δ : DE) : Prop := ∃ t, PE X e t ∧ EB X.K W t δ
def PF (X : Cx) (W : WX) (e : Expr) (δ : DE) : Prop := ∃ t, PE X e t ∧ EF X.K W t δ
def PTD (X : Cx) (W : WX) (e : Expr) (δ : DT) : Prop := ∃ t, PT X e t ∧ ET X.K W t δ
def PWD (X : Cx) (W : WX) (e : Expr) (δ : DT) : Prop := ∃ t, PW X e t ∧ ET X.K W t δ
def PAD (X : Cx) (W : WX) (es : List Expr) (δ : DA) : Prop := ∃ t, PA X es t ∧ EA X.K W t δ
def PAB (X : Cx) (W : WX) (es : List Expr) (δ : DA) : Prop := ∃ t, PA X es t ∧ EAB X.K W t δ
section
variable {X : Cx} {W : WX} {e : Expr} {δ : DE}
theorem PD.pb (h : PD X W e δ) : PB X W e δ := by
  obtain ⟨t, p, h⟩ := h
  exact ⟨t, p, fun B σ H ρ n G α Q x q hK R hx hd k => h B σ H ρ n G α Q x q hK R hx hd fun v H' G' d n' s j r => k v H' G' d n' s j (.inl r)⟩
theorem PWD.pt {δ : DT} (h : PWD X W e δ) : PTD X W e δ := by
  obtain ⟨t, p, h⟩ := h
  exact ⟨t, p.pt, h⟩
def LkP (Q : Hp → Prop) (H : Hp) : Prop := Q H ∨ ∃ d u, H d = some u ∧ Mut (some u) ∧ ∀ od, Q (upd H d (.frz od u))
def tLk (t : TE) : TE := fun σ H Q => t σ H fun v H' => LkP (Q v) H'
theorem LkP.inv {X : Cx} {pins : List (Addr × Obj)} {σ : St} {H : Hp} {s : Shared} {Q : Hp → Prop} (I : Inv X pins σ H s) (h : LkP Q H) : ∃ H', Inv X pins σ H' s ∧ Q H' := by
  rcases h with h | ⟨d, u, e, mu, h⟩
  · exact ⟨H, I, h⟩
  · obtain ⟨od, I1⟩ := I.lock e mu
    exact ⟨_, I1, h od⟩
theorem pe_lk {X : Cx} {e : Expr} {t : TE} (h : PE X e t) : PE X e (tLk t) := by
  refine ⟨fun pins s σ H Q I hw => thn (h.run pins s σ H _ I hw) fun v s1 ⟨x, H1, I1, r, q⟩ => ?_⟩
  obtain ⟨H2, I2, q⟩ := LkP.inv I1 q
  exact ⟨x, H2, I2, r, q⟩
theorem pss_lk {X : Cx} {st : List Stmt} {t : TS} (h : PSs X st t) : PSs X st (fun D σ H => LkP (t D σ) H) := by
  refine ⟨fun pins s σ H D I hw => ?_⟩
  obtain ⟨H2, I2, q⟩ := LkP.inv I hw
  exact h.run pins s σ H2 D I2 q
theorem freeze {K : PySem.W.Frag} {G H : Hp} {a : Addr} {d : D} {Q : Hp → Prop} (le : Le G H) (hg : G a = none) (h : OwnAt K G H a d) (k : ∀ H1 o, H1 a = some o → (∀ b, b ≠ a → H1 b = H b) → Le (upd G a o) H1 → Le G (upd G a o) → Rep K (upd G a o) d (.ref a) → Q H1) : LkP Q H := by
  have l2 : ∀ o, Le G (upd G a o) := fun o => .of_same fun b u q => by rw [upd_ne (ne_of_none q hg)]; exact q
  have l1 : ∀ o, H a = some o → Le (upd G a o) H := fun o e b u q => by
    by_cases z : b = a
    · subst z
      rw [upd_same] at q
      cases q
      exact ⟨_, e, rfl⟩
    · rw [upd_ne z] at q
      exact le b u q
  cases d with
  | lst ds =>
    obtain ⟨vs, e, r⟩ := h
    exact .inl (k H _ e (fun _ _ => rfl) (l1 _ e) (l2 _) (.lst upd_same (r.mono (l2 _))))
  | dct ds =>
    obtain ⟨vs, e, r⟩ := h
    refine .inr ⟨a, _, e, trivial, fun od => k _ _ upd_same (fun b hb => upd_ne hb) (fun b u q => ?_) (l2 _) (.dct upd_same (r.mono (l2 _)))⟩
    by_cases z : b = a
    · subst z
      rw [upd_same] at q ⊢
      cases q
      exact ⟨_, rfl, rfl⟩
    · rw [upd_ne z] at q ⊢
      exact le b u q
  | obj c fs =>
    obtain ⟨dx, ws, e, r⟩ := h
    exact .inl (k H _ e (fun _ _ => rfl) (l1 _ e) (l2 _) (.obj upd_same (r.mono (l2 _))))
  | _ => exact h.elim
theorem freezeL {K : PySem.W.Frag} {G H : Hp} {a : Addr} {d : D} (le : Le G H) (hg : G a = none) (h : OwnAt K G H a d) (nd : ∀ kvs, d ≠ .dct kvs) : ∃ o, H a = some o ∧ Le (upd G a o) H ∧ Le G (upd G a o) ∧ Rep K (upd G a o) d (.ref a) := by
  have go : ∀ o, H a = some o → Le (upd G a o) H ∧ Le G (upd G a o) := fun o e => by
    refine ⟨fun b u q => ?_, .of_same fun b u q => by rw [upd_ne (ne_of_none q hg)]; exact q⟩
    by_cases z : b = a
    · subst z
      rw [upd_same] at q
      cases q
      exact ⟨_, e, rfl⟩
    · rw [upd_ne z] at q
      exact le b u q
  cases d with
  | lst ds =>
    obtain ⟨vs, e, r⟩ := h
    obtain ⟨l1, l2⟩ := go _ e
    exact ⟨_, e, l1, l2, .lst upd_same (r.mono l2)⟩
  | dct ds => exact (nd _ rfl).elim
  | obj c fs =>
    obtain ⟨dx, ws, e, r⟩ := h
    obtain ⟨l1, l2⟩ := go _ e
    exact ⟨_, e, l1, l2, .obj upd_same (r.mono l2)⟩
  | _ => exact h.elim
theorem Step.frozen {W : Wd} {H G H' G' H1 : Hp} {a : Addr} {o : HO} (s : Step W H G H' G') (np : H a = none) (nr : ¬ W.rg a) (off : ∀ b, b ≠ a → H1 b = H' b) (l1 : Le (upd G' a o) H1) (l2 : Le G' (upd G' a o)) : Step W H G H1 (upd G' a o) := by
  refine ⟨fun b u e r => by rw [off b (ne_of_none e np)]; exact s.fr b u e r, s.le.trans l2, l1, fun b z => ?_⟩
  by_cases q : b = a
  · subst q
    exact .inr ⟨np, nr⟩
  · rw [upd_ne q] at z
    exact s.new b z
theorem PF.pd (h : PF X W e δ) : PD X W e δ := by
  obtain ⟨t, p, h⟩ := h
  refine ⟨_, pe_lk p, fun B σ H ρ n G α Q x q hK R hx hd k => h B σ H ρ n G α _ x q hK R hx hd fun a H' G' d n' s j np ng nr o hq => ?_⟩
  refine freeze s.hh ng o fun H1 ob e off l1 l2 r => ?_
  exact k _ H1 (upd G' a ob) d n' (s.frozen np nr off l1 l2) (B.W.stable _ _ _ (fun b hb => off b fun z => nr (z ▸ hb)) (fun b e q => (off b fun z => o.noExt (z ▸ q)).trans q) j) r hq
theorem PF.pb (h : PF X W e δ) : PB X W e δ := h.pd.pb
end

def dVar (i : Nat) : DE := fun _ ρ n q => match ρ[i]? with
  | some (some (.val d)) => q d n
  | some (some (.gst r _)) => q r n
  | _ => False
def lkG : List (Addr × D) → Addr → Option D
  | [], _ => none
  | g :: gs, b => if g.1 = b then some g.2 else lkG gs b
def resG (gs : List (Addr × D)) : D → D
  | .hnd a => (lkG gs a).getD (.hnd a)
  | d => d
theorem lkG_mem {b : Addr} {d : D} : ∀ {gs : List (Addr × D)}, lkG gs b = some d → (b, d) ∈ gs
  | [], h => nomatch h
  | g :: gs, h => by
    unfold lkG at h
    split at h
    · rename_i e
      cases h
      rw [← e]
      exact List.mem_cons_self ..
    · exact List.mem_cons_of_mem _ (lkG_mem h)
def bVar (i : Nat) : DE := fun _ ρ n q => match ρ[i]? with
  | some (some (.val d)) => q d n
  | some (some (.own d)) => q d n
  | some (some (.gst r gs)) => q (resG gs r) n
  | _ => False
def dC (d : D) : DE := fun _ _ n q => q d n
section
variable {X : Cx} {W : WX} {pos : Pos}
theorem pd_var (i : Nat) {x : Str} (hN : X.N[i]? = some x := by rfl) (hv : Vis X.env.scope x := by first | exact Or.inl rfl | exact Or.inr (Or.inl rfl) | exact Or.inr (Or.inr rfl)) (hd : (x == ("__debug__" : Str)) = false := by decide)
    (hcd : (x == ("__classdict__" : Str)) = false := by decide) : PD X W (.Name x pos) (dVar i) := by
  refine ⟨tVar i, pe_var hN hv hd hcd, fun B σ H ρ n G α Q x q hK R hx h k => ?_⟩
  unfold dVar at h
  split at h
  · rename_i d e
    obtain ⟨v, e1, r⟩ := R.val i d e
    exact ⟨v, e1, k v H G d n (.refl _ R.le) R.J (hK ▸ r) h⟩
  · rename_i r gs e
    obtain ⟨⟨v, e1, r⟩, _⟩ := R.gh.gst i r gs e
    exact ⟨v, e1, k v H G _ n (.refl _ R.le) R.J (hK ▸ r) h⟩
  · exact h.elim
theorem pb_var (i : Nat) {x : Str} (hN : X.N[i]? = some x := by rfl) (hv : Vis X.env.scope x := by first | exact Or.inl rfl | exact Or.inr (Or.inl rfl) | exact Or.inr (Or.inr rfl)) (hd : (x == ("__debug__" : Str)) = false := by decide)
    (hcd : (x == ("__classdict__" : Str)) = false := by decide) : PB X W (.Name x pos) (bVar i) := by
  refine ⟨tVar i, pe_var hN hv hd hcd, fun B σ H ρ n G α Q x q hK R hx h k => ?_⟩
  unfold bVar at h
  split at h
  · rename_i d e
    obtain ⟨v, e1, r⟩ := R.val i d e
    exact ⟨v, e1, k v H G d n (.refl _ R.le) R.J (.inl (hK ▸ r)) h⟩
  · rename_i d e
    obtain ⟨e1, g, _, nr, o⟩ := R.own i d e
    exact ⟨_, e1, k _ H G d n (.refl _ R.le) R.J (.inr ⟨_, rfl, g, nr, hK ▸ o⟩) h⟩
  · rename_i r gs e
    obtain ⟨⟨v, e1, hr⟩, _⟩ := R.gh.gst i r gs e
    refine ⟨v, e1, k v H G _ n (.refl _ R.le) R.J ?_ h⟩
    cases r with
    | hnd a =>
      cases hr
      cases q : lkG gs a with
      | none =>
        show RepB X.K B.W G H ((lkG gs a).getD (.hnd a)) _
        rw [q]
        exact .inl (.hnd a)
      | some d =>
        obtain ⟨h1, _, h3, h4⟩ := R.gh.at_ i _ gs e _ (lkG_mem q)
        show RepB X.K B.W G H ((lkG gs a).getD (.hnd a)) _
        rw [q]
        exact .inr ⟨a, rfl, h1, h3, hK ▸ h4⟩
    | _ => exact .inl (hK ▸ hr)
  · exact h.elim
theorem pd_c {e : Expr} {v : V} {d : D} (h : PE X e (tC v)) (r : ∀ G, Rep X.K G d v) : PD X W e (dC d) :=
  ⟨tC v, h, fun B σ H ρ n G α Q x q hK R hx h k => k v H G d n (.refl _ R.le) R.J (r G) h⟩
theorem pd_int {i j} : PD X W (.Constant (.int i) j pos) (dC (.int i)) := pd_c pe_int fun _ => .int i
theorem pd_bl {b j} : PD X W (.Constant (.bool b) j pos) (dC (.bl b)) := pd_c pe_bl fun _ => .bl b
theorem pd_non {j} : PD X W (.Constant .none j pos) (dC .non) := pd_c pe_non fun _ => .non
theorem pd_str {x j} : PD X W (.Constant (.str x) j pos) (dC (.str x)) := pd_c pe_str fun _ => .str x
end

abbrev F2 := D → D → (D → Prop) → Prop
def DOp (K : PySem.W.Frag) (r : R2) (f : F2) : Prop := ∀ (W : Wd) (H G : Hp) (x y : V) (dx dy : D) (Q : VK) (k : D → Prop), Le G H → RepB K W G H dx x → RepB K W G H dy y → f dx dy k →
  (∀ v H' G' d, StepP H G H' G' → Rep K G' d v → k d → Q v H') → r x y H Q
def dOp (f : F2) (a b : DE) : DE := fun x ρ n q => a x ρ n fun u n1 => b x ρ n1 fun v n2 => f u v fun z => q z n2
section
variable {X : Cx} {W : WX} {a b : Expr} {δa δb : DE} {pos : Pos}
theorem ed_op {K : PySem.W.Frag} {r : R2} {f : F2} {ta tb : TE} (hr : DOp K r f) (ha : EB K W ta δa) (hb : EB K W tb δb) : ED K W (tOp r ta tb) (dOp f δa δb) := by
  intro B σ H ρ n G α Q x q hK R hx h k
  refine ha B σ H ρ n G α _ x _ hK R hx h fun v1 H1 G1 d1 n1 s1 j1 r1 h1 => ?_
  refine hb B σ H1 ρ n1 G1 α _ x _ hK (R.step s1 j1) (hx.step s1) h1 fun v2 H2 G2 d2 n2 s2 j2 r2 h2 => ?_
  exact hr B.W H2 G2 v1 v2 d1 d2 Q _ s2.hh (r1.step s2) r2 h2 fun v H' G' d s r hq => k v H' G' d n2 (s1.trans (s2.trans (s.step j2))) (s.J j2) r hq
theorem pd_op {op : Operator} {r : R2} {f : F2} (ho : OpR X (binaryOp op) r) (hr : DOp X.K r f) (ha : PB X W a δa) (hb : PB X W b δb) : PD X W (.BinOp a op b pos) (dOp f δa δb) := by
  obtain ⟨ta, pa, ea⟩ := ha
  obtain ⟨tb, pb, eb⟩ := hb
  exact ⟨_, pe_op ho pa pb, ed_op hr ea eb⟩
theorem pd_cmp {op : CmpOp} {r : R2} {f : F2} (ho : OpR X (compareOp op) r) (hr : DOp X.K r f) (ha : PB X W a δa) (hb : PB X W b δb) (hm : behindInMarks op b = false) : PD X W (.Compare a [op] [b] pos) (dOp f δa δb) := by
  obtain ⟨ta, pa, ea⟩ := ha
  obtain ⟨tb, pb, eb⟩ := hb
  exact ⟨_, pe_cmpR ho pa pb hm, ed_op hr ea eb⟩
def bq (q : Bool → Nat → Prop) : DQ := fun d n => match d with
  | .bl b => q b n
  | _ => False
def dTest (δ : DE) : DT := fun x ρ n q => δ x ρ n (bq q)
theorem et_of {K : PySem.W.Frag} {t : TE} {δ : DE} (h : EB K W t δ) : ET K W (fun σ H Q => t σ H fun x H' => ∃ k, x = .bl k ∧ Q k H') (dTest δ) := by
  intro B σ H ρ n G α Q x q hK R hx hd k
  refine h B σ H ρ n G α _ x _ hK R hx hd fun v H' G' d n' s j r hq => ?_
  cases d with
  | bl b =>
    rcases r with r | ⟨a, e, _, _, o⟩
    · cases r
      exact ⟨b, rfl, k b H' G' n' s j hq⟩
    · exact o.elim
  | _ => exact hq.elim
theorem ED.eb {K : PySem.W.Frag} {t : TE} {δ : DE} (h : ED K W t δ) : EB K W t δ := fun B σ H ρ n G α Q x q hK R hx hd k => h B σ H ρ n G α Q x q hK R hx hd fun v H' G' d n' s j r => k v H' G' d n' s j (.inl r)
theorem pt_cmpD {op : CmpOp} {r : R2} {f : F2} (ho : OpR X (compareOp op) r) (hr : DOp X.K r f) (ha : PB X W a δa) (hb : PB X W b δb) (hm : behindInMarks op b = false) : PTD X W (.Compare a [op] [b] pos) (dTest (dOp f δa δb)) := by
  obtain ⟨ta, pa, ea⟩ := ha
  obtain ⟨tb, pb, eb⟩ := hb
  exact ⟨_, pt_cmpR ho pa pb hm, et_of (ed_op hr ea eb).eb⟩
theorem pt_valD {e : Expr} {δ : DE} (h : PB X W e δ) (he : ∀ whole, isTrue e X.env whole = (do let v ← whole; standAt e.pos; holding [v] (truthy v)) := by intro _; rfl) : PTD X W e (dTest δ) := by
  obtain ⟨t, p, h⟩ := h
  exact ⟨_, pt_val p he, et_of h⟩
end

section
variable {K : PySem.W.Frag} {W : Wd} {G H : Hp} {v : V}
theorem RepB.int {i : Int} (r : RepB K W G H (.int i) v) : v = .int i := by
  rcases r with r | ⟨a, e, _, _, o⟩
  · cases r; rfl
  · exact o.elim
theorem RepB.bl {b : Bool} (r : RepB K W G H (.bl b) v) : v = .bl b := by
  rcases r with r | ⟨a, e, _, _, o⟩
  · cases r; rfl
  · exact o.elim
theorem RepB.str {x : Str} (r : RepB K W G H (.str x) v) : v = .str x := by
  rcases r with r | ⟨a, e, _, _, o⟩
  · cases r; rfl
  · exact o.elim
theorem RepB.non (r : RepB K W G H .non v) : v = .non := by
  rcases r with r | ⟨a, e, _, _, o⟩
  · cases r; rfl
  · exact o.elim
theorem RepB.lst {ds : List D} (le : Le G H) (r : RepB K W G H (.lst ds) v) : ∃ a vs, v = .ref a ∧ H a = some (.lst vs) ∧ RepL K G ds vs := by
  rcases r with r | ⟨a, e, _, _, o⟩
  · cases r with
    | lst e r => exact ⟨_, _, rfl, le.lst e, r⟩
  · obtain ⟨vs, e1, r⟩ := o
    exact ⟨a, vs, e, e1, r⟩
theorem RepB.tup {ds : List D} (le : Le G H) (r : RepB K W G H (.tup ds) v) : ∃ a vs, v = .ref a ∧ SqT K H a vs ∧ RepL K G ds vs := by
  rcases r with r | ⟨a, e, _, _, o⟩
  · cases r with
    | tup e r => exact ⟨_, _, rfl, le.sqT e, r⟩
  · exact o.elim
theorem RepB.dct {kvs : List (Key × D)} (le : Le G H) (r : RepB K W G H (.dct kvs) v) : ∃ a ws, v = .ref a ∧ Rd H a (.dK ws) ∧ RepK K G kvs ws := by
  rcases r with r | ⟨a, e, _, _, o⟩
  · cases r with
    | dct e r => exact ⟨_, _, rfl, .inr ⟨_, le.get e⟩, r⟩
  · obtain ⟨vs, e1, r⟩ := o
    exact ⟨a, vs, e, .inl e1, r⟩
theorem RepB.obj {c : Str} {fs : List (Str × D)} (le : Le G H) (r : RepB K W G H (.obj c fs) v) : ∃ a dx ws, v = .ref a ∧ H a = some (.ins (ca K c) dx ws) ∧ RepF K G fs ws := by
  rcases r with r | ⟨a, e, _, _, o⟩
  · cases r with
    | obj e r => exact ⟨_, _, _, rfl, le.ins e, r⟩
  · obtain ⟨dx, ws, e1, r⟩ := o
    exact ⟨a, dx, ws, e, e1, r⟩
end
end DL

end

section
set_option autoImplicit false
namespace DL
open PySem PySem.Spec L2

def fI (C : Int → Int → Prop) (g : Int → Int → D) : F2 := fun x y k => match x, y with
  | .int i, .int j => C i j ∧ k (g i j)
  | _, _ => False
def fI0 (g : Int → Int → D) : F2 := fun x y k => match x, y with
  | .int i, .int j => k (g i j)
  | _, _ => False
section
variable {K : PySem.W.Frag}
theorem dop_I {C : Int → Int → Prop} {gv : Int → Int → V} {g : Int → Int → D} (h : ∀ i j G, Rep K G (g i j) (gv i j)) : DOp K (rI C gv) (fI C g) := by
  intro W H G x y dx dy Q k le rx ry hf hk
  cases dx with
  | int i =>
    cases dy with
    | int j => exact ⟨i, j, rx.int, ry.int, hf.1, hk _ H G _ (.refl le) (h i j G) hf.2⟩
    | _ => exact hf.elim
  | _ => exact hf.elim
theorem dop_I0 {gv : Int → Int → V} {g : Int → Int → D} (h : ∀ i j G, Rep K G (g i j) (gv i j)) : DOp K (rI0 gv) (fI0 g) := by
  intro W H G x y dx dy Q k le rx ry hf hk
  cases dx with
  | int i =>
    cases dy with
    | int j => exact ⟨i, j, rx.int, ry.int, hk _ H G _ (.refl le) (h i j G) hf⟩
    | _ => exact hf.elim
  | _ => exact hf.elim
def fOr (f g : F2) : F2 := fun x y k => f x y k ∨ g x y k
theorem dop_or {r r' : R2} {f f' : F2} (h : DOp K r f) (h' : DOp K r' f') : DOp K (fun x y H Q => r x y H Q ∨ r' x y H Q) (fOr f f') := by
  intro W H G x y dx dy Q k le rx ry hf hk
  rcases hf with hf | hf
  · exact .inl (h W H G x y dx dy Q k le rx ry hf hk)
  · exact .inr (h' W H G x y dx dy Q k le rx ry hf hk)
theorem DOp.imp {r : R2} {f f' : F2} (h : DOp K r f) (hf : ∀ x y k, f' x y k → f x y k) : DOp K r f' :=
  fun W H G x y dx dy Q k le rx ry q hk => h W H G x y dx dy Q k le rx ry (hf _ _ _ q) hk
end
def fAdd : F2 := fun x y k => match x, y with
  | .int i, .int j => k (.int (i + j))
  | .lst a, .lst b => a.length + b.length ≤ 16777216 ∧ k (.lst (a ++ b))
  | .str a, .str b => a.length + b.length ≤ 16777216 ∧ k (.str (a ++ b))
  | _, _ => False
def fSub : F2 := fI0 fun i j => .int (i - j)
def MulOk (i j : Int) : Prop := CMul i j ∨ CMulW i j
def fMul : F2 := fun x y k => match x, y with
  | .int i, .int j => MulOk i j ∧ k (.int (i * j))
  | .lst a, .int j => (-(2 ^ 63) ≤ j ∧ j < 2 ^ 63 ∧ a.length * j.toNat ≤ 16777216) ∧ k (.lst (List.replicate j.toNat a).flatten)
  | _, _ => False
def fDiv : F2 := fI (fun _ j => 0 < j ∧ j < 1073741824) fun i j => .int (i / j)
def fMod : F2 := fI (fun _ j => 0 < j) fun i j => .int (i % j)
def fPow : F2 := fI (fun i j => 0 ≤ j ∧ j ≤ 1000000 ∧ i.natAbs < 2 ^ 64) fun i j => .int (i ^ j.toNat)
def fLt : F2 := fI0 fun i j => .bl (decide (i < j))
def fLe : F2 := fI0 fun i j => .bl (decide (i ≤ j))
def fGt : F2 := fI0 fun i j => .bl (decide (j < i))
def fGe : F2 := fI0 fun i j => .bl (decide (j ≤ i))
section
variable {K : PySem.W.Frag} {X : Cx}
theorem dop_cat : DOp K rCat (fun x y k => match x, y with | .lst a, .lst b => a.length + b.length ≤ 16777216 ∧ k (.lst (a ++ b)) | _, _ => False) := by
  intro W H G x y dx dy Q k le rx ry hf hk
  cases dx with
  | lst a =>
    cases dy with
    | lst b =>
      obtain ⟨p, vs, e1, h1, r1⟩ := rx.lst le
      obtain ⟨p', us, e2, h2, r2⟩ := ry.lst le
      obtain ⟨hz, hf⟩ := hf
      have l1 := r1.length
      have l2 := r2.length
      refine ⟨p, p', vs, us, e1, e2, h1, h2, by rw [sizeLine_eq]; omega, fun z np => ?_⟩
      have s := StepP.made (o := .lst (vs ++ us)) le np
      exact hk _ _ _ _ s (.lst upd_same ((r1.append r2).mono s.le)) hf
    | _ => exact hf.elim
  | _ => exact hf.elim
theorem dop_addS : DOp K (fun x y H Q => ∃ i j, x = .str i ∧ y = .str j ∧ i.length + j.length ≤ sizeLine ∧ Q (.str (i ++ j)) H) (fun x y k => match x, y with | .str a, .str b => a.length + b.length ≤ 16777216 ∧ k (.str (a ++ b)) | _, _ => False) := by
  intro W H G x y dx dy Q k le rx ry hf hk
  cases dx with
  | str a =>
    cases dy with
    | str b => exact ⟨a, b, rx.str, ry.str, by rw [sizeLine_eq]; exact hf.1, hk _ H G _ (.refl le) (.str _) hf.2⟩
    | _ => exact hf.elim
  | _ => exact hf.elim
theorem op_addD : OpR X (binaryOp .Add) (fun x y H Q => rI0 (fun i j => .int (i + j)) x y H Q ∨ (rCat x y H Q ∨ (∃ i j, x = .str i ∧ y = .str j ∧ i.length + j.length ≤ sizeLine ∧ Q (.str (i ++ j)) H))) := op_add.or (op_cat.or op_add_str)
theorem dop_add : DOp K (fun x y H Q => rI0 (fun i j => .int (i + j)) x y H Q ∨ (rCat x y H Q ∨ (∃ i j, x = .str i ∧ y = .str j ∧ i.length + j.length ≤ sizeLine ∧ Q (.str (i ++ j)) H))) fAdd :=
  (dop_or (dop_I0 (g := fun i j => .int (i + j)) fun i j G => .int _) (dop_or dop_cat dop_addS)).imp fun x y k h => by
    unfold fAdd at h
    split at h
    · exact .inl h
    · exact .inr (.inl h)
    · exact .inr (.inr h)
    · exact h.elim
theorem dop_sub : DOp K (rI0 fun i j => .int (i - j)) fSub := dop_I0 fun i j G => .int _
theorem dop_rep : DOp K rRep (fun x y k => match x, y with | .lst a, .int j => (-(2 ^ 63) ≤ j ∧ j < 2 ^ 63 ∧ a.length * j.toNat ≤ 16777216) ∧ k (.lst (List.replicate j.toNat a).flatten) | _, _ => False) := by
  intro W H G x y dx dy Q k le rx ry hf hk
  cases dx with
  | lst a =>
    cases dy with
    | int j =>
      obtain ⟨p, vs, e1, h1, r1⟩ := rx.lst le
      obtain ⟨⟨h2, h3, h4⟩, hf⟩ := hf
      have l1 := r1.length
      refine ⟨p, j, vs, e1, ry.int, h1, h2, h3, by rw [sizeLine_eq, ← l1]; exact h4, fun z np => ?_⟩
      have s := StepP.made (o := .lst (List.replicate j.toNat vs).flatten) le np
      exact hk _ _ _ _ s (.lst upd_same ((r1.rep j.toNat).mono s.le)) hf
    | _ => exact hf.elim
  | _ => exact hf.elim
theorem op_mulD : OpR X (binaryOp .Mult) (fun x y H Q => rI CMul (fun i j => .int (i * j)) x y H Q ∨ (rI CMulW (fun i j => .int (i * j)) x y H Q ∨ rRep x y H Q)) := op_mul.or (op_mulW.or op_rep)
theorem dop_mul : DOp K (fun x y H Q => rI CMul (fun i j => .int (i * j)) x y H Q ∨ (rI CMulW (fun i j => .int (i * j)) x y H Q ∨ rRep x y H Q)) fMul :=
  (dop_or (dop_I (g := fun i j => .int (i * j)) fun i j G => .int _) (dop_or (dop_I (g := fun i j => .int (i * j)) fun i j G => .int _) dop_rep)).imp fun x y k h => by
    unfold fMul at h
    split at h
    · rcases h with ⟨h | h, q⟩
      · exact .inl ⟨h, q⟩
      · exact .inr (.inl ⟨h, q⟩)
    · exact .inr (.inr h)
    · exact h.elim
theorem dop_mod : DOp K (rI (fun _ j => 0 < j) fun i j => .int (i % j)) fMod := dop_I fun i j G => .int _
theorem dop_lt : DOp K (rI0 fun i j => .bl (decide (i < j))) fLt := dop_I0 fun i j G => .bl _
theorem dop_gt : DOp K (rI0 fun i j => .bl (decide (j < i))) fGt := dop_I0 fun i j G => .bl _
end
section
variable {X : Cx} {W : WX} {a b : Expr} {δa δb : DE} {pos : Pos}
theorem pd_add (ha : PB X W a δa) (hb : PB X W b δb) : PD X W (.BinOp a .Add b pos) (dOp fAdd δa δb) := pd_op op_addD dop_add ha hb
theorem pd_sub (ha : PB X W a δa) (hb : PB X W b δb) : PD X W (.BinOp a .Sub b pos) (dOp fSub δa δb) := pd_op op_sub dop_sub ha hb
theorem pd_mul (ha : PB X W a δa) (hb : PB X W b δb) : PD X W (.BinOp a .Mult b pos) (dOp fMul δa δb) := pd_op op_mulD dop_mul ha hb
theorem pd_mod (ha : PB X W a δa) (hb : PB X W b δb) : PD X W (.BinOp a .Mod b pos) (dOp fMod δa δb) := pd_op op_mod dop_mod ha hb
end

mutual
def pyD : D → PyData
  | .non => .none
  | .bl b => .bool b
  | .int i => .int i
  | .str x => .str x
  | .lst ds => .list (pyL ds)
  | .tup ds => .tuple (pyL ds)
  | .dct _ => .dict []
  | .obj _ _ => .dict []
  | .hnd _ => .dict []
  | .exc _ _ _ _ => .dict []
  | .rol _ => .dict []
def pyL : List D → List PyData
  | [] => []
  | d :: ds => pyD d :: pyL ds
end
mutual
theorem Rep.dp {K : PySem.W.Frag} {G : Hp} : ∀ {d : D} {v : V}, Rep K G d v → (pyD d).canLay0 = true → Dp K G v (pyD d)
  | _, _, .non, _ => .non
  | _, _, .bl b, _ => .bl b
  | _, _, .int i, _ => .int i
  | _, _, .str x, _ => .str x
  | _, _, .lst e r, h => .lst (SqL.of e) (RepL.dp r (by simpa [pyD, PyData.canLay0] using h))
  | _, _, .tup e r, h => .tup e (RepL.dp r (by simpa [pyD, PyData.canLay0] using h))
  | _, _, .dct _ _, h => by simp [pyD, PyData.canLay0] at h
  | _, _, .obj _ _, h => by simp [pyD, PyData.canLay0] at h
  | _, _, .hnd _, h => by simp [pyD, PyData.canLay0] at h
  | _, _, .exc _ _, h => by simp [pyD, PyData.canLay0] at h
  | _, _, .rol _ _, h => by simp [pyD, PyData.canLay0] at h
theorem RepL.dp {K : PySem.W.Frag} {G : Hp} : ∀ {d : List D} {v : List V}, RepL K G d v → PyData.canLayAll0 (pyL d) = true → DpAll K G v (pyL d)
  | _, _, .nil, _ => .nil
  | _, _, .cons (d := d) (ds := ds) r t, h => by
    have h' := Bool.and_eq_true_iff.mp (show (PyData.canLay0 (pyD d) && PyData.canLayAll0 (pyL ds)) = true from h)
    exact .cons (Rep.dp r h'.1) (RepL.dp t h'.2)
end
theorem Le.sqL {G H : Hp} (h : Le G H) {K : PySem.W.Frag} {a : Addr} {vs : List V} (e : SqL K G a vs) : SqL K H a vs := by
  rcases e with (e | ⟨x, e⟩) | e
  · exact .inl (.inl (h.lst e))
  · obtain ⟨o, e', c⟩ := h a _ e
    exact .inl (.inr ⟨x, by rw [e', c]⟩)
  · exact .inr e
mutual
theorem dp_mono {K : PySem.W.Frag} {G H : Hp} (le : Le G H) : ∀ {v : V} {d : PyData}, Dp K G v d → Dp K H v d
  | _, _, .non => .non
  | _, _, .bl b => .bl b
  | _, _, .int i => .int i
  | _, _, .str x => .str x
  | _, _, .lst e r => .lst (le.sqL e) (dpAll_mono le r)
  | _, _, .tup e r => .tup (le.sqT e) (dpAll_mono le r)
theorem dpAll_mono {K : PySem.W.Frag} {G H : Hp} (le : Le G H) : ∀ {v : List V} {d : List PyData}, DpAll K G v d → DpAll K H v d
  | _, _, .nil => .nil
  | _, _, .cons r t => .cons (dp_mono le r) (dpAll_mono le t)
end
theorem RepB.dp {K : PySem.W.Frag} {W : Wd} {G H : Hp} {d : D} {v : V} (le : Le G H) (r : RepB K W G H d v) (h : SeqAt.shaped (pyD d) = true) : Dp K H v (pyD d) := by
  have h0 := SeqAt.canLay_of_shaped h
  rcases r with r | ⟨a, e, _, _, o⟩
  · exact dp_mono le (r.dp h0)
  · cases d with
    | lst ds =>
      obtain ⟨vs, e1, r⟩ := o
      subst e
      refine .lst (SqL.of e1) (dpAll_mono le (r.dp (by simpa [pyD, PyData.canLay0] using h0)))
    | dct _ => simp [pyD, PyData.canLay0] at h0
    | obj _ _ => simp [pyD, PyData.canLay0] at h0
    | _ => exact o.elim
def fEq : F2 := fun x y k => SeqAt.shaped (pyD x) = true ∧ SeqAt.shaped (pyD y) = true ∧ k (.bl (PyData.eqv (pyD x) (pyD y)))
def fNe : F2 := fun x y k => SeqAt.shaped (pyD x) = true ∧ SeqAt.shaped (pyD y) = true ∧ k (.bl (!PyData.eqv (pyD x) (pyD y)))
section
variable {K : PySem.W.Frag}
theorem dop_eq : DOp K (rEqD K) fEq := by
  intro W H G x y dx dy Q k le rx ry hf hk
  obtain ⟨h1, h2, hf⟩ := hf
  exact ⟨_, _, rx.dp le h1, ry.dp le h2, h1, h2, hk _ H G _ (.refl le) (.bl _) hf⟩
theorem dop_ne : DOp K (rNeD K) fNe := by
  intro W H G x y dx dy Q k le rx ry hf hk
  obtain ⟨h1, h2, hf⟩ := hf
  exact ⟨_, _, rx.dp le h1, ry.dp le h2, h1, h2, hk _ H G _ (.refl le) (.bl _) hf⟩
def isNonD : D → Bool
  | .non => true
  | _ => false
def fIs : F2 := fun x y k => match y with
  | .non => k (.bl (isNonD x))
  | _ => False
def fIsNot : F2 := fun x y k => match y with
  | .non => k (.bl (!isNonD x))
  | _ => False
def flatD : D → Bool
  | .non => true
  | .bl _ => true
  | .int _ => true
  | .str _ => true
  | _ => false
def eqD : D → D → Bool
  | .non, .non => true
  | .bl a, .bl b => a == b
  | .bl a, .int b => (if a then 1 else 0) == b
  | .int a, .bl b => a == (if b then 1 else 0)
  | .int a, .int b => a == b
  | .str a, .str b => a == b
  | _, _ => false
theorem Rep.flat {G : Hp} {d : D} {v : V} (r : Rep K G d v) (h : flatD d = true) : flatV v = true := by
  cases r <;> first | rfl | (simp [flatD] at h)
theorem Rep.eqV {G : Hp} {d e : D} {v u : V} (r : Rep K G d v) (r' : Rep K G e u) (h : flatD d = true) (h' : flatD e = true) : eqV v u = eqD d e := by
  cases r <;> first | (simp [flatD] at h; done) | (cases r' <;> first | rfl | (simp [flatD] at h'))
theorem RepL.flat {G : Hp} : ∀ {ds : List D} {vs : List V}, RepL K G ds vs → ds.all flatD = true → vs.all flatV = true
  | _, _, .nil, _ => rfl
  | _, _, .cons r t, h => by
    rw [List.all_cons, Bool.and_eq_true_iff] at h
    rw [List.all_cons, r.flat h.1, RepL.flat t h.2]
    rfl
theorem RepL.inV {G : Hp} {d : D} {v : V} (r : Rep K G d v) (h : flatD d = true) : ∀ {ds : List D} {vs : List V}, RepL K G ds vs → ds.all flatD = true → inV v vs = ds.any fun y => eqD y d
  | _, _, .nil, _ => rfl
  | _, _, .cons q t, z => by
    rw [List.all_cons, Bool.and_eq_true_iff] at z
    rw [List.any_cons, ← RepL.inV r h t z.2]
    show (eqV _ v || _) = _
    rw [q.eqV r z.1 h]
    rfl
def seqD : D → Option (List D)
  | .lst ds => some ds
  | .tup ds => some ds
  | .rol ds => some ds
  | _ => none
def fIn (neg : Bool) : F2 := fun x y k => flatD x = true ∧ match seqD y with
  | some ds => ds.all flatD = true ∧ k (.bl (if neg then !ds.any (fun y => eqD y x) else ds.any fun y => eqD y x))
  | none => False
theorem RepB.seq {W : Wd} {G H : Hp} {d : D} {v : V} {ds : List D} (le : Le G H) (r : RepB K W G H d v) (h : seqD d = some ds) : ∃ a vs, v = .ref a ∧ (SqL K H a vs ∨ SqT K H a vs) ∧ RepL K G ds vs := by
  cases d with
  | lst es =>
    obtain ⟨a, vs, e, h1, r1⟩ := r.lst le
    cases h
    exact ⟨a, vs, e, .inl (SqL.of h1), r1⟩
  | tup es =>
    obtain ⟨a, vs, e, h1, r1⟩ := r.tup le
    cases h
    exact ⟨a, vs, e, .inr h1, r1⟩
  | rol es =>
    cases h
    rcases r with r | ⟨a, e, _, _, o⟩
    · cases r with
      | rol e r => exact ⟨_, _, rfl, .inl (.inl (.inr ⟨_, le.get e⟩)), r⟩
    · exact o.elim
  | _ => exact nomatch h
theorem RepB.flat_rep {W : Wd} {G H : Hp} {d : D} {v : V} (r : RepB K W G H d v) (h : flatD d = true) : Rep K G d v := by
  rcases r with r | ⟨a, e, _, _, o⟩
  · exact r
  · cases d <;> first | exact o.elim | exact nomatch h
theorem dop_in (neg : Bool) : DOp K (rIn K neg) (fIn neg) := by
  intro W H G x y dx dy Q k le rx ry hf hk
  obtain ⟨h1, hf⟩ := hf
  split at hf
  · rename_i ds e
    obtain ⟨a, vs, ey, hs, r⟩ := ry.seq le e
    obtain ⟨h2, hf⟩ := hf
    have rx' := rx.flat_rep h1
    refine ⟨a, vs, ey, hs, rx'.flat h1, r.flat h2, hk _ H G _ (.refl le) ?_ hf⟩
    rw [RepL.inV rx' h1 r h2]
    exact .bl _
  · exact hf.elim
end
section
variable {X : Cx} {W : WX} {a b : Expr} {δa δb : DE} {pos : Pos}
theorem pd_eq (hu : X.A.units + 64 < cLine) (ha : PB X W a δa) (hb : PB X W b δb) : PD X W (.Compare a [.Eq] [b] pos) (dOp fEq δa δb) := pd_cmp (op_eqD hu) dop_eq ha hb (nomark _)
theorem pd_in (ha : PB X W a δa) (hb : PB X W b δb) (hm : behindInMarks .In b = false := by rfl) : PD X W (.Compare a [.In] [b] pos) (dOp (fIn false) δa δb) := pd_cmp op_in_seq (dop_in false) ha hb hm
theorem pt_lt (ha : PB X W a δa) (hb : PB X W b δb) : PTD X W (.Compare a [.Lt] [b] pos) (dTest (dOp fLt δa δb)) := pt_cmpD op_lt dop_lt ha hb (nomark _)
theorem pt_gt (ha : PB X W a δa) (hb : PB X W b δb) : PTD X W (.Compare a [.Gt] [b] pos) (dTest (dOp fGt δa δb)) := pt_cmpD op_gt dop_gt ha hb (nomark _)
theorem pt_ne (hu : X.A.units + 64 < cLine) (ha : PB X W a δa) (hb : PB X W b δb) : PTD X W (.Compare a [.NotEq] [b] pos) (dTest (dOp fNe δa δb)) := pt_cmpD (op_neD hu) dop_ne ha hb (nomark _)
end

def dAndT (a b : DT) : DT := fun x ρ n q => a x ρ n fun c n1 => if c = true then b x ρ n1 q else q false n1
def dOrT (a b : DT) : DT := fun x ρ n q => a x ρ n fun c n1 => if c = true then q true n1 else b x ρ n1 q
def dNotT (a : DT) : DT := fun x ρ n q => a x ρ n fun c n1 => q (!c) n1
def bd (k : Bool → Nat → Prop) : DQ := fun d n => match d with
  | .bl c => k c n
  | _ => False
def dAnd (a b : DE) : DE := fun x ρ n q => a x ρ n (bd fun c n1 => if c = true then b x ρ n1 q else q (.bl false) n1)
def dOr (a b : DE) : DE := fun x ρ n q => a x ρ n (bd fun c n1 => if c = true then q (.bl true) n1 else b x ρ n1 q)
def dNot (a : DE) : DE := fun x ρ n q => a x ρ n (bd fun c n1 => q (.bl (!c)) n1)
def dIf (t : DT) (a b : DE) : DE := fun x ρ n q => t x ρ n fun c n1 => if c = true then a x ρ n1 q else b x ρ n1 q
section
variable {X : Cx} {W : WX} {a b c : Expr} {rest : List Expr} {δa δb : DE} {τa τb : DT} {pos : Pos}
theorem pwd_or1 (h : PTD X W a τa) : PWD X W (.BoolOp .Or [a] pos) τa := by
  obtain ⟨t, p, e⟩ := h
  exact ⟨t, pw_or1 p, e⟩
theorem pwd_or (h : PTD X W a τa) (h2 : PWD X W (.BoolOp .Or (b :: rest) pos) τb) : PWD X W (.BoolOp .Or (a :: b :: rest) pos) (dOrT τa τb) := by
  obtain ⟨t, p, e⟩ := h
  obtain ⟨t', p', e'⟩ := h2
  refine ⟨_, pw_or p p', fun B σ H ρ n G α Q x q hK R hx hd k => ?_⟩
  refine e B σ H ρ n G α _ x _ hK R hx hd fun c H1 G1 n1 s1 j1 h1 => ?_
  cases c with
  | true =>
    rw [if_pos rfl] at h1 ⊢
    exact k true H1 G1 n1 s1 j1 h1
  | false =>
    rw [if_neg Bool.false_ne_true] at h1 ⊢
    exact e' B σ H1 ρ n1 G1 α Q x q hK (R.step s1 j1) (hx.step s1) h1 fun b H2 G2 n2 s2 j2 h2 => k b H2 G2 n2 (s1.trans s2) j2 h2
theorem ptd_not (h : PTD X W a τa) : PTD X W (.UnaryOp .Not a pos) (dNotT τa) := by
  obtain ⟨t, p, e⟩ := h
  refine ⟨_, pt_not p, fun B σ H ρ n G α Q x q hK R hx hd k => ?_⟩
  exact e B σ H ρ n G α _ x _ hK R hx hd fun c H1 G1 n1 s1 j1 h1 => k (!c) H1 G1 n1 s1 j1 h1
theorem pd_one {op} (h : PD X W a δa) : PD X W (.BoolOp op [a] pos) δa := by
  obtain ⟨t, p, e⟩ := h
  exact ⟨t, pe_one p, e⟩
theorem pd_and (h : PD X W a δa) (h2 : PD X W (.BoolOp .And (b :: rest) pos) δb) : PD X W (.BoolOp .And (a :: b :: rest) pos) (dAnd δa δb) := by
  obtain ⟨t, p, e⟩ := h
  obtain ⟨t', p', e'⟩ := h2
  refine ⟨_, pe_and p p', fun B σ H ρ n G α Q x q hK R hx hd k => ?_⟩
  refine e B σ H ρ n G α _ x _ hK R hx hd fun v H1 G1 d n1 s1 j1 r1 h1 => ?_
  cases d with
  | bl c =>
    cases r1
    refine ⟨c, rfl, ?_⟩
    cases c with
    | true =>
      have h1' : δb x ρ n1 q := h1
      rw [if_pos rfl]
      exact e' B σ H1 ρ n1 G1 α Q x q hK (R.step s1 j1) (hx.step s1) h1' fun v H2 G2 d n2 s2 j2 h2 => k v H2 G2 d n2 (s1.trans s2) j2 h2
    | false =>
      rw [if_neg Bool.false_ne_true]
      exact k _ H1 G1 _ n1 s1 j1 (.bl false) h1
  | _ => exact h1.elim
theorem pd_not (h : PD X W a δa) : PD X W (.UnaryOp .Not a pos) (dNot δa) := by
  obtain ⟨t, p, e⟩ := h
  refine ⟨_, pe_not p, fun B σ H ρ n G α Q x q hK R hx hd k => ?_⟩
  refine e B σ H ρ n G α _ x _ hK R hx hd fun v H1 G1 d n1 s1 j1 r1 h1 => ?_
  cases d with
  | bl c =>
    cases r1
    exact ⟨c, rfl, k _ H1 G1 _ n1 s1 j1 (.bl (!c)) h1⟩
  | _ => exact h1.elim
end

def dNil : DA := fun _ _ n q => q [] n
def dCons (a : DE) (r : DA) : DA := fun x ρ n q => a x ρ n fun d n1 => r x ρ n1 fun ds n2 => q (d :: ds) n2
def dTup (a : DA) : DE := fun x ρ n q => a x ρ n fun ds n1 => ds.length ≤ 16777216 ∧ q (.tup ds) n1
def dLst (a : DA) : DE := fun x ρ n q => a x ρ n fun ds n1 => ds.length ≤ 16777216 ∧ q (.lst ds) n1
def dEmp : DE := fun _ _ n q => q (.dct []) n
section
variable {X : Cx} {W : WX} {e : Expr} {es : List Expr} {δ : DE} {α' : DA} {pos : Pos}
theorem pad_nil : PAD X W [] dNil := ⟨_, pa_nil, fun B σ H ρ n G α Q x q hK R hx hd k => k [] H G [] n (.refl _ R.le) R.J .nil hd⟩
theorem pad_cons (h : PD X W e δ) (h2 : PAD X W es α') (hs : starEach (e :: es) X.env = (false, eval e X.env) :: starEach es X.env := by rfl) : PAD X W (e :: es) (dCons δ α') := by
  obtain ⟨t, p, h⟩ := h
  obtain ⟨t', p', h'⟩ := h2
  refine ⟨_, pa_cons p p' hs, fun B σ H ρ n G α Q x q hK R hx hd k => ?_⟩
  refine h B σ H ρ n G α _ x _ hK R hx hd fun v H1 G1 d n1 s1 j1 r1 h1 => ?_
  refine h' B σ H1 ρ n1 G1 α _ x _ hK (R.step s1 j1) (hx.step s1) h1 fun vs H2 G2 ds n2 s2 j2 r2 h2 => ?_
  exact k _ H2 G2 _ n2 (s1.trans s2) j2 (.cons (r1.mono s2.le) r2) h2
theorem pab_nil : PAB X W [] dNil := ⟨_, pa_nil, fun B σ H ρ n G α Q x q hK R hx hd k => k [] H G [] n (.refl _ R.le) R.J .nil hd⟩
theorem pab_cons (h : PB X W e δ) (h2 : PAB X W es α') (hs : starEach (e :: es) X.env = (false, eval e X.env) :: starEach es X.env := by rfl) : PAB X W (e :: es) (dCons δ α') := by
  obtain ⟨t, p, h⟩ := h
  obtain ⟨t', p', h'⟩ := h2
  refine ⟨_, pa_cons p p' hs, fun B σ H ρ n G α Q x q hK R hx hd k => ?_⟩
  refine h B σ H ρ n G α _ x _ hK R hx hd fun v H1 G1 d n1 s1 j1 r1 h1 => ?_
  refine h' B σ H1 ρ n1 G1 α _ x _ hK (R.step s1 j1) (hx.step s1) h1 fun vs H2 G2 ds n2 s2 j2 r2 h2 => ?_
  exact k _ H2 G2 _ n2 (s1.trans s2) j2 (.cons (r1.step s2) r2) h2
theorem pd_tup {x1} (h : PAD X W es α') : PD X W (.Tuple es x1 pos) (dTup α') := by
  obtain ⟨t, p, h⟩ := h
  refine ⟨_, pe_tup p, fun B σ H ρ n G α Q x q hK R hx hd k => ?_⟩
  refine h B σ H ρ n G α _ x _ hK R hx hd fun vs H1 G1 ds n1 s1 j1 r1 h1 => ?_
  refine ⟨by rw [sizeLine_eq, ← r1.length]; exact h1.1, fun a np => ?_⟩
  have s := StepP.made (o := .tup vs) s1.hh np
  exact k _ _ _ _ n1 (s1.trans (s.step j1)) (s.J j1) (.tup (SqT.of upd_same) (r1.mono s.le)) h1.2
theorem pf_lst (h : PAD X W es α') : PF X W (.List es pos) (dLst α') := by
  obtain ⟨t, p, h⟩ := h
  refine ⟨_, pe_lst p, fun B σ H ρ n G α Q x q hK R hx hd k => ?_⟩
  refine h B σ H ρ n G α _ x _ hK R hx hd fun vs H1 G1 ds n1 s1 j1 r1 h1 => ?_
  refine ⟨by rw [sizeLine_eq, ← r1.length]; exact h1.1, fun a np => ?_⟩
  have s := StepP.laid (o := .lst vs) s1.hh np
  have nr : ¬ B.W.rg a := fun r => B.W.there n1 H1 a j1 r np
  have h0 : H a = none := by
    cases e : H a with
    | none => rfl
    | some o => rw [s1.fr a o e nr] at np; cases np
  have g0 : G1 a = none := by
    cases e : G1 a with
    | none => rfl
    | some o =>
      obtain ⟨o', e', _⟩ := s1.hh a o e
      rw [np] at e'; cases e'
  exact k a _ _ (.lst ds) n1 (s1.trans (s.step j1)) (s.J j1) h0 g0 nr ⟨vs, upd_same, r1⟩ h1.2
theorem pf_dct0 : PF X W (.Dict [] [] pos) dEmp := by
  refine ⟨_, pe_dnewK, fun B σ H ρ n G α Q x q hK R hx hd k => fun a np => ?_⟩
  have s := StepP.laid (o := .dK []) R.le np
  have nr : ¬ B.W.rg a := fun r => B.W.there n H a R.J r np
  have g0 : G a = none := by
    cases e : G a with
    | none => rfl
    | some o =>
      obtain ⟨o', e', _⟩ := R.le a o e
      rw [np] at e'; cases e'
  exact k a _ _ (.dct []) n (s.step R.J) (s.J R.J) np g0 nr ⟨[], upd_same, .nil⟩ hd
end

def fIx : F2 := fun x y k => match y with
  | .int i => (match seqD x with
    | some ds => (match atI ds i with
      | some d => k d
      | none => False)
    | none => False)
  | _ => False
section
variable {K : PySem.W.Frag}
theorem RepL.atI {G : Hp} {ds : List D} {vs : List V} {i : Int} {d : D} (r : RepL K G ds vs) (h : atI ds i = some d) : ∃ v, atI vs i = some v ∧ Rep K G d v := by
  unfold L2.atI at h ⊢
  rw [← r.length]
  cases e : ixN ds.length i with
  | none => rw [e] at h; cases h
  | some j =>
    rw [e] at h
    obtain ⟨v, h1, h2⟩ := r.get (i := j) h
    exact ⟨v, h1, h2⟩
theorem dop_ix : DOp K (rIx K) fIx := by
  intro W H G x y dx dy Q k le rx ry hf hk
  cases dy with
  | int i =>
    unfold fIx at hf
    simp only at hf
    split at hf
    · rename_i ds e
      split at hf
      · rename_i d e2
        obtain ⟨a, vs, ex, hs, r⟩ := rx.seq le e
        obtain ⟨v, h1, h2⟩ := r.atI e2
        rcases hs with hs | hs
        · exact .inl ⟨a, vs, i, v, ex, ry.int, hs, h1, hk _ H G _ (.refl le) h2 hf⟩
        · exact .inr (.inl ⟨a, vs, i, v, ex, ry.int, hs, h1, hk _ H G _ (.refl le) h2 hf⟩)
      · exact hf.elim
    · exact hf.elim
  | _ => exact hf.elim
end
def keyD : D → Option Key
  | .int i => some (.inl i)
  | .str x => some (.inr x)
  | _ => none
def fDg : F2 := fun x y k => match x, keyD y with
  | .dct kvs, some j => (match getD kvs j with
    | some d => k d
    | none => False)
  | _, _ => False
theorem keyD_rep {K : PySem.W.Frag} {W : Wd} {G H : Hp} {d : D} {v : V} {k : Key} (h : keyD d = some k) (r : RepB K W G H d v) : v = kV k := by
  cases d with
  | int i => cases h; exact r.int
  | str x => cases h; exact r.str
  | _ => exact nomatch h
section
variable {X : Cx} {W : WX} {a b : Expr} {δa δb : DE} {pos : Pos}
theorem pd_ix (ha : PB X W a δa) (hb : PB X W b δb) (hs : PlainIx b := by exact fun _ _ => rfl) : PD X W (.Subscript a b pos) (dOp fIx δa δb) := by
  obtain ⟨ta, pa, ea⟩ := ha
  obtain ⟨tb, pb, eb⟩ := hb
  exact ⟨_, pe_ix ix_seq pa pb hs, ed_op dop_ix ea eb⟩
theorem pd_dg (hu : X.A.units + 1 < cLine) (ha : PB X W a δa) (hb : PB X W b δb) (hs : NoSl b := by exact fun _ _ => rfl) : PD X W (.Subscript a b pos) (dOp fDg δa δb) := by
  obtain ⟨ta, pa, ea⟩ := ha
  obtain ⟨tb, pb, eb⟩ := hb
  refine ⟨_, pe_dget hu pa pb hs, fun B σ H ρ n G α Q x q hK R hx h k => ?_⟩
  refine ea B σ H ρ n G α _ x _ hK R hx h fun v1 H1 G1 d1 n1 s1 j1 r1 h1 => ?_
  refine eb B σ H1 ρ n1 G1 α _ x _ hK (R.step s1 j1) (hx.step s1) h1 fun v2 H2 G2 d2 n2 s2 j2 r2 h2 => ?_
  unfold fDg at h2
  split at h2
  · rename_i kvs j ej
    split at h2
    · rename_i d e
      obtain ⟨p, ws, e1, hd, rk⟩ := (r1.step s2).dct s2.hh
      rcases rk.val (k := j) with ⟨d', v', g1, g2, g3⟩ | ⟨g1, _⟩
      · rw [e] at g1
        cases g1
        exact ⟨p, v', e1, .inl ⟨ws, j, hd, keyD_rep ej r2, g2.symm⟩, k v' H2 G2 d n2 (s1.trans s2) j2 g3 h2⟩
      · rw [e] at g1; cases g1
    · exact h2.elim
  · exact h2.elim
end
end DL

end

section
set_option autoImplicit false
namespace DL
open PySem PySem.Spec L2

abbrev FL := List D → (D → Prop) → Prop
def DCall (K : PySem.W.Frag) (r : List V → Hp → VK → Prop) (f : FL) : Prop := ∀ (W : Wd) (H G : Hp) (vs : List V) (ds : List D) (Q : VK) (k : D → Prop), Le G H → RepBL K W G H ds vs → f ds k →
  (∀ v H' G' d, StepP H G H' G' → Rep K G' d v → k d → Q v H') → r vs H Q
def dCB (f : FL) (a : DA) : DE := fun x ρ n q => a x ρ n fun ds n1 => f ds fun d => q d n1
section
variable {X : Cx} {W : WX} {e : Expr} {es : List Expr} {α' : DA} {p pos : Pos} {x : Str} {id T : String} {r : List V → Hp → VK → Prop} {f : FL}
theorem ed_cb {K : PySem.W.Frag} {t : TA} (hr : DCall K r f) (ha : EAB K W t α') : ED K W (tCB r t) (dCB f α') := by
  intro B σ H ρ n G α Q x q hK R hx h k
  refine ha B σ H ρ n G α _ x _ hK R hx h fun vs H1 G1 ds n1 s1 j1 r1 h1 => ?_
  exact hr B.W H1 G1 vs ds Q _ s1.hh r1 h1 fun v H' G' d s r hq => k v H' G' d n1 (s1.trans (s.step j1)) (s.J j1) r hq
theorem pd_callB (hc : CallR X (.builtin id) r) (hr : DCall X.K r f) (hg : Gl X x) (hm : X.mg x = none) (hv : bootBuiltins x = some (.builtin id)) (ha : PAB X W (e :: es) α') (hn : x ≠ "__name__" := by decide) (hdb : (x == ("__debug__" : Str)) = false := by decide)
    (hst : starEach (e :: es) X.env = (false, eval e X.env) :: starEach es X.env := by rfl) (hpl : (backTo pos (starEach es X.env)).any (·.1) = false := by rfl) : PD X W (.Call (.Name x p) (e :: es) [] pos) (dCB f α') := by
  obtain ⟨t, pa, ea⟩ := ha
  exact ⟨_, pe_callB hc hg hm hv pa hn hdb hst hpl, ed_cb hr ea⟩
theorem pd_callTy (hc : CallR X (.type T) r) (hr : DCall X.K r f) (hg : Gl X x) (hm : X.mg x = none) (hv : bootBuiltins x = some (.type T)) (ha : PAB X W (e :: es) α') (hn : x ≠ "__name__" := by decide) (hdb : (x == ("__debug__" : Str)) = false := by decide)
    (hst : starEach (e :: es) X.env = (false, eval e X.env) :: starEach es X.env := by rfl) (hpl : (backTo pos (starEach es X.env)).any (·.1) = false := by rfl) : PD X W (.Call (.Name x p) (e :: es) [] pos) (dCB f α') := by
  obtain ⟨t, pa, ea⟩ := ha
  exact ⟨_, pe_callTy hc hg hm hv pa hn hdb hst hpl, ed_cb hr ea⟩
end
section
variable {K : PySem.W.Frag} {W : Wd} {G H : Hp}
theorem RepBL.one {d : D} {vs : List V} (r : RepBL K W G H [d] vs) : ∃ v, vs = [v] ∧ RepB K W G H d v := by
  cases r with
  | cons r t => cases t; exact ⟨_, rfl, r⟩
end
def lenD : D → Option Nat
  | .lst ds => some ds.length
  | .tup ds => some ds.length
  | .rol ds => some ds.length
  | .dct kvs => some kvs.length
  | _ => none
def fLen : FL := fun ds k => match ds with
  | [d] => (match lenD d with
    | some n => k (.int n)
    | none => False)
  | _ => False
def f1 (f : D → (D → Prop) → Prop) : FL := fun ds k => match ds with
  | [d] => f d k
  | _ => False
theorem call_lenD2 {X : Cx} : CallR X (.builtin "len") (fun xs H Q => (∃ x n, xs = [x] ∧ LenV X.K x H n ∧ Q (.int n) H) ∨ ∃ a kvs, xs = [.ref a] ∧ Rd H a (.dK kvs) ∧ Q (.int kvs.length) H) := by
  refine call_len.or ?_
  intro pins s σ H xs us Q I r h
  obtain ⟨a, kvs, rfl, hd, q⟩ := h
  obtain ⟨u, rfl, r1⟩ := vals1 r
  obtain rfl : u = Value.ref a := r1
  exact d_len I hd fun t s' I' => ⟨.int kvs.length, H, I', ⟨t, rfl⟩, q⟩
section
variable {K : PySem.W.Frag}
theorem dcall_len : DCall K (fun xs H Q => (∃ x n, xs = [x] ∧ LenV K x H n ∧ Q (.int n) H) ∨ ∃ a kvs, xs = [.ref a] ∧ Rd H a (.dK kvs) ∧ Q (.int kvs.length) H) fLen := by
  intro W H G vs ds Q k le r hf hk
  unfold fLen at hf
  split at hf
  · rename_i d
    obtain ⟨v, rfl, r0⟩ := r.one
    split at hf
    · rename_i n e
      cases d with
      | lst ds =>
        cases e
        obtain ⟨a, us, e1, h1, r1⟩ := r0.lst le
        subst e1
        refine .inl ⟨_, us.length, rfl, .inl ⟨us, SqL.of h1, rfl⟩, hk _ H G _ (.refl le) (by rw [r1.length]; exact .int _) hf⟩
      | tup ds =>
        cases e
        obtain ⟨a, us, e1, h1, r1⟩ := r0.tup le
        subst e1
        refine .inl ⟨_, us.length, rfl, .inr ⟨us, h1, rfl⟩, hk _ H G _ (.refl le) (by rw [r1.length]; exact .int _) hf⟩
      | rol ds =>
        cases e
        rcases r0 with r0 | ⟨b, _, _, _, o⟩
        · cases r0 with
          | @rol a o _ us e1 r1 =>
            refine .inl ⟨_, us.length, rfl, .inl ⟨us, .inl (.inr ⟨_, le.get e1⟩), rfl⟩, hk _ H G _ (.refl le) (by rw [r1.length]; exact .int _) hf⟩
        · exact o.elim
      | dct kvs =>
        cases e
        obtain ⟨a, ws, e1, h1, r1⟩ := r0.dct le
        subst e1
        refine .inr ⟨_, ws, rfl, h1, hk _ H G _ (.refl le) (by rw [r1.length]; exact .int _) hf⟩
      | _ => exact nomatch e
    · exact hf.elim
  · exact hf.elim
def fAbs : FL := f1 fun d k => match d with
  | .int i => k (.int (if i < 0 then -i else i))
  | _ => False
def fInt : FL := f1 fun d k => match d with
  | .int i => k (.int i)
  | .bl b => k (.int (if b then 1 else 0))
  | _ => False
theorem dcall_int : DCall K (fun xs H Q => (∃ i, xs = [.int i] ∧ Q (.int i) H) ∨ ∃ k, xs = [.bl k] ∧ Q (.int (if k then 1 else 0)) H) fInt := by
  intro W H G vs ds Q k le r hf hk
  unfold fInt f1 at hf
  split at hf
  · rename_i d
    obtain ⟨v, rfl, r0⟩ := r.one
    cases d with
    | int i => exact .inl ⟨i, by rw [r0.int], hk _ H G _ (.refl le) (.int _) hf⟩
    | bl b => exact .inr ⟨b, by rw [r0.bl], hk _ H G _ (.refl le) (.int _) hf⟩
    | _ => exact hf.elim
  · exact hf.elim
def fList : FL := f1 fun d k => match seqD d with
  | some ds => k (.lst ds)
  | none => False
def fTuple : FL := f1 fun d k => match seqD d with
  | some ds => k (.tup ds)
  | none => False
theorem dcall_tuple : DCall K (fun xs H Q => ∃ p ys, xs = [.ref p] ∧ ((SqL K H p ys ∧ ∀ l, H l = none → Q (.ref l) (upd H l (.tup ys))) ∨ (SqT K H p ys ∧ Q (.ref p) H))) fTuple := by
  intro W H G vs ds Q k le r hf hk
  unfold fTuple f1 at hf
  split at hf
  · rename_i d
    obtain ⟨v, rfl, r0⟩ := r.one
    cases d with
    | lst es =>
      obtain ⟨a, us, e1, h1, r1⟩ := r0.lst le
      subst e1
      refine ⟨a, us, rfl, .inl ⟨SqL.of h1, fun l np => ?_⟩⟩
      have s := StepP.made (o := .tup us) le np
      exact hk _ _ _ _ s (.tup (SqT.of upd_same) (r1.mono s.le)) hf
    | tup es =>
      obtain ⟨a, us, e1, h1, r1⟩ := r0.tup le
      rcases r0 with r0 | ⟨b, _, _, _, o⟩
      · subst e1
        exact ⟨a, us, rfl, .inr ⟨h1, hk _ _ _ _ (.refl le) r0 hf⟩⟩
      · exact o.elim
    | rol es =>
      rcases r0 with r0 | ⟨b, _, _, _, o⟩
      · cases r0 with
        | @rol a o _ us e r1 =>
          refine ⟨a, us, rfl, .inl ⟨.inl (.inr ⟨_, le.get e⟩), fun l np => ?_⟩⟩
          have s := StepP.made (o := .tup us) le np
          exact hk _ _ _ _ s (.tup (SqT.of upd_same) (r1.mono s.le)) hf
      · exact o.elim
    | _ => exact hf.elim
  · exact hf.elim
def intsD : List D → Option (List Int)
  | [] => some []
  | .int i :: ds => (intsD ds).map (i :: ·)
  | _ :: _ => none
def boolsD : List D → Option (List Bool)
  | [] => some []
  | .bl i :: ds => (boolsD ds).map (i :: ·)
  | _ :: _ => none
theorem RepL.ints {G : Hp} : ∀ {ds : List D} {vs : List V} {ns : List Int}, RepL K G ds vs → intsD ds = some ns → vs = ns.map V.int
  | _, _, _, .nil, h => by cases h; rfl
  | _, _, ns, .cons (d := d) (ds := ds) r t, h => by
    cases d with
    | int i =>
      cases r
      cases e : intsD ds with
      | none => simp [intsD, e] at h
      | some ms =>
        simp [intsD, e] at h
        subst h
        rw [List.map_cons, RepL.ints t e]
    | _ => exact nomatch h
theorem RepL.bools {G : Hp} : ∀ {ds : List D} {vs : List V} {ns : List Bool}, RepL K G ds vs → boolsD ds = some ns → vs = ns.map V.bl
  | _, _, _, .nil, h => by cases h; rfl
  | _, _, ns, .cons (d := d) (ds := ds) r t, h => by
    cases d with
    | bl i =>
      cases r
      cases e : boolsD ds with
      | none => simp [boolsD, e] at h
      | some ms =>
        simp [boolsD, e] at h
        subst h
        rw [List.map_cons, RepL.bools t e]
    | _ => exact nomatch h
theorem RepL.of_ints {G : Hp} : ∀ (ns : List Int), RepL K G (ns.map D.int) (ns.map V.int)
  | [] => .nil
  | i :: ns => .cons (.int i) (RepL.of_ints ns)
def fSeqInts (f : List Int → (D → Prop) → Prop) : FL := f1 fun d k => match d with
  | .lst ds => (match intsD ds with
    | some ns => f ns k
    | none => False)
  | _ => False
def fSum : FL := fSeqInts fun ns k => k (.int ns.sum)
def fMax : FL := fSeqInts fun ns k => 0 < ns.length ∧ ∀ m, m ∈ ns → (∀ y, y ∈ ns → y ≤ m) → k (.int m)
def fMin : FL := fSeqInts fun ns k => 0 < ns.length ∧ ∀ m, m ∈ ns → (∀ y, y ∈ ns → m ≤ y) → k (.int m)
def fSorted : FL := fSeqInts fun ns k => ∀ ms : List Int, ms.Perm ns → ms.Pairwise (· ≤ ·) → k (.lst (ms.map D.int))
theorem dcall_sorted : DCall K (rSortedI K) fSorted := by
  intro W H G vs ds Q k le r hf hk
  unfold fSorted fSeqInts f1 at hf
  split at hf
  · rename_i d
    obtain ⟨v, rfl, r0⟩ := r.one
    split at hf
    · split at hf
      · rename_i e
        obtain ⟨a, us, e1, h1, r1⟩ := r0.lst le
        subst e1
        refine ⟨a, _, rfl, SqL.of (by rw [← r1.ints e]; exact h1), fun ms p hp hs np => ?_⟩
        have s := StepP.made (o := .lst (ms.map V.int)) le np
        exact hk _ _ _ _ s (.lst upd_same (RepL.of_ints ms)) (hf ms hp hs)
      · exact hf.elim
    · exact hf.elim
  · exact hf.elim
def fBools (f : List Bool → Bool) : FL := f1 fun d k => match d with
  | .lst ds => (match boolsD ds with
    | some bs => k (.bl (f bs))
    | none => False)
  | _ => False
theorem dcall_any : DCall K (rAny K) (fBools fun bs => bs.any id) := by
  intro W H G vs ds Q k le r hf hk
  unfold fBools f1 at hf
  split at hf
  · rename_i d
    obtain ⟨v, rfl, r0⟩ := r.one
    split at hf
    · split at hf
      · rename_i e
        obtain ⟨a, us, e1, h1, r1⟩ := r0.lst le
        subst e1
        exact ⟨a, _, rfl, SqL.of (by rw [← r1.bools e]; exact h1), hk _ H G _ (.refl le) (.bl _) hf⟩
      · exact hf.elim
    · exact hf.elim
  · exact hf.elim
theorem dcall_all : DCall K (rAll K) (fBools fun bs => bs.all id) := by
  intro W H G vs ds Q k le r hf hk
  unfold fBools f1 at hf
  split at hf
  · rename_i d
    obtain ⟨v, rfl, r0⟩ := r.one
    split at hf
    · split at hf
      · rename_i e
        obtain ⟨a, us, e1, h1, r1⟩ := r0.lst le
        subst e1
        exact ⟨a, _, rfl, SqL.of (by rw [← r1.bools e]; exact h1), hk _ H G _ (.refl le) (.bl _) hf⟩
      · exact hf.elim
    · exact hf.elim
  · exact hf.elim
end
end DL

end

section
set_option autoImplicit false
namespace DL
open PySem PySem.Spec L2

def SlRep (K : PySem.W.Frag) (W : Wd) (H0 G H : Hp) : Sl → V → Prop
  | .val d, v => Rep K G d v
  | .own d, v => ∃ a, v = .ref a ∧ H0 a = none ∧ G a = none ∧ ¬ W.rg a ∧ OwnAt K G H a d
  | .gst r gs, v => Rep K G r v ∧ (gs.map (·.1)).Nodup ∧ ∀ g ∈ gs, H0 g.1 = none ∧ G g.1 = none ∧ ¬ W.rg g.1 ∧ OwnAt K G H g.1 g.2
theorem SlRep.step {K : PySem.W.Frag} {W : Wd} {H0 G H G' H' : Hp} {sl : Sl} {v : V} (r : SlRep K W H0 G H sl v) (s : Step W H G H' G') : SlRep K W H0 G' H' sl v := by
  have kp : ∀ {a : Addr} {o : HO}, H a = some o → G a = none → G' a = none := fun {a o} h g => by
    cases e : G' a with
    | none => rfl
    | some u =>
      rcases s.new a (by rw [e]; exact fun z => nomatch z) with z | ⟨z, _⟩
      · exact (z g).elim
      · rw [h] at z; cases z
  cases sl with
  | val d => exact Rep.mono s.le r
  | own d =>
    obtain ⟨a, e, h0, g, nr, o⟩ := r
    obtain ⟨u, q⟩ := o.there
    exact ⟨a, e, h0, kp q g, nr, o.mono s.le fun o q => s.fr _ o q nr⟩
  | gst r' gs =>
    obtain ⟨r, nd, h⟩ := r
    refine ⟨r.mono s.le, nd, fun x hm => ?_⟩
    obtain ⟨h0, g, nr, o⟩ := h x hm
    obtain ⟨u, q⟩ := o.there
    exact ⟨h0, kp q g, nr, o.mono s.le fun o q => s.fr _ o q nr⟩
structure DEnds where
  nx : Env → Nat → Prop
  rt : DQ
  bk : Env → Nat → Prop
  ct : Env → Nat → Prop
  ex : Xn → Env → Nat → Prop
  w : Wd
  ro : Sl → Nat → Prop
def DEnds.xx (E : DEnds) (ρ : Env) : DX := ⟨fun e n => E.ex e ρ n, E.w⟩
abbrev DS := DEnds → Env → Nat → Prop
structure Lk (B : Bs) (W : WX) (D : Ends) (E : DEnds) : Prop where
  nx : ∀ σ H ρ n G α, RelB B σ H ρ n G α → E.nx ρ n → D.nx σ H
  rt : ∀ v H d n G, Step B.W B.H0 B.G0 H G → B.W.J n H → Rep B.K G d v → E.rt d n → D.rt v H
  bk : ∀ σ H ρ n G α, RelB B σ H ρ n G α → E.bk ρ n → D.bk σ H
  ct : ∀ σ H ρ n G α, RelB B σ H ρ n G α → E.ct ρ n → D.ct σ H
  ex : ∀ c dd σ H ρ n G α e, RelB B σ H ρ n G α → XRep B.K B.W B.H0 G H e c dd → E.ex e ρ n → W c dd σ H
  w : E.w = B.W
  ro : ∀ v H sl n G, Step B.W B.H0 B.G0 H G → B.W.J n H → SlRep B.K B.W B.H0 G H sl v → E.ro sl n → D.rt v H
theorem Lk.xl {B : Bs} {W : WX} {D : Ends} {E : DEnds} (L : Lk B W D E) {σ : St} {H : Hp} {ρ : Env} {n : Nat} {G : Hp} {α : Nat → Addr} (R : RelB B σ H ρ n G α) : XL B W σ H G (E.xx ρ) :=
  ⟨L.w, fun c dd H' G' e n' s j r q => L.ex c dd σ H' ρ n' G' α e (R.step s j) (r.back R.st) q⟩
def SD (K : PySem.W.Frag) (W : WX) (t : TS) (δ : DS) : Prop :=
  ∀ (B : Bs) (σ : St) (H : Hp) (ρ : Env) (n : Nat) (G : Hp) (α : Nat → Addr) (D : Ends) (E : DEnds), B.K = K → RelB B σ H ρ n G α → Lk B W D E → δ E ρ n → t D σ H
def PSD (X : Cx) (W : WX) (st : Stmt) (δ : DS) : Prop := ∃ t, PS X st t ∧ SD X.K W t δ
def PSsD (X : Cx) (W : WX) (st : List Stmt) (δ : DS) : Prop := ∃ t, PSs X st t ∧ SD X.K W t δ

def dNext : DS := fun E ρ n => E.nx ρ n
def dSeq (a b : DS) : DS := fun E ρ n => a { E with nx := b E } ρ n
def dRet (δ : DE) : DS := fun E ρ n => δ (E.xx ρ) ρ n E.rt
def dRetN : DS := fun E _ n => E.rt .non n
def dExp (δ : DE) : DS := fun E ρ n => δ (E.xx ρ) ρ n fun _ n1 => E.nx ρ n1
def dIfS (t : DT) (a b : DS) : DS := fun E ρ n => t (E.xx ρ) ρ n fun c n1 => if c = true then a E ρ n1 else b E ρ n1
def dBreak : DS := fun E ρ n => E.bk ρ n
def dCont : DS := fun E ρ n => E.ct ρ n
def dNever : DS := fun _ _ _ => False
section
variable {X : Cx} {W : WX} {st : Stmt} {rest : List Stmt} {a b : DS} {e : Expr} {δ : DE} {pos : Pos}
theorem pss_nilD : PSsD X W [] dNext := ⟨_, pss_nil, fun B σ H ρ n G α D E hK R L h => L.nx σ H ρ n G α R h⟩
theorem pss_consD (h : PSD X W st a) (h2 : PSsD X W rest b) : PSsD X W (st :: rest) (dSeq a b) := by
  obtain ⟨t, p, e⟩ := h
  obtain ⟨t', p', e'⟩ := h2
  refine ⟨_, pss_cons p p', fun B σ H ρ n G α D E hK R L h => ?_⟩
  exact e B σ H ρ n G α _ { E with nx := b E } hK R ⟨fun σ1 H1 ρ1 n1 G1 α1 R1 h1 => e' B σ1 H1 ρ1 n1 G1 α1 D E hK R1 L h1, L.rt, L.bk, L.ct, L.ex, L.w, L.ro⟩ h
theorem pss_oneD (h : PSD X W st a) : PSsD X W [st] a := by
  obtain ⟨t, p, e⟩ := h
  exact ⟨t, pss_one p, e⟩
theorem ps_neverD : PSD X W st dNever := ⟨_, ps_never, fun B σ H ρ n G α D E hK R L h => h.elim⟩
theorem ps_retD (he : PD X W e δ) : PSD X W (.Return (some e) pos) (dRet δ) := by
  obtain ⟨t, p, h⟩ := he
  refine ⟨_, ps_ret p, fun B σ H ρ n G α D E hK R L hd => ?_⟩
  exact h B σ H ρ n G α _ _ _ hK R (L.xl R) hd fun v H' G' d n' s j r hq => L.rt v H' d n' G' (R.st.trans s) j (hK ▸ r) hq
def dRetF (δ : DE) : DS := fun E ρ n => δ (E.xx ρ) ρ n fun d n1 => E.ro (.own d) n1
theorem ps_retFD (he : PF X W e δ) : PSD X W (.Return (some e) pos) (dRetF δ) := by
  obtain ⟨t, p, h⟩ := he
  refine ⟨_, ps_ret p, fun B σ H ρ n G α D E hK R L hd => ?_⟩
  refine h B σ H ρ n G α _ _ _ hK R (L.xl R) hd fun a H' G' d n' s j np ng nr o hq => ?_
  have h0 : B.H0 a = none := by
    cases q : B.H0 a with
    | none => rfl
    | some u => rw [R.st.fr a u q nr] at np; cases np
  exact L.ro _ H' (.own d) n' G' (R.st.trans s) j ⟨a, rfl, h0, ng, nr, hK ▸ o⟩ hq
def dRetO (i : Nat) : DS := fun E ρ n => match ρ[i]? with
  | some (some (.own d)) => E.ro (.own d) n
  | some (some (.gst r gs)) => E.ro (.gst r gs) n
  | _ => False
theorem ps_retOD (i : Nat) {x : Str} {npos : Pos} (hN : X.N[i]? = some x := by rfl) (hv : Vis X.env.scope x := by first | exact Or.inl rfl | exact Or.inr (Or.inl rfl) | exact Or.inr (Or.inr rfl)) (hd : (x == ("__debug__" : Str)) = false := by decide)
    (hcd : (x == ("__classdict__" : Str)) = false := by decide) : PSD X W (.Return (some (.Name x npos)) pos) (dRetO i) := by
  refine ⟨_, ps_ret (pe_var hN hv hd hcd), fun B σ H ρ n G α D E hK R L h => ?_⟩
  unfold dRetO at h
  split at h
  · rename_i d e
    obtain ⟨e1, g, h0, nr, o⟩ := R.own i d e
    exact ⟨_, e1, L.ro _ H (.own d) n G R.st R.J ⟨_, rfl, h0, g, nr, o⟩ h⟩
  · rename_i r gs e
    obtain ⟨⟨v, e1, hr⟩, nd⟩ := R.gh.gst i r gs e
    exact ⟨v, e1, L.ro v H (.gst r gs) n G R.st R.J ⟨hr, nd, fun g hm => by
      obtain ⟨h1, h2, h3, h4⟩ := R.gh.at_ i r gs e g hm
      exact ⟨h2, h1, h3, h4⟩⟩ h⟩
  · exact h.elim
theorem ps_exprD (he : PB X W e δ) (hs : swapsWith e none pos.line X.env = pure false := by rfl) : PSD X W (.Expr e pos) (dExp δ) := by
  obtain ⟨t, p, h⟩ := he
  refine ⟨_, ps_expr p hs, fun B σ H ρ n G α D E hK R L hd => ?_⟩
  exact h B σ H ρ n G α _ _ _ hK R (L.xl R) hd fun v H' G' d n' s j r hq => L.nx σ H' ρ n' G' α (R.step s j) hq
theorem ps_ifD {c : Expr} {x y : List Stmt} {τ : DT} (hc : PTD X W c τ) (ha : PSsD X W x a) (hb : PSsD X W y b) : PSD X W (.If c x y pos) (dIfS τ a b) := by
  obtain ⟨t, p, h⟩ := hc
  obtain ⟨ta, pa, ea⟩ := ha
  obtain ⟨tb, pb, eb⟩ := hb
  refine ⟨_, ps_if p pa pb, fun B σ H ρ n G α D E hK R L hd => ?_⟩
  refine h B σ H ρ n G α _ _ _ hK R (L.xl R) hd fun c H1 G1 n1 s1 j1 h1 => ?_
  cases c with
  | true =>
    rw [if_pos rfl] at h1 ⊢
    exact ea B σ H1 ρ n1 G1 α D E hK (R.step s1 j1) L h1
  | false =>
    rw [if_neg Bool.false_ne_true] at h1 ⊢
    exact eb B σ H1 ρ n1 G1 α D E hK (R.step s1 j1) L h1
end

theorem set_val_own {ρ : Env} {i j : Nat} {d e : D} (h : (ρ.set i (some (.val d)))[j]? = some (some (.own e))) : ρ[j]? = some (some (.own e)) := by
  rw [List.getElem?_set] at h
  split at h
  · split at h
    · injection h with h; injection h with h; cases h
    · cases h
  · exact h
theorem get_set_sl {ρ : Env} {i j : Nat} {s : Option Sl} {t : Sl} (h : (ρ.set i s)[j]? = some (some t)) : (i = j ∧ s = some t) ∨ (i ≠ j ∧ ρ[j]? = some (some t)) := by
  rw [List.getElem?_set] at h
  by_cases z : i = j
  · rw [if_pos z] at h
    split at h
    · injection h with h
      exact .inl ⟨z, h⟩
    · cases h
  · rw [if_neg z] at h
    exact .inr ⟨z, h⟩
theorem Gh.set {B : Bs} {σ : St} {H : Hp} {ρ : Env} {G : Hp} {α α' : Nat → Addr} (h : Gh B σ H ρ G α) (i : Nat) {s : Option Sl} {v : Option V} (hs : ∀ r gs, s ≠ some (.gst r gs)) (ha : ∀ j, j ≠ i → α' j = α j)
    (hn : ∀ d, s = some (.own d) → ∀ (k : Nat) (r : D) (gs : List (Addr × D)), k ≠ i → ρ[k]? = some (some (.gst r gs)) → ∀ g ∈ gs, g.1 ≠ α' i) : Gh B (σ.set i v) H (ρ.set i s) G α' := by
  have go : ∀ {j : Nat} {r : D} {gs : List (Addr × D)}, (ρ.set i s)[j]? = some (some (.gst r gs)) → i ≠ j ∧ ρ[j]? = some (some (.gst r gs)) := fun {j r gs} e => by
    rcases get_set_sl e with ⟨_, z⟩ | z
    · exact (hs _ _ z).elim
    · exact z
  refine h.of rfl rfl rfl rfl (fun j r gs e => ⟨(go e).2, fun u hu => by rw [List.getElem?_set_ne (go e).1]; exact hu⟩) (fun j d e => ?_) (fun _ _ _ _ _ _ h1 _ _ => ⟨h1, fun _ q => q⟩) (Le.refl G)
  rcases get_set_sl e with ⟨z1, z⟩ | ⟨z1, z⟩
  · subst z1
    exact .inr fun k r gs e' => hn d z k r gs (Ne.symm (go e').1) (go e').2
  · exact .inl ⟨d, z, ha j (Ne.symm z1)⟩
theorem RelB.set {B : Bs} {σ : St} {H : Hp} {ρ : Env} {n : Nat} {G : Hp} {α : Nat → Addr} (R : RelB B σ H ρ n G α) (i : Nat) {d : D} {v : V} (r : Rep B.K G d v) : RelB B (σ.set i (some v)) H (ρ.set i (some (.val d))) n G α := by
  refine ⟨R.st, R.rg, R.J, by rw [List.length_set, List.length_set, R.len], fun j e h => ?_, fun j e h => ?_, fun j k e f hj hk => ?_, fun a e h h' => R.p0 a e h (set_val_own h'), R.gh.set i (fun _ _ z => nomatch z) (fun _ _ => rfl) (fun _ z => nomatch z)⟩
  · rw [List.getElem?_set] at h ⊢
    by_cases z : i = j
    · subst z
      rw [if_pos rfl] at h ⊢
      rw [R.len]
      split at h
      · rename_i hl
        rw [if_pos hl]
        injection h with h; injection h with h; injection h with h
        subst h
        exact ⟨v, rfl, r⟩
      · cases h
    · rw [if_neg z] at h ⊢
      exact R.val j e h
  · rw [List.getElem?_set] at h ⊢
    by_cases z : i = j
    · subst z
      rw [if_pos rfl] at h
      split at h
      · injection h with h; injection h with h; cases h
      · cases h
    · rw [if_neg z] at h ⊢
      exact R.own j e h
  · have go : ∀ {j : Nat} {e : D}, (ρ.set i (some (.val d)))[j]? = some (some (.own e)) → ρ[j]? = some (some (.own e)) := fun {j e} h => by
      rw [List.getElem?_set] at h
      split at h
      · split at h
        · injection h with h; injection h with h; cases h
        · cases h
      · exact h
    exact R.inj j k e f (go hj) (go hk)
theorem RelB.setOwn {B : Bs} {σ : St} {H : Hp} {ρ : Env} {n : Nat} {G : Hp} {α : Nat → Addr} (R : RelB B σ H ρ n G α) (i : Nat) (i0 : i ≠ 0) {a : Addr} {d : D} (ha : ∀ j e, j ≠ i → ρ[j]? = some (some (.own e)) → α j ≠ a) (hg : G a = none) (h0 : B.H0 a = none) (hr : ¬ B.W.rg a) (o : OwnAt B.K G H a d) (hb : ∀ (k : Nat) (r : D) (gs : List (Addr × D)), ρ[k]? = some (some (.gst r gs)) → ∀ g ∈ gs, g.1 ≠ a) :
    RelB B (σ.set i (some (.ref a))) H (ρ.set i (some (.own d))) n G (fun j => if j = i then a else α j) := by
  refine ⟨R.st, R.rg, R.J, by rw [List.length_set, List.length_set, R.len], fun j e h => ?_, fun j e h => ?_, fun j k e f hj hk z => ?_, fun b e h h' => ?_, R.gh.set i (fun _ _ z => nomatch z) (fun j ne => if_neg ne) (fun _ _ k r gs _ e g hm => by rw [if_pos rfl]; exact hb k r gs e g hm)⟩
  · rw [List.getElem?_set] at h ⊢
    by_cases z : i = j
    · subst z
      rw [if_pos rfl] at h
      split at h
      · injection h with h; injection h with h; cases h
      · cases h
    · rw [if_neg z] at h ⊢
      exact R.val j e h
  · rw [List.getElem?_set] at h ⊢
    by_cases z : i = j
    · subst z
      rw [if_pos rfl] at h ⊢
      rw [R.len]
      split at h
      · rename_i hl
        rw [if_pos hl]
        injection h with h; injection h with h; injection h with h
        subst h
        rw [if_pos rfl]
        exact ⟨rfl, hg, h0, hr, o⟩
      · cases h
    · rw [if_neg z] at h ⊢
      simp only [if_neg (fun q => z (Eq.symm q) : ¬ j = i)]
      exact R.own j e h
  · have go : ∀ {j : Nat} {e : D}, j ≠ i → (ρ.set i (some (.own d)))[j]? = some (some (.own e)) → ρ[j]? = some (some (.own e)) := fun {j e} q h => by
      rw [List.getElem?_set, if_neg (fun z => q z.symm)] at h
      exact h
    by_cases q : j = i
    · by_cases q' : k = i
      · rw [q, q']
      · simp only [if_pos q, if_neg q'] at z
        exact (ha k f q' (go q' hk) z.symm).elim
    · by_cases q' : k = i
      · simp only [if_neg q, if_pos q'] at z
        exact (ha j e q (go q hj) z).elim
      · simp only [if_neg q, if_neg q'] at z
        exact R.inj j k e f (go q hj) (go q' hk) z
  · rw [List.getElem?_set, if_neg i0] at h'
    simp only [if_neg (fun z => i0 z.symm : ¬ 0 = i)]
    exact R.p0 b e h h'
theorem RelB.setGst {B : Bs} {σ : St} {H : Hp} {ρ : Env} {n : Nat} {G : Hp} {α : Nat → Addr} (R : RelB B σ H ρ n G α) (i : Nat) (i0 : i ≠ 0) {r : D} {gs : List (Addr × D)} {v : V} (hr : Rep B.K G r v) (nd : (gs.map (·.1)).Nodup) (hg : ∀ g ∈ gs, G g.1 = none ∧ B.H0 g.1 = none ∧ ¬ B.W.rg g.1 ∧ OwnAt B.K G H g.1 g.2)
    (f1 : ∀ (j : Nat) (d : D), j ≠ i → ρ[j]? = some (some (.own d)) → ∀ g ∈ gs, g.1 ≠ α j) (f2 : ∀ (j : Nat) (r' : D) (gs' : List (Addr × D)), j ≠ i → ρ[j]? = some (some (.gst r' gs')) → ∀ g ∈ gs, ∀ g' ∈ gs', g.1 ≠ g'.1) :
    RelB B (σ.set i (some v)) H (ρ.set i (some (.gst r gs))) n G α := by
  have own : ∀ {j : Nat} {d : D}, (ρ.set i (some (.gst r gs)))[j]? = some (some (.own d)) → i ≠ j ∧ ρ[j]? = some (some (.own d)) := fun {j d} h => by
    rcases get_set_sl h with ⟨_, z⟩ | z
    · exact nomatch z
    · exact z
  have val : ∀ {j : Nat} {d : D}, (ρ.set i (some (.gst r gs)))[j]? = some (some (.val d)) → i ≠ j ∧ ρ[j]? = some (some (.val d)) := fun {j d} h => by
    rcases get_set_sl h with ⟨_, z⟩ | z
    · exact nomatch z
    · exact z
  have gst : ∀ {j : Nat} {r' : D} {gs' : List (Addr × D)}, (ρ.set i (some (.gst r gs)))[j]? = some (some (.gst r' gs')) → (i = j ∧ r' = r ∧ gs' = gs ∧ i < ρ.length) ∨ (i ≠ j ∧ ρ[j]? = some (some (.gst r' gs'))) := fun {j r' gs'} h => by
    have hl : j < ρ.length := by have := (List.getElem?_eq_some_iff.mp h).1; rwa [List.length_set] at this
    rcases get_set_sl h with ⟨z1, z⟩ | z
    · injection z with z
      injection z with z2 z3
      exact .inl ⟨z1, z2.symm, z3.symm, z1 ▸ hl⟩
    · exact .inr z
  refine ⟨R.st, R.rg, R.J, by rw [List.length_set, List.length_set, R.len], fun j e h => ?_, fun j e h => ?_, fun j k e f hj hk => R.inj j k e f (own hj).2 (own hk).2, fun b e h h' => R.p0 b e h (own h').2, ⟨fun j r' gs' e => ?_, fun j r' gs' e => ?_, fun j k r1 r2 g1 g2 e1 e2 ne => ?_, fun j k r' gs' d e e' => ?_, fun a r' gs' hs e => ?_⟩⟩
  · obtain ⟨z, h⟩ := val h
    rw [List.getElem?_set_ne z]
    exact R.val j e h
  · obtain ⟨z, h⟩ := own h
    rw [List.getElem?_set_ne z]
    exact R.own j e h
  · rcases gst e with ⟨z, rfl, rfl, hl⟩ | ⟨z, e⟩
    · subst z
      exact ⟨⟨v, by rw [List.getElem?_set_self (by rw [R.len]; exact hl)], hr⟩, nd⟩
    · rw [List.getElem?_set_ne z]
      exact R.gh.gst j r' gs' e
  · rcases gst e with ⟨_, _, rfl, _⟩ | ⟨_, e⟩
    · exact hg
    · exact R.gh.at_ j r' gs' e
  · rcases gst e1 with ⟨y, _, y2, _⟩ | ⟨y, w1⟩
    · rcases gst e2 with ⟨z, _⟩ | ⟨z, w2⟩
      · exact (ne (y.symm.trans z)).elim
      · rw [y2]
        exact f2 k r2 g2 (Ne.symm z) w2
    · rcases gst e2 with ⟨z, _, z2, _⟩ | ⟨z, w2⟩
      · rw [z2]
        exact fun g hm g' hm' q => f2 j r1 g1 (Ne.symm y) w1 g' hm' g hm q.symm
      · exact R.gh.sep j k r1 r2 g1 g2 w1 w2 ne
  · obtain ⟨z', w'⟩ := own e'
    rcases gst e with ⟨z, _, z2, _⟩ | ⟨z, w⟩
    · rw [z2]
      exact f1 k d (Ne.symm z') w'
    · exact R.gh.off j k r' gs' d w w'
  · rcases gst e with ⟨z, _⟩ | ⟨_, e⟩
    · exact (i0 z).elim
    · exact R.gh.p1 a r' gs' hs e
def dSet (i : Nat) (δ : DE) : DS := fun E ρ n => δ (E.xx ρ) ρ n fun d n1 => E.nx (ρ.set i (some (.val d))) n1
def dOwn (i : Nat) (δ : DE) : DS := fun E ρ n => δ (E.xx ρ) ρ n fun d n1 => E.nx (ρ.set i (some (.own d))) n1
def dFrz (i : Nat) (a : DS) : DS := fun E ρ n => match ρ[i]? with
  | some (some (.own d)) => a E (ρ.set i (some (.val d))) n
  | _ => a E ρ n
section
variable {X : Cx} {W : WX} {e : Expr} {δ : DE} {pos pos' : Pos} {x : Str}
theorem sd_set {K : PySem.W.Frag} {t : TE} (h : ED K W t δ) (i : Nat) : SD K W (tAsg t (gName i)) (dSet i δ) := by
  intro B σ H ρ n G α D E hK R L hd
  exact h B σ H ρ n G α _ _ _ hK R (L.xl R) hd fun v H' G' d n' s j r hq => L.nx _ H' _ n' G' α ((R.step s j).set i (hK ▸ r)) hq
theorem sd_own {K : PySem.W.Frag} {t : TE} (h : EF K W t δ) (i : Nat) (i0 : i ≠ 0) : SD K W (tAsg t (gName i)) (dOwn i δ) := by
  intro B σ H ρ n G α D E hK R L hd
  refine h B σ H ρ n G α _ _ _ hK R (L.xl R) hd fun a H' G' d n' s j np ng nr o hq => ?_
  have R' := R.step s j
  refine L.nx _ H' _ n' G' _ (R'.setOwn i i0 (fun k e _ hk z => ?_) ng ?_ nr (hK ▸ o) fun k r gs e g hm z => by
    obtain ⟨u, q⟩ := (R.gh.at_ k r gs e g hm).2.2.2.there
    rw [z, np] at q
    cases q) hq
  · obtain ⟨_, _, _, _, o'⟩ := R.own k e hk
    obtain ⟨u, q⟩ := o'.there
    rw [z, np] at q
    cases q
  · cases q : B.H0 a with
    | none => rfl
    | some u =>
      have := R.st.fr a u q nr
      rw [np] at this
      cases this
theorem ps_setD (i : Nat) (he : PD X W e δ) (hN : X.N.Nodup) (hi : X.N[i]? = some x := by rfl) (hx : Loc X.env.scope x := by first | exact Or.inl rfl | exact Or.inr rfl) (hs : swapsWith e (some (.Name x pos')) pos.line X.env = pure false := by rfl) (hf : X.fn x = true ∨ X.env.scope.names.lookup x = some .local := by first | exact .inl rfl | exact .inr rfl | assumption) :
    PSD X W (.Assign [.Name x pos'] e pos) (dSet i δ) := by
  obtain ⟨t, p, h⟩ := he
  exact ⟨_, ps_set hN hi hx p hs hf, sd_set h i⟩
theorem ps_ownD (i : Nat) (he : PF X W e δ) (hN : X.N.Nodup) (i0 : i ≠ 0 := by decide) (hi : X.N[i]? = some x := by rfl) (hx : Loc X.env.scope x := by first | exact Or.inl rfl | exact Or.inr rfl) (hs : swapsWith e (some (.Name x pos')) pos.line X.env = pure false := by rfl) (hf : X.fn x = true ∨ X.env.scope.names.lookup x = some .local := by first | exact .inl rfl | exact .inr rfl | assumption) :
    PSD X W (.Assign [.Name x pos'] e pos) (dOwn i δ) := by
  obtain ⟨t, p, h⟩ := he
  exact ⟨_, ps_set hN hi hx p hs hf, sd_own h i i0⟩
theorem Gh.frz {B : Bs} {σ : St} {H : Hp} {ρ : Env} {G : Hp} {α : Nat → Addr} (h : Gh B σ H ρ G α) {i : Nat} {d : D} {s : Option Sl} {H' G' : Hp} (hi : ρ[i]? = some (some (.own d))) (e1 : ∀ b, b ≠ α i → H' b = H b) (e2 : ∀ b, b ≠ α i → G' b = G b) (le : Le G G') (hs : ∀ r gs, s ≠ some (.gst r gs) := by exact fun _ _ z => nomatch z) : Gh B σ H' (ρ.set i s) G' α := by
  have go : ∀ {j : Nat} {r : D} {gs : List (Addr × D)}, (ρ.set i s)[j]? = some (some (.gst r gs)) → i ≠ j ∧ ρ[j]? = some (some (.gst r gs)) := fun {j r gs} e => by
    rcases get_set_sl e with ⟨_, z⟩ | z
    · exact (hs _ _ z).elim
    · exact z
  refine h.of rfl rfl rfl rfl (fun j r gs e => ⟨(go e).2, fun _ q => q⟩) (fun j d' e => ?_) (fun k r gs e g hm h1 _ _ => ?_) le
  · rcases get_set_sl e with ⟨z1, _⟩ | ⟨_, z⟩
    · subst z1
      exact .inl ⟨d, hi, rfl⟩
    · exact .inl ⟨d', z, rfl⟩
  · have ne := h.off k i r gs d (go e).2 hi g hm
    exact ⟨by rw [e2 _ ne]; exact h1, fun o q => by rw [e1 _ ne]; exact q⟩
theorem RelB.freeze {B : Bs} {σ : St} {H : Hp} {ρ : Env} {n : Nat} {G : Hp} {α : Nat → Addr} {Q : Hp → Prop} (R : RelB B σ H ρ n G α) {i : Nat} {d : D} (h : ρ[i]? = some (some (.own d))) (k : ∀ H1 G', RelB B σ H1 (ρ.set i (some (.val d))) n G' α → Le G G' → Q H1) : LkP Q H := by
  obtain ⟨e1, hg, h0, nr, o⟩ := R.own i d h
  refine DL.freeze R.le hg o fun H1 ob e2 off l1 l2 r => ?_
  have il : i < ρ.length := (List.getElem?_eq_some_iff.mp h).1
  refine k H1 (upd G (α i) ob) ⟨R.st.frozen h0 nr off l1 l2, fun a q => ?_, B.W.stable _ _ _ (fun b hb => off b fun z => nr (z ▸ hb)) (fun b e q => (off b fun z => o.noExt (z ▸ q)).trans q) R.J, by rw [List.length_set, R.len], fun j e hj => ?_, fun j e hj => ?_, fun j k e f hj hk => ?_, fun a e h h' => R.p0 a e h (set_val_own h'), R.gh.frz h (fun b ne => off b ne) (fun b ne => upd_ne ne) l2⟩ l2
  · rw [upd_ne (fun z : a = α i => nr (z ▸ q))]
    exact R.rg a q
  · rw [List.getElem?_set] at hj
    by_cases z : i = j
    · subst z
      rw [if_pos rfl, if_pos il] at hj
      injection hj with hj; injection hj with hj; injection hj with hj
      subst hj
      exact ⟨_, e1, r⟩
    · rw [if_neg z] at hj
      obtain ⟨v, h1, h2⟩ := R.val j e hj
      exact ⟨v, h1, h2.mono l2⟩
  · rw [List.getElem?_set] at hj
    by_cases z : i = j
    · subst z
      rw [if_pos rfl, if_pos il] at hj
      injection hj with hj; injection hj with hj; cases hj
    · rw [if_neg z] at hj
      obtain ⟨h1, h2, h3, h4, h5⟩ := R.own j e hj
      have ne : α j ≠ α i := fun q => z (R.inj i j d e h hj q.symm)
      exact ⟨h1, by rw [upd_ne ne]; exact h2, h3, h4, h5.mono l2 fun _ q => by rw [off _ ne]; exact q⟩
  · exact R.inj j k e f (set_val_own hj) (set_val_own hk)
theorem pss_frz (i : Nat) {sts : List Stmt} {a : DS} (h : PSsD X W sts a) : PSsD X W sts (dFrz i a) := by
  obtain ⟨t, p, h⟩ := h
  refine ⟨_, pss_lk p, fun B σ H ρ n G α D E hK R L hd => ?_⟩
  unfold dFrz at hd
  split at hd
  · rename_i d e
    exact R.freeze e fun H1 G' R' _ => h B σ H1 _ n G' α D E hK R' L hd
  · exact .inl (h B σ H ρ n G α D E hK R L hd)
end

theorem RelB.write {B : Bs} {σ : St} {H : Hp} {ρ : Env} {n : Nat} {G : Hp} {α : Nat → Addr} (R : RelB B σ H ρ n G α) {i : Nat} {d d' : D} {o : HO} (h : ρ[i]? = some (some (.own d))) (ho : OwnAt B.K G (upd H (α i) o) (α i) d') :
    RelB B σ (upd H (α i) o) (ρ.set i (some (.own d'))) n G α := by
  obtain ⟨e1, hg, h0, nr, od⟩ := R.own i d h
  have il : i < ρ.length := (List.getElem?_eq_some_iff.mp h).1
  refine ⟨⟨fun a u e r => ?_, R.st.le, fun a u e => ?_, R.st.new⟩, R.rg, B.W.stable n H _ (fun a r => upd_ne (fun z => nr (z ▸ r))) (fun b e q => (upd_ne fun z => od.noExt (z ▸ q)).trans q) R.J, by rw [List.length_set, R.len], fun j e hj => ?_, fun j e hj => ?_, fun j k e f hj hk => ?_, fun b e hb h' => ?_, R.gh.frz h (fun b ne => upd_ne ne) (fun _ _ => rfl) (Le.refl G)⟩
  · rw [upd_ne (fun z => by rw [z, h0] at e; cases e)]
    exact R.st.fr a u e r
  · obtain ⟨o', e', c⟩ := R.le a u e
    exact ⟨o', by rw [upd_ne (fun z => by rw [z, hg] at e; cases e)]; exact e', c⟩
  · rw [List.getElem?_set] at hj
    by_cases z : i = j
    · subst z
      rw [if_pos rfl, if_pos il] at hj
      injection hj with hj; injection hj with hj; cases hj
    · rw [if_neg z] at hj
      exact R.val j e hj
  · rw [List.getElem?_set] at hj
    by_cases z : i = j
    · subst z
      rw [if_pos rfl, if_pos il] at hj
      injection hj with hj; injection hj with hj; injection hj with hj
      subst hj
      exact ⟨e1, hg, h0, nr, ho⟩
    · rw [if_neg z] at hj
      obtain ⟨h1, h2, h3, h4, h5⟩ := R.own j e hj
      exact ⟨h1, h2, h3, h4, h5.mono (Le.refl G) fun u q => by rw [upd_ne (fun z' => z (R.inj i j d e h hj z'.symm))]; exact q⟩
  · have go : ∀ {j : Nat} {e : D}, (ρ.set i (some (.own d')))[j]? = some (some (.own e)) → ∃ f, ρ[j]? = some (some (.own f)) := fun {j e} hj => by
      rw [List.getElem?_set] at hj
      by_cases z : i = j
      · subst z
        exact ⟨d, h⟩
      · rw [if_neg z] at hj
        exact ⟨e, hj⟩
    obtain ⟨e', hj'⟩ := go hj
    obtain ⟨f', hk'⟩ := go hk
    exact R.inj j k e' f' hj' hk'
  · rw [List.getElem?_set] at h'
    by_cases z : i = 0
    · subst z
      exact R.p0 b d hb h
    · rw [if_neg z] at h'
      exact R.p0 b e hb h'
def opt {α : Type} (o : Option α) (k : α → Prop) : Prop := match o with
  | some d => k d
  | none => False
def dApp (i : Nat) (δ : DE) : DS := fun E ρ n => match ρ[i]? with
  | some (some (.own (.lst ds))) => δ (E.xx ρ) ρ n fun d n1 => ds.length < 16777216 ∧ E.nx (ρ.set i (some (.own (.lst (ds ++ [d]))))) n1
  | _ => False
def dPut (i : Nat) (δk δv : DE) : DS := fun E ρ n => match ρ[i]? with
  | some (some (.own (.dct kvs))) => δv (E.xx ρ) ρ n fun d n1 => δk (E.xx ρ) ρ n1 fun k n2 => opt (keyD k) fun j => kvs.length < 16777216 ∧ E.nx (ρ.set i (some (.own (.dct (putD kvs j d))))) n2
  | _ => False
def dSetIx (i : Nat) (δk δv : DE) : DS := fun E ρ n => match ρ[i]? with
  | some (some (.own (.lst ds))) => δv (E.xx ρ) ρ n fun d n1 => δk (E.xx ρ) ρ n1 fun k n2 => (match k with
    | .int z => opt (ixN ds.length z) fun j => E.nx (ρ.set i (some (.own (.lst (ds.set j d))))) n2
    | _ => False)
  | _ => False
def dFldSet (i : Nat) (c f : Str) (δ : DE) : DS := fun E ρ n => match ρ[i]? with
  | some (some (.own (.obj c' fs))) => c' = c ∧ fs.length < 1000 ∧ δ (E.xx ρ) ρ n fun d n1 => E.nx (ρ.set i (some (.own (.obj c (setF f d fs))))) n1
  | _ => False
theorem opt_some {α : Type} {o : Option α} {k : α → Prop} (h : opt o k) : ∃ a, o = some a ∧ k a := by
  cases o with
  | none => exact h.elim
  | some a => exact ⟨a, rfl, h⟩
section
variable {X : Cx} {W : WX} {e k : Expr} {δ δk δv : DE} {pos pos' apos cpos : Pos} {x : Str}
theorem ps_appD (i : Nat) (he : PD X W e δ) (hN : X.N[i]? = some x := by rfl) (hv : Vis X.env.scope x := by first | exact Or.inl rfl | exact Or.inr (Or.inl rfl) | exact Or.inr (Or.inr rfl)) (hd : (x == ("__debug__" : Str)) = false := by decide)
    (hcd : (x == ("__classdict__" : Str)) = false := by decide) (hst : starEach [e] X.env = [(false, eval e X.env)] := by rfl)
    (hbase : attributeBase (.Name x pos') "append" X.env (eval (.Name x pos') X.env) = eval (.Name x pos') X.env := by rfl)
    (hfew : ((backTo cpos (starEach [e] X.env)).all (fun x => !x.1) && (backToKw cpos (keywordEach [] X.env)).all (fun x => x.1.isSome)
      && decide ([e].length + ([] : List Keyword).length + (if ([] : List Keyword).isEmpty then 0 else 1) < 30)) = true := by rfl)
    (hline : (apos.endLine == cpos.line) = true := by rfl) (hplain : (backTo cpos (starEach [] X.env)).any (·.1) = false := by rfl)
    (hsw : swapsWith (.Call (.Attribute (.Name x pos') "append" apos) [e] [] cpos) none pos.line X.env = pure false := by rfl) : PSD X W (.Expr (.Call (.Attribute (.Name x pos') "append" apos) [e] [] cpos) pos) (dApp i δ) := by
  obtain ⟨t, p, h⟩ := he
  refine ⟨_, ps_expr (pe_bm PySem.F.plainAttrs_list PySem.F.slot_list_append PySem.F.type_list_append mt_append (pe_var hN hv hd hcd) (pa_cons p pa_nil hst) hbase hfew hline hst hplain) hsw, fun B σ H ρ n G α D E hK R L hd => ?_⟩
  unfold dApp at hd
  split at hd
  · rename_i ds eo
    obtain ⟨e1, hg, h0, nr, vs, hH, rl⟩ := R.own i _ eo
    refine ⟨_, e1, .inl ⟨rfl, _, SqL.of hH⟩, ?_⟩
    refine h B σ H ρ n G α _ _ _ hK R (L.xl R) hd fun v H' G' d n' s j r hq => ?_
    have R' := R.step s j
    obtain ⟨_, hg', _, _, vs', hH', rl'⟩ := R'.own i _ eo
    refine ⟨α i, vs', v, rfl, rfl, hH', by rw [sizeLine_eq, ← rl'.length]; exact hq.1, ?_⟩
    exact L.nx σ _ _ n' G' α (R'.write (d' := .lst (ds ++ [d])) (o := .lst (vs' ++ [v])) eo ⟨_, upd_same, rl'.snoc (hK ▸ r)⟩) hq.2
  · exact hd.elim
theorem ps_putD (i : Nat) (hu : X.A.units + 1 < cLine) (hk : PB X W k δk) (he : PD X W e δv) (hN : X.N[i]? = some x := by rfl) (hv : Vis X.env.scope x := by first | exact Or.inl rfl | exact Or.inr (Or.inl rfl) | exact Or.inr (Or.inr rfl)) (hd : (x == ("__debug__" : Str)) = false := by decide)
    (hcd : (x == ("__classdict__" : Str)) = false := by decide) (hs : swapsWith e (some (.Subscript (.Name x pos') k apos)) pos.line X.env = pure false := by rfl) : PSD X W (.Assign [.Subscript (.Name x pos') k apos] e pos) (dPut i δk δv) := by
  obtain ⟨tk, pk, ek⟩ := hk
  obtain ⟨tv, pv, ev⟩ := he
  refine ⟨_, ps_dput hu (pe_var hN hv hd hcd) pk pv hs, fun B σ H ρ n G α D E hK R L hd => ?_⟩
  unfold dPut at hd
  split at hd
  · rename_i kvs eo
    refine ev B σ H ρ n G α _ _ _ hK R (L.xl R) hd fun v H1 G1 d n1 s1 j1 r1 h1 => ?_
    have R1 := R.step s1 j1
    refine ⟨_, (R1.own i _ eo).1, ?_⟩
    refine ek B σ H1 ρ n1 G1 α _ _ _ hK R1 (L.xl R1) h1 fun y H2 G2 dk n2 s2 j2 r2 h2 => ?_
    have R2 := R1.step s2 j2
    obtain ⟨z, ez, hz, h3⟩ := opt_some h2
    obtain ⟨_, hg, _, _, ws, hH, rk⟩ := R2.own i _ eo
    refine ⟨α i, _, rfl, .inl ⟨ws, z, hH, keyD_rep ez r2, by rw [sizeLine_eq, ← rk.length]; exact hz, rfl⟩, ?_⟩
    exact L.nx σ _ _ n2 G2 α (R2.write (d' := .dct (putD kvs z d)) (o := .dK (putK ws z v)) eo ⟨_, upd_same, rk.put (hK ▸ r1.mono s2.le)⟩) h3
  · exact hd.elim
theorem ps_fldD (i : Nat) {c f : Str} (hc : Cls X.K (ca X.K c)) (hn : NoAttr X.K (ca X.K c) f) (he : PD X W e δv) (hN : X.N[i]? = some x := by rfl) (hv : Vis X.env.scope x := by first | exact Or.inl rfl | exact Or.inr (Or.inl rfl) | exact Or.inr (Or.inr rfl)) (hd : (x == ("__debug__" : Str)) = false := by decide)
    (hcd : (x == ("__classdict__" : Str)) = false := by decide) (hs : swapsWith e (some (.Attribute (.Name x pos') f apos)) pos.line X.env = pure false := by rfl) : PSD X W (.Assign [.Attribute (.Name x pos') f apos] e pos) (dFldSet i c f δv) := by
  obtain ⟨tv, pv, ev⟩ := he
  refine ⟨_, ps_fld (pe_var hN hv hd hcd) pv hs, fun B σ H ρ n G α D E hK R L hd => ?_⟩
  unfold dFldSet at hd
  split at hd
  · rename_i c' fs eo
    obtain ⟨hc', hl, hd⟩ := hd
    subst hc'
    refine ev B σ H ρ n G α _ _ _ hK R (L.xl R) hd fun v H1 G1 d n1 s1 j1 r1 h1 => ?_
    have R1 := R.step s1 j1
    obtain ⟨e1, hg, _, _, dx, ws, hH, rk⟩ := R1.own i _ eo
    refine ⟨_, e1, α i, _, dx, ws, rfl, hH, hK ▸ hc, hK ▸ hn, by rw [← rk.length]; exact hl, ?_⟩
    exact L.nx σ _ _ n1 G1 α (R1.write (d' := .obj c' (setF f d fs)) (o := .ins (ca B.K c') dx (putF f v ws)) eo ⟨dx, _, upd_same, rk.put (hK ▸ r1)⟩) h1
  · exact hd.elim
end

abbrev DG := D → Env → (Env → Prop) → Prop
def GD (K : PySem.W.Frag) (sl : List Nat) (g : TG) (γ : DG) : Prop :=
  ∀ (B : Bs) (σ : St) (H : Hp) (ρ : Env) (n : Nat) (G : Hp) (α : Nat → Addr) (v : V) (d : D) (Q : St → Hp → Prop) (q : Env → Prop), B.K = K → RelB B σ H ρ n G α → Rep K G d v → γ d ρ q →
    (∀ σ' ρ', RelB B σ' H ρ' n G α → (∀ j, j ∉ sl → σ'[j]? = σ[j]?) → σ'.length = σ.length → q ρ' → Q σ' H) → g v σ H Q
def PGD (X : Cx) (sl : List Nat) (tg : Expr) (γ : DG) : Prop := ∃ g, PG X tg g ∧ GD X.K sl g γ
abbrev DGs := List D → Env → (Env → Prop) → Prop
def GDs (K : PySem.W.Frag) (sl : List Nat) (g : TGs) (γ : DGs) : Prop :=
  ∀ (B : Bs) (σ : St) (H : Hp) (ρ : Env) (n : Nat) (G : Hp) (α : Nat → Addr) (vs : List V) (ds : List D) (Q : St → Hp → Prop) (q : Env → Prop), B.K = K → RelB B σ H ρ n G α → RepL K G ds vs → γ ds ρ q →
    (∀ σ' ρ', RelB B σ' H ρ' n G α → (∀ j, j ∉ sl → σ'[j]? = σ[j]?) → σ'.length = σ.length → q ρ' → Q σ' H) → g vs σ H Q
def PGsD (X : Cx) (sl : List Nat) (tg : List Expr) (γ : DGs) : Prop := ∃ g, PGs X tg g ∧ GDs X.K sl g γ
def gN (i : Nat) : DG := fun d ρ q => q (ρ.set i (some (.val d)))
def gs0 : DGs := fun ds ρ q => ds = [] ∧ q ρ
def gsC (a : DG) (b : DGs) : DGs := fun ds ρ q => match ds with
  | d :: r => a d ρ fun ρ1 => b r ρ1 q
  | [] => False
def gT (a : DGs) : DG := fun d ρ q => match d with
  | .tup ds => a ds ρ q
  | _ => False
section
variable {X : Cx} {pos : Pos} {x : Str}
theorem pgd_name (i : Nat) (hN : X.N.Nodup) (hi : X.N[i]? = some x := by rfl) (hx : Loc X.env.scope x := by first | exact Or.inl rfl | exact Or.inr rfl) (hf : X.fn x = true ∨ X.env.scope.names.lookup x = some .local := by first | exact .inl rfl | exact .inr rfl | assumption) : PGD X [i] (.Name x pos) (gN i) := by
  refine ⟨_, pg_name hN hi hx hf, fun B σ H ρ n G α v d Q q hK R r h k => ?_⟩
  exact k _ _ (R.set i (hK ▸ r)) (fun j hj => by rw [List.getElem?_set, if_neg (fun z => hj (by rw [z]; exact List.mem_singleton_self _))]) (by rw [List.length_set]) h
theorem pgsd_nil : PGsD X [] [] gs0 := by
  refine ⟨_, pgs_nil, fun B σ H ρ n G α vs ds Q q hK R r h k => ?_⟩
  obtain ⟨e, h⟩ := h
  subst e
  cases r
  exact ⟨rfl, k σ ρ R (fun _ _ => rfl) rfl h⟩
theorem pgsd_cons {e : Expr} {es : List Expr} {a : DG} {b : DGs} {sl sl' : List Nat} (h : PGD X sl e a) (h2 : PGsD X sl' es b)
    (hs : (assignEach (e :: es) X.env).map (·.2) = assign e X.env :: (assignEach es X.env).map (·.2) := by rfl) : PGsD X (sl ++ sl') (e :: es) (gsC a b) := by
  obtain ⟨g, p, h⟩ := h
  obtain ⟨g', p', h'⟩ := h2
  refine ⟨_, pgs_cons p p' hs, fun B σ H ρ n G α vs ds Q q hK R r hd k => ?_⟩
  cases r with
  | nil => exact hd.elim
  | cons r t =>
    refine ⟨_, _, rfl, h B σ H ρ n G α _ _ _ _ hK R r hd fun σ1 ρ1 R1 f1 l1 h1 => ?_⟩
    refine h' B σ1 H ρ1 n G α _ _ _ _ hK R1 t h1 fun σ2 ρ2 R2 f2 l2 h2 => ?_
    exact k σ2 ρ2 R2 (fun j hj => by rw [f2 j (fun z => hj (List.mem_append_right _ z)), f1 j (fun z => hj (List.mem_append_left _ z))]) (l2.trans l1) h2
def gTn (m : Nat) (a : DGs) : DG := fun d ρ q => match d with
  | .tup ds => ds.length = m ∧ a ds ρ q
  | _ => False
theorem pgd_tup {es : List Expr} {k m : Nat} {a : DGs} {sl : List Nat} (hc : X.calm = true) (h : PGsD X sl es a) (hn : (assignEach es X.env).length = m := by rfl) (hst : (assignEach es X.env).findIdx? (·.1) = none := by rfl) : PGD X sl (.Tuple es k pos) (gTn m a) := by
  obtain ⟨g, p, h⟩ := h
  refine ⟨_, pg_tup hc p hn hst, fun B σ H ρ n G α v d Q q hK R r hd k => ?_⟩
  cases d with
  | tup ds =>
    cases r with
    | tup e r =>
      exact ⟨_, _, rfl, R.le.sqT e, by rw [← r.length]; exact hd.1, h B σ H ρ n G α _ _ _ _ hK R r hd.2 k⟩
  | _ => exact hd.elim
end
end DL

end

section
set_option autoImplicit false
namespace DL
open PySem PySem.Spec L2

structure WalkD (K : PySem.W.Frag) (J : It) (G : Hp) (ds : List D) : Prop where
  goes : ∀ i H G', i < ds.length → Le G G' → Le G' H → J.go i H
  stops : ∀ H G', Le G G' → Le G' H → J.stop ds.length H
  yields : ∀ i H G' x H', i < ds.length → Le G G' → Le G' H → J.yld i H x H' → ∃ d G'', ds[i]? = some d ∧ StepP H G' H' G'' ∧ Rep K G'' d x
abbrev DI := DX → Env → Nat → (List D → Nat → Prop) → Prop
def EI (K : PySem.W.Frag) (W : WX) (wi : TI) (ι : DI) : Prop :=
  ∀ (B : Bs) (σ : St) (H : Hp) (ρ : Env) (n : Nat) (G : Hp) (α : Nat → Addr) (R : It → Hp → Prop) (x : DX) (q : List D → Nat → Prop), B.K = K → RelB B σ H ρ n G α → XL B W σ H G x → ι x ρ n q →
    (∀ J H' G' ds n', Step B.W H G H' G' → B.W.J n' H' → WalkD K J G' ds → q ds n' → R J H') → wi σ H R
def PID (X : Cx) (W : WX) (tg iter : Expr) (ι : DI) : Prop := ∃ wi, PI X tg iter wi ∧ EI X.K W wi ι

theorem RelB.down {B : Bs} {σ : St} {H : Hp} {ρ : Env} {n : Nat} {G : Hp} {α : Nat → Addr} {G1 : Hp} (R : RelB { B with G0 := G1 } σ H ρ n G α) (le : Le B.G0 G1) (hn : ∀ a, G1 a ≠ none → B.G0 a ≠ none ∨ (B.H0 a = none ∧ ¬ B.W.rg a)) : RelB B σ H ρ n G α := by
  refine ⟨⟨R.st.fr, le.trans R.st.le, R.st.hh, fun a e => ?_⟩, R.rg, R.J, R.len, R.val, R.own, R.inj, R.p0, R.gh.of rfl rfl rfl rfl (fun _ _ _ e => ⟨e, fun _ h => h⟩) (fun _ d e => .inl ⟨d, e, rfl⟩) (fun _ _ _ _ _ _ h1 _ _ => ⟨h1, fun _ q => q⟩) (Le.refl G)⟩
  rcases R.st.new a e with z | z
  · exact hn a z
  · exact .inr z
theorem RelB.up {B : Bs} {σ : St} {H : Hp} {ρ : Env} {n : Nat} {G : Hp} {α : Nat → Addr} {G1 : Hp} (R : RelB B σ H ρ n G α) (le : Le G1 G) (l0 : Le B.G0 G1) : RelB { B with G0 := G1 } σ H ρ n G α := by
  refine ⟨⟨R.st.fr, le, R.st.hh, fun a e => ?_⟩, R.rg, R.J, R.len, R.val, R.own, R.inj, R.p0, R.gh.of rfl rfl rfl rfl (fun _ _ _ e => ⟨e, fun _ h => h⟩) (fun _ d e => .inl ⟨d, e, rfl⟩) (fun _ _ _ _ _ _ h1 _ _ => ⟨h1, fun _ q => q⟩) (Le.refl G)⟩
  rcases R.st.new a e with z | z
  · refine .inl ?_
    cases q : B.G0 a with
    | none => exact (z q).elim
    | some o =>
      obtain ⟨o', e', _⟩ := l0 a o q
      show G1 a ≠ none
      rw [e']
      exact fun z => nomatch z
  · exact .inr z
theorem Lk.up {B : Bs} {W : WX} {D : Ends} {E : DEnds} {G1 : Hp} (L : Lk B W D E) (le : Le B.G0 G1) (hn : ∀ a, G1 a ≠ none → B.G0 a ≠ none ∨ (B.H0 a = none ∧ ¬ B.W.rg a)) : Lk { B with G0 := G1 } W D E := by
  refine ⟨fun σ H ρ n G α R => L.nx σ H ρ n G α (R.down le hn), fun v H d n G s => L.rt v H d n G ⟨s.fr, le.trans s.le, s.hh, fun a e => ?_⟩, fun σ H ρ n G α R => L.bk σ H ρ n G α (R.down le hn), fun σ H ρ n G α R => L.ct σ H ρ n G α (R.down le hn), fun c dd σ H ρ n G α e R => L.ex c dd σ H ρ n G α e (R.down le hn), L.w, fun a H d n G s => L.ro a H d n G ⟨s.fr, le.trans s.le, s.hh, fun a e => ?_⟩⟩
  · rcases s.new a e with z | z
    · exact hn a z
    · exact .inr z
  · rcases s.new a e with z | z
    · exact hn a z
    · exact .inr z

def forD (γ : DG) (b : DS) : List D → DS
  | [] => fun E ρ n => E.nx ρ n
  | d :: ds => fun E ρ n => γ d ρ fun ρ1 => b { E with nx := forD γ b ds E, ct := forD γ b ds E, bk := E.nx } ρ1 n
def dFor (ι : DI) (γ : DG) (b : DS) : DS := fun E ρ n => ι (E.xx ρ) ρ n fun ds n1 => forD γ b ds E ρ n1
theorem sd_for {K : PySem.W.Frag} {W : WX} {wi : TI} {g : TG} {tb : TS} {ι : DI} {γ : DG} {b : DS} {sl : List Nat} (hi : EI K W wi ι) (hg : GD K sl g γ) (hb : SD K W tb b) : SD K W (tFor wi g tb) (dFor ι γ b) := by
  intro B σ H ρ n G α D E hK R L hd
  refine hi B σ H ρ n G α _ _ _ hK R (L.xl R) hd fun J H1 G1 ds n1 s1 j1 wk h1 => ?_
  have R1 := R.step s1 j1
  have l0 : Le B.G0 G1 := R1.st.le
  have hn := R1.st.new
  have L1 := L.up l0 hn
  refine ⟨fun i m σ H => m = ds.length - i ∧ i ≤ ds.length ∧ ∃ ρ n G α, RelB { B with G0 := G1 } σ H ρ n G α ∧ forD γ b (ds.drop i) E ρ n, ⟨ds.length, by simp, Nat.zero_le _, ρ, n1, G1, α, R1.up (Le.refl G1) l0, by simpa using h1⟩, ?_⟩
  rintro i m σ2 H2 ⟨rfl, hil, ρ2, n2, G2, α2, R2, h2⟩
  by_cases hlt : i < ds.length
  · refine .inr ⟨wk.goes i H2 G2 hlt R2.st.le R2.le, fun σ' H' => ∃ ρ n G α, RelB { B with G0 := G1 } σ' H' ρ n G α ∧ forD γ b (ds.drop (i + 1)) E ρ n, fun σ' H' p => ⟨ds.length - (i + 1), by omega, rfl, hlt, p⟩, fun x H' y => ?_⟩
    obtain ⟨d, G3, ed, s3, r3⟩ := wk.yields i H2 G2 x H' hlt R2.st.le R2.le y
    have ed' : ds.drop i = d :: ds.drop (i + 1) := by
      rw [List.drop_eq_getElem_cons hlt]
      have : ds[i] = d := by
        rw [List.getElem?_eq_getElem hlt] at ed
        exact Option.some.inj ed
      rw [this]
    rw [ed'] at h2
    have R3 := R2.step (s3.step R2.J) (s3.J R2.J)
    refine hg { B with G0 := G1 } σ2 H' ρ2 n2 G3 α2 x d _ _ hK R3 r3 h2 fun σ4 ρ4 R4 _ _ h4 => ?_
    exact hb { B with G0 := G1 } σ4 H' ρ4 n2 G3 α2 _ { E with nx := forD γ b (ds.drop (i + 1)) E, ct := forD γ b (ds.drop (i + 1)) E, bk := E.nx } hK R4 ⟨fun σ H ρ n G α R h => ⟨ρ, n, G, α, R, h⟩, L1.rt, L1.nx, fun σ H ρ n G α R h => ⟨ρ, n, G, α, R, h⟩, L1.ex, L1.w, L1.ro⟩ h4
  · have e : i = ds.length := by omega
    subst e
    refine .inl ⟨wk.stops H2 G2 R2.st.le R2.le, ?_⟩
    rw [List.drop_length] at h2
    exact L1.nx σ2 H2 ρ2 n2 G2 α2 R2 h2
section
variable {X : Cx} {W : WX} {tg iter c : Expr} {body : List Stmt} {pos : Pos} {ι : DI} {γ : DG} {b : DS} {τ : DT} {sl : List Nat}
theorem ps_forD (hp : PassesOwn (model X.prog X.w) X.A X.env X.xe) (hc : X.calm = true) (hi : PID X W tg iter ι) (hg : PGD X sl tg γ) (hb : PSsD X W body b)
    (hs : ∀ x, foldedSetIterable iter X.env x = pure x := by intro _; rfl) : PSD X W (.For tg iter body [] pos) (dFor ι γ b) := by
  obtain ⟨wi, pi, ei⟩ := hi
  obtain ⟨g, pg, eg⟩ := hg
  obtain ⟨tb, pb, eb⟩ := hb
  exact ⟨_, ps_for hp hc pi pg pb hs, sd_for ei eg eb⟩

end

def wipeD (ρ : Env) : List Nat → Env
  | [] => ρ
  | v :: vs => (wipeD ρ vs).set v none
theorem wipe_get (σ : St) (j : Nat) : ∀ vs : List Nat, (wipe σ vs)[j]? = if j ∈ vs then (if j < σ.length then some none else none) else σ[j]?
  | [] => by simp [wipe]
  | v :: vs => by
    unfold wipe
    rw [List.getElem?_set, wipe_length, wipe_get σ j vs]
    by_cases e : v = j
    · subst e
      simp
    · have e' : ¬ j = v := fun z => e z.symm
      simp [e, e']
theorem wipeD_length (ρ : Env) : ∀ vs : List Nat, (wipeD ρ vs).length = ρ.length
  | [] => rfl
  | v :: vs => by unfold wipeD; rw [List.length_set, wipeD_length ρ vs]
theorem wipeD_some {ρ : Env} {i : Nat} {x : Sl} : ∀ {vs : List Nat}, (wipeD ρ vs)[i]? = some (some x) → ρ[i]? = some (some x) ∧ i ∉ vs
  | [], h => ⟨h, by simp⟩
  | v :: vs, h => by
    unfold wipeD at h
    rw [List.getElem?_set] at h
    by_cases e : v = i
    · rw [if_pos e] at h
      split at h
      · injection h with h; cases h
      · cases h
    · rw [if_neg e] at h
      obtain ⟨h1, h2⟩ := wipeD_some h
      exact ⟨h1, fun z => (List.mem_cons.mp z).elim (fun q => e q.symm) h2⟩
theorem RelB.wipe {B : Bs} {σ : St} {H : Hp} {ρ : Env} {n : Nat} {G : Hp} {α : Nat → Addr} (R : RelB B σ H ρ n G α) (vs : List Nat) : RelB B (L2.wipe σ vs) H (wipeD ρ vs) n G α := by
  refine ⟨R.st, R.rg, R.J, by rw [wipe_length, wipeD_length, R.len], fun i d h => ?_, fun i d h => ?_, fun i j d e h h' => R.inj i j d e (wipeD_some h).1 (wipeD_some h').1, fun a d h h' => R.p0 a d h (wipeD_some h').1, R.gh.of rfl rfl rfl rfl (fun _ _ _ e => ⟨(wipeD_some e).1, fun _ q => by rw [wipe_out (wipeD_some e).2]; exact q⟩) (fun _ d e => .inl ⟨d, (wipeD_some e).1, rfl⟩) (fun _ _ _ _ _ _ h1 _ _ => ⟨h1, fun _ q => q⟩) (Le.refl G)⟩
  · obtain ⟨h1, h2⟩ := wipeD_some h
    obtain ⟨v, e, r⟩ := R.val i d h1
    exact ⟨v, by rw [wipe_out h2]; exact e, r⟩
  · obtain ⟨h1, h2⟩ := wipeD_some h
    obtain ⟨e, r⟩ := R.own i d h1
    exact ⟨by rw [wipe_out h2]; exact e, r⟩
abbrev x0 (w : Wd) : DX := ⟨fun _ _ => False, w⟩
abbrev W0 : WX := fun _ _ _ _ => False
def lcD (w : Wd) (γ : DG) (tt : DT) (te : DE) : List D → Env → Nat → List D → (List D → Nat → Prop) → Prop
  | [], _, n, acc, q => q acc n
  | d :: ds, ρ, n, acc, q => γ d ρ fun ρ1 => tt (x0 w) ρ1 n fun b n1 => if b = true then te (x0 w) ρ1 n1 fun y n2 => acc.length < 16777216 ∧ lcD w γ tt te ds ρ n2 (acc ++ [y]) q else lcD w γ tt te ds ρ n1 acc q
def dLc (ι : DI) (γ : DG) (tt : DT) (te : DE) (vs : List Nat) : DE := fun x ρ n q => ι x ρ n fun ds n1 => lcD x.w γ tt te ds (wipeD ρ vs) n1 [] fun es n2 => q (.lst es) n2
theorem xl0 {B : Bs} {W : WX} {σ : St} {H G : Hp} : XL B W σ H G (x0 B.W) := ⟨rfl, fun _ _ _ _ _ _ _ _ _ h => h.elim⟩
theorem Step.keepD {W : Wd} {H G H' G' : Hp} (s : Step W H G H' G') {a : Addr} {o : HO} (h : H a = some o) (g : G a = none) : G' a = none := by
  cases e : G' a with
  | none => rfl
  | some u =>
    rcases s.new a (by rw [e]; exact fun z => nomatch z) with z | ⟨z, _⟩
    · exact (z g).elim
    · rw [h] at z; cases z
theorem Step.updD {W : Wd} {H G H' G' : Hp} (s : Step W H G H' G') {a : Addr} {o : HO} (h : H a = none) (g : G' a = none) : Step W H G (upd H' a o) G' := by
  refine ⟨fun b u e r => by rw [upd_ne (ne_of_none e h)]; exact s.fr b u e r, s.le, fun b u e => ?_, s.new⟩
  obtain ⟨o', e', c⟩ := s.hh b u e
  exact ⟨o', by rw [upd_ne (ne_of_none e g)]; exact e', c⟩
theorem ef_lc {K : PySem.W.Frag} {W : WX} {wi : TI} {g : TG} {tt : TT} {te : TE} {vs : List Nat} {ι : DI} {γ : DG} {τ : DT} {δ : DE} {sl : List Nat} (hsl : ∀ i ∈ sl, i ∈ vs) (hi : EI K W wi ι) (hg : GD K sl g γ) (ht : ET K W0 tt τ) (he : ED K W0 te δ) : EF K W (tLc wi g tt te vs) (dLc ι γ τ δ vs) := by
  intro B σ H ρ n G α Q x q hK R hx hd k
  refine hi B σ H ρ n G α _ x _ hK R hx hd fun J H1 G1 ds n1 s1 j1 wk h1 => ?_
  have R1 := R.step s1 j1
  intro D hD
  have nr : ¬ B.W.rg D := fun r => B.W.there n1 H1 D j1 r hD
  have g1 : G1 D = none := by
    cases q : G1 D with
    | none => rfl
    | some u =>
      obtain ⟨o', e', _⟩ := s1.hh D u q
      rw [hD] at e'; cases e'
  have h0 : H D = none := by
    cases e : H D with
    | none => rfl
    | some o => rw [s1.fr D o e nr] at hD; cases hD
  have s0 := StepP.laid (o := .lst []) s1.hh hD
  refine ⟨fun i m H => m = ds.length - i ∧ i ≤ ds.length ∧ ∃ n G acc us, Step B.W H1 G1 H G ∧ B.W.J n H ∧ H D = some (.lst us) ∧ G D = none ∧ RepL K G acc us ∧ lcD B.W γ τ δ (ds.drop i) (wipeD ρ vs) n acc fun es n2 => q (.lst es) n2,
    ⟨ds.length, by simp, Nat.zero_le _, n1, G1, [], [], s0.step j1, s0.J j1, upd_same, g1, .nil, by rw [hx.1] at h1; simpa using h1⟩, ?_⟩
  rintro i m H2 ⟨rfl, hil, n2, G2, acc, us, s2, j2, hD2, gD2, ra, h2⟩
  by_cases hlt : i < ds.length
  · refine .inr ⟨wk.goes i H2 G2 hlt s2.le s2.hh, fun H' => ∃ n G acc us, Step B.W H1 G1 H' G ∧ B.W.J n H' ∧ H' D = some (.lst us) ∧ G D = none ∧ RepL K G acc us ∧ lcD B.W γ τ δ (ds.drop (i + 1)) (wipeD ρ vs) n acc fun es n2 => q (.lst es) n2, fun H' p => ⟨ds.length - (i + 1), by omega, rfl, hlt, p⟩, fun y H' yl => ?_⟩
    obtain ⟨d, G3, ed, s3, r3⟩ := wk.yields i H2 G2 y H' hlt s2.le s2.hh yl
    have ed' : ds.drop i = d :: ds.drop (i + 1) := by
      rw [List.drop_eq_getElem_cons hlt]
      have : ds[i] = d := by
        rw [List.getElem?_eq_getElem hlt] at ed
        exact Option.some.inj ed
      rw [this]
    rw [ed'] at h2
    have t3 := s3.step j2
    have R3 := ((R1.step s2 j2).step t3 (s3.J j2)).wipe vs
    have hD3 := s3.fr D _ hD2
    have gD3 := t3.keepD hD2 gD2
    refine hg B (wipe σ vs) H' (wipeD ρ vs) n2 G3 α y d _ _ hK R3 r3 h2 fun σ4 ρ4 R4 f4 l4 h4 => ⟨?_, ?_⟩
    · refine List.ext_getElem? fun j => ?_
      rw [wipe_get, wipe_get, l4, wipe_length]
      by_cases hj : j ∈ vs
      · rw [if_pos hj, if_pos hj]
      · rw [if_neg hj, if_neg hj, f4 j (fun z => hj (hsl j z)), wipe_out hj]
    · refine ht B σ4 H' ρ4 n2 G3 α _ (x0 B.W) _ hK R4 xl0 h4 fun b H5 G5 n5 s5 j5 h5 => ?_
      have hD5 := s5.fr D _ hD3 nr
      have gD5 := s5.keepD hD3 gD3
      cases b with
      | true =>
        rw [if_pos rfl] at h5 ⊢
        refine he B σ4 H5 ρ4 n5 G5 α _ (x0 B.W) _ hK (R4.step s5 j5) xl0 h5 fun v H6 G6 dy n6 s6 j6 r6 h6 => ?_
        have hD6 := s6.fr D _ hD5 nr
        have gD6 := s6.keepD hD5 gD5
        have t6 : Step B.W H1 G1 H6 G6 := s2.trans (t3.trans (s5.trans s6))
        have ra6 : RepL K G6 acc us := ra.mono ((t3.trans (s5.trans s6)).le)
        refine ⟨us, hD6, by rw [sizeLine_eq, ← ra6.length]; exact h6.1, n6, G6, acc ++ [dy], us ++ [v], t6.updD hD gD6, B.W.stable _ _ _ (fun a r => upd_ne (fun z : a = D => nr (z ▸ r))) (fun a e q => (upd_ne fun z : a = D => by rw [z, hD6] at q; cases q).trans q) j6, upd_same, gD6, ra6.snoc r6, h6.2⟩
      | false =>
        rw [if_neg Bool.false_ne_true] at h5 ⊢
        exact ⟨n5, G5, acc, us, s2.trans (t3.trans s5), j5, hD5, gD5, ra.mono ((t3.trans s5).le), h5⟩
  · have e : i = ds.length := by omega
    subst e
    refine .inl ⟨wk.stops H2 G2 s2.le s2.hh, ?_⟩
    rw [List.drop_length] at h2
    exact k D H2 G2 (.lst acc) n2 (s1.trans s2) j2 h0 gD2 nr ⟨us, hD2, ra⟩ h2
def PTsD (X : Cx) (ifs : List Expr) (τ : DT) : Prop := ∃ t, PTs X ifs t ∧ ET X.K W0 t τ
def dYes : DT := fun _ _ n q => q true n
section
variable {X : Cx} {W : WX}
theorem ptsD_nil : PTsD X [] dYes := ⟨_, pts_nil, fun B σ H ρ n G α Q x q hK R hx hd k => k true H G n (.refl _ R.le) R.J hd⟩
theorem ptsD_one {c : Expr} {τ : DT} (h : PTD X W0 c τ) : PTsD X [c] τ := by
  obtain ⟨t, p, e⟩ := h
  exact ⟨t, pts_one p, e⟩
end
end DL

end

section
set_option autoImplicit false
namespace DL
open PySem PySem.Spec L2

def tOf (K : PySem.W.Frag) (W : WX) (δ : DE) : TE := fun σ H Q => ∃ (B : Bs) (ρ : Env) (n : Nat) (G : Hp) (α : Nat → Addr) (x : DX) (q : DQ), B.K = K ∧ RelB B σ H ρ n G α ∧ XL B W σ H G x ∧ δ x ρ n q ∧
  (∀ v H' G' d n', Step B.W H G H' G' → B.W.J n' H' → Rep K G' d v → q d n' → Q v H')
def tOfT (K : PySem.W.Frag) (W : WX) (δ : DT) : TT := fun σ H Q => ∃ (B : Bs) (ρ : Env) (n : Nat) (G : Hp) (α : Nat → Addr) (x : DX) (q : Bool → Nat → Prop), B.K = K ∧ RelB B σ H ρ n G α ∧ XL B W σ H G x ∧ δ x ρ n q ∧
  (∀ b H' G' n', Step B.W H G H' G' → B.W.J n' H' → q b n' → Q b H')
def gOf (K : PySem.W.Frag) (sl : List Nat) (γ : DG) : TG := fun v σ H Q => ∃ (B : Bs) (ρ : Env) (n : Nat) (G : Hp) (α : Nat → Addr) (d : D) (q : Env → Prop), B.K = K ∧ RelB B σ H ρ n G α ∧ Rep K G d v ∧ γ d ρ q ∧
  (∀ σ' ρ', RelB B σ' H ρ' n G α → (∀ j, j ∉ sl → σ'[j]? = σ[j]?) → σ'.length = σ.length → q ρ' → Q σ' H)
theorem ed_tOf {K : PySem.W.Frag} {W : WX} {δ : DE} : ED K W (tOf K W δ) δ := fun B σ H ρ n G α Q x q hK R hx hd k => ⟨B, ρ, n, G, α, x, q, hK, R, hx, hd, k⟩
theorem et_tOf {K : PySem.W.Frag} {W : WX} {δ : DT} : ET K W (tOfT K W δ) δ := fun B σ H ρ n G α Q x q hK R hx hd k => ⟨B, ρ, n, G, α, x, q, hK, R, hx, hd, k⟩
theorem gd_gOf {K : PySem.W.Frag} {sl : List Nat} {γ : DG} : GD K sl (gOf K sl γ) γ := fun B σ H ρ n G α v d Q q hK R r hd k => ⟨B, ρ, n, G, α, d, q, hK, R, r, hd, k⟩
section
variable {X : Cx} {W : WX}
theorem PD.pe {e : Expr} {δ : DE} (h : PD X W e δ) : PE X e (tOf X.K W δ) := by
  obtain ⟨t, p, h⟩ := h
  refine ⟨fun pins s σ H Q I hw => ?_⟩
  obtain ⟨B, ρ, n, G, α, x, q, hK, R, hx, hd, k⟩ := hw
  exact p.run pins s σ H Q I (h B σ H ρ n G α Q x q hK R hx hd k)
theorem PTD.pt {e : Expr} {δ : DT} (h : PTD X W e δ) : PT X e (tOfT X.K W δ) := by
  obtain ⟨t, p, h⟩ := h
  refine ⟨fun pins s σ H Q I hw => ?_⟩
  obtain ⟨B, ρ, n, G, α, x, q, hK, R, hx, hd, k⟩ := hw
  exact p.run pins s σ H Q I (h B σ H ρ n G α Q x q hK R hx hd k)
theorem PTsD.pts {e : List Expr} {δ : DT} (h : PTsD X e δ) : PTs X e (tOfT X.K W0 δ) := by
  obtain ⟨t, p, h⟩ := h
  refine ⟨fun pins s σ H Q I hw => ?_⟩
  obtain ⟨B, ρ, n, G, α, x, q, hK, R, hx, hd, k⟩ := hw
  exact p.run pins s σ H Q I (h B σ H ρ n G α Q x q hK R hx hd k)
theorem PGD.pg {tg : Expr} {sl : List Nat} {γ : DG} (h : PGD X sl tg γ) : PG X tg (gOf X.K sl γ) := by
  obtain ⟨g, p, h⟩ := h
  refine ⟨fun pins s σ H v u Q I r hw => ?_⟩
  obtain ⟨B, ρ, n, G, α, d, q, hK, R, rd, hd, k⟩ := hw
  exact p.run pins s σ H v u Q I r (h B σ H ρ n G α v d Q q hK R rd hd k)
variable {elt tg iter : Expr} {ifs : List Expr} {scope : Scope} {own : List (Str × Nat)} {pos spos py : Pos} {ι : DI} {γ : DG} {τ : DT} {δ : DE} {sl : List Nat} {y : Str}
theorem pf_lc (own : List (Str × Nat)) (hc : X.calm = true) (hN : X.N.Nodup) (hi : PID X W tg iter ι) (ok : BlkOk X.N X.env.scope scope own)
    (hg : ∀ (s : Shared) (H : Hp) (C : Addr) (cl : List (Str × Addr)) (fp : List Addr), PGD (X.blk s H scope (compEnvC scope cl C X.env) fp) sl tg γ)
    (ht : ∀ (s : Shared) (H : Hp) (C : Addr) (cl : List (Str × Addr)) (fp : List Addr), PTsD (X.blk s H scope (compEnvC scope cl C X.env) fp) ifs τ)
    (he : ∀ (s : Shared) (H : Hp) (C : Addr) (cl : List (Str × Addr)) (fp : List Addr), PD (X.blk s H scope (compEnvC scope cl C X.env) fp) W0 elt δ) (hsl : ∀ i ∈ sl, i ∈ own.map (·.2) := by decide)
    (hs : ∀ x, foldedSetIterable iter X.env x = pure x := by intro _; rfl) : PF X W (.ListComp elt [⟨tg, iter, ifs, 0⟩] scope pos) (dLc ι γ τ δ (own.map (·.2))) := by
  obtain ⟨wi, pi, ei⟩ := hi
  exact ⟨_, pe_lc hc hN pi ok (fun s H C cl fp => (hg s H C cl fp).pg) (fun s H C cl fp => (ht s H C cl fp).pts) (fun s H C cl fp => (he s H C cl fp).pe) hs, ef_lc hsl ei gd_gOf et_tOf ed_tOf⟩
theorem EF.ed {K : PySem.W.Frag} {t : TE} {δ : DE} (h : EF K W t δ) (hl : ∀ x ρ n q, δ x ρ n q → δ x ρ n fun d n => (∀ kvs, d ≠ .dct kvs) ∧ q d n) : ED K W t δ := by
  refine fun B σ H ρ n G α Q x q hK R hx hd k => h B σ H ρ n G α Q x _ hK R hx (hl _ _ _ _ hd) fun a H' G' d n' s j np ng nr o hq => ?_
  obtain ⟨ob, e, l1, l2, r⟩ := DL.freezeL s.hh ng o hq.1
  exact k _ H' (upd G' a ob) d n' (s.frozen np nr (fun _ _ => rfl) l1 l2) j r hq.2
theorem dLc_lst {ι : DI} {γ : DG} {tt : DT} {te : DE} {vs : List Nat} (x : DX) (ρ : Env) (n : Nat) (q : DQ) (h : dLc ι γ tt te vs x ρ n q) : dLc ι γ tt te vs x ρ n fun d n => (∀ kvs, d ≠ .dct kvs) ∧ q d n := by
  have e : (fun (es : List D) (n2 : Nat) => (∀ kvs, D.lst es ≠ .dct kvs) ∧ q (.lst es) n2) = fun es n2 => q (.lst es) n2 := by
    funext es n2
    exact propext (and_iff_right fun _ z => nomatch z)
  unfold dLc at h ⊢
  rw [e]
  exact h
theorem ps_setLcD (i : Nat) (own : List (Str × Nat)) (hc : X.calm = true) (hN : X.N.Nodup) (hi : PID X W tg iter ι) (ok : BlkOk X.N X.env.scope scope own)
    (hg : ∀ (s : Shared) (H : Hp) (C : Addr) (cl : List (Str × Addr)) (fp : List Addr), PGD (X.blk s H scope (compEnvC scope cl C X.env) fp) sl tg γ)
    (ht : ∀ (s : Shared) (H : Hp) (C : Addr) (cl : List (Str × Addr)) (fp : List Addr), PTsD (X.blk s H scope (compEnvC scope cl C X.env) fp) ifs τ)
    (he : ∀ (s : Shared) (H : Hp) (C : Addr) (cl : List (Str × Addr)) (fp : List Addr), PD (X.blk s H scope (compEnvC scope cl C X.env) fp) W0 elt δ) (hsl : ∀ i ∈ sl, i ∈ own.map (·.2) := by decide)
    (hy : X.N[i]? = some y := by rfl) (hyl : X.env.scope.names.lookup y = some .local := by rfl)
    (hsw : swapsWith (.ListComp elt [⟨tg, iter, ifs, 0⟩] scope pos) (some (.Name y py)) spos.line X.env = pure true := by exact sw_true rfl rfl rfl (by decide +kernel))
    (hs : ∀ x, foldedSetIterable iter X.env x = pure x := by intro _; rfl) : PSD X W (.Assign [.Name y py] (.ListComp elt [⟨tg, iter, ifs, 0⟩] scope pos) spos) (dSet i (dLc ι γ τ δ (own.map (·.2)))) := by
  obtain ⟨wi, pi, ei⟩ := hi
  exact ⟨_, ps_setLc hc hN hy hyl hsw pi ok (fun s H C cl fp => (hg s H C cl fp).pg) (fun s H C cl fp => (ht s H C cl fp).pts) (fun s H C cl fp => (he s H C cl fp).pe) hs, sd_set ((ef_lc hsl ei gd_gOf et_tOf ed_tOf).ed dLc_lst) i⟩
end

def iSeq (K : PySem.W.Frag) (tl : TE) : TI := fun σ H R => tl σ H fun x H1 => ∃ a, x = .ref a ∧ (((∃ xs, SqL K H1 a xs) ∧ R (Itl K a) H1) ∨ ((∃ xs, SqT K H1 a xs) ∧ R (Itt K a) H1))
theorem seq_val {X : Cx} {tg : Expr} {pins : List (Addr × Obj)} {σ : St} {H1 : Hp} {s1 : Shared} {R : It → Hp → Prop} {a : Addr} (I1 : Inv X pins σ H1 s1) (q1 : ((∃ xs, SqL X.K H1 a xs) ∧ R (Itl X.K a) H1) ∨ ((∃ xs, SqT X.K H1 a xs) ∧ R (Itt X.K a) H1)) : wpAny (model X.prog X.w) X.A (pyIter (.ref a)) (PIE X pins σ tg R) X.xe s1 := by
  rcases q1 with ⟨⟨xs, hq⟩, q⟩ | ⟨⟨xs, hq⟩, q⟩
  · obtain ⟨its, rv, p, hz⟩ := I1.list hq
    refine wpAny_pyIter_list p.isList ?_
    refine ⟨s1.heap.objs.size, [s1.heap.objs.size], _, _, H1, rfl, I1.kept (t' := s1.toks) fun b o e => Heap.get?_push_of_some _ e, turn_list a _, ⟨_, Heap.get?_push_size _ rfl, rfl, rfl⟩, fun b hb => ?_, q⟩
    have e : b = s1.heap.objs.size := by simpa using hb
    subst e
    exact I1.fpOk (Nat.le_refl _) (I1.hok.fresh (Nat.le_refl _))
  · obtain ⟨its, rv, p, hz⟩ := I1.tuple hq
    refine wpAny_pyIter_tuple (show s1.heap.IsTuple a its.toArray from p) ?_
    refine ⟨s1.heap.objs.size, [s1.heap.objs.size], _, _, H1, rfl, I1.kept (t' := s1.toks) fun b o e => Heap.get?_push_of_some _ e, turn_tuple a _, ⟨_, Heap.get?_push_size _ rfl, rfl, rfl⟩, fun b hb => ?_, q⟩
    have e : b = s1.heap.objs.size := by simpa using hb
    subst e
    exact I1.fpOk (Nat.le_refl _) (I1.hok.fresh (Nat.le_refl _))
theorem pi_seq {X : Cx} {tg l : Expr} {tl : TE} (hl : PE X l tl) : PI X tg l (iSeq X.K tl) := by
  refine ⟨fun pins s σ H R I h => ?_⟩
  refine thn (hl.run pins s σ H _ I h) fun v s1 ⟨x, H1, I1, r1, q1⟩ => ?_
  obtain ⟨a, e, q1⟩ := q1
  subst e
  cases r1
  exact seq_val I1 q1
section
variable {K : PySem.W.Frag}
theorem walkD_list {G : Hp} {a : Addr} {vs : List V} {ds : List D} (e : G a = some (.lst vs)) (r : RepL K G ds vs) : WalkD K (Itl K a) G ds := by
  have w := walk_list (K := K) (a := a) (xs := vs)
  have hl := r.length
  refine ⟨fun i H G' hi l1 l2 => w.goes i H (by omega) (SqL.of (l2.get (l1.get e))), fun H G' l1 l2 => by rw [hl]; exact w.stops H (SqL.of (l2.get (l1.get e))), fun i H G' x H' hi l1 l2 y => ?_⟩
  obtain ⟨e1, e2⟩ := w.yields i H x H' (by omega) (SqL.of (l2.get (l1.get e))) y
  subst e1
  obtain ⟨d, h1, h2⟩ := r.getV e2
  exact ⟨d, G', h1, .refl l2, h2.mono l1⟩
theorem walkD_rol {G : Hp} {a : Addr} {o : Obj} {vs : List V} {ds : List D} (e : G a = some (.frz o (.lst vs))) (r : RepL K G ds vs) : WalkD K (Itl K a) G ds := by
  have w := walk_list (K := K) (a := a) (xs := vs)
  have hl := r.length
  have sq : ∀ {H G' : Hp}, Le G G' → Le G' H → SqL K H a vs := fun l1 l2 => .inl (.inr ⟨_, l2.get (l1.get e)⟩)
  refine ⟨fun i H G' hi l1 l2 => w.goes i H (by omega) (sq l1 l2), fun H G' l1 l2 => by rw [hl]; exact w.stops H (sq l1 l2), fun i H G' x H' hi l1 l2 y => ?_⟩
  obtain ⟨e1, e2⟩ := w.yields i H x H' (by omega) (sq l1 l2) y
  subst e1
  obtain ⟨d, h1, h2⟩ := r.getV e2
  exact ⟨d, G', h1, .refl l2, h2.mono l1⟩
theorem walkD_tup {G : Hp} {a : Addr} {vs : List V} {ds : List D} (e : SqT K G a vs) (r : RepL K G ds vs) : WalkD K (Itt K a) G ds := by
  have w := walk_tup (K := K) (a := a) (xs := vs)
  have hl := r.length
  refine ⟨fun i H G' hi l1 l2 => w.goes i H (by omega) (l2.sqT (l1.sqT e)), fun H G' l1 l2 => by rw [hl]; exact w.stops H (l2.sqT (l1.sqT e)), fun i H G' x H' hi l1 l2 y => ?_⟩
  obtain ⟨e1, e2⟩ := w.yields i H x H' (by omega) (l2.sqT (l1.sqT e)) y
  subst e1
  obtain ⟨d, h1, h2⟩ := r.getV e2
  exact ⟨d, G', h1, .refl l2, h2.mono l1⟩
def rngD (lo : Int) (n : Nat) : List D := (List.range n).map fun (i : Nat) => D.int (lo + (i : Int))
def rngC (lo c : Int) (n : Nat) : List D := (List.range n).map fun (i : Nat) => D.int (lo + (i : Int) * c)
theorem walkD_range {G : Hp} (lo : Int) (n : Nat) : WalkD K (Itr lo n) G (rngD lo n) := by
  have w := walk_range (lo := lo) (n := n)
  have hl : (rngD lo n).length = n := by simp [rngD]
  refine ⟨fun i H G' hi l1 l2 => w.goes i H (by omega) trivial, fun H G' l1 l2 => by rw [hl]; exact w.stops H trivial, fun i H G' x H' hi l1 l2 y => ?_⟩
  obtain ⟨e1, e2⟩ := w.yields i H x H' (by omega) trivial y
  subst e1
  subst e2
  exact ⟨.int (lo + i), G', by simp [rngD, show i < n by omega], .refl l2, .int _⟩
end
def iSq (δ : DE) : DI := fun x ρ n q => δ x ρ n fun d n1 => opt (seqD d) fun ds => q ds n1
def iR1 (a : DA) : DI := fun x ρ n q => a x ρ n fun ds n1 => match ds with
  | [.int j] => (-(2 ^ 62) ≤ j ∧ j < 2 ^ 62) ∧ q (rngD 0 j.toNat) n1
  | _ => False
def iR2 (a : DA) : DI := fun x ρ n q => a x ρ n fun ds n1 => match ds with
  | [.int i, .int j] => (-(2 ^ 62) ≤ i ∧ i < 2 ^ 62 ∧ -(2 ^ 62) ≤ j ∧ j < 2 ^ 62) ∧ q (rngD i (j - i).toNat) n1
  | _ => False
def iR3 (a : DA) : DI := fun x ρ n q => a x ρ n fun ds n1 => match ds with
  | [.int i, .int j, .int c] => c = -1 ∧ (-(2 ^ 62) ≤ i ∧ i < 2 ^ 62 ∧ -(2 ^ 62) ≤ j ∧ j < 2 ^ 62) ∧ q (rngC i (-1) (i - j).toNat) n1
  | _ => False
section
variable {X : Cx} {W : WX} {tg e a b c : Expr} {δ : DE} {α' : DA} {p pos : Pos}
theorem pid_seq (h : PD X W e δ) : PID X W tg e (iSq δ) := by
  obtain ⟨t, pe, h⟩ := h
  refine ⟨_, pi_seq pe, fun B σ H ρ n G α R x q hK RB hx hd k => ?_⟩
  refine h B σ H ρ n G α _ x _ hK RB hx hd fun v H1 G1 d n1 s1 j1 r1 h1 => ?_
  obtain ⟨ds, e1, h1⟩ := opt_some h1
  cases r1 with
  | lst e r =>
    cases e1
    exact ⟨_, rfl, .inl ⟨⟨_, SqL.of (s1.hh.get e)⟩, k _ H1 G1 ds n1 s1 j1 (walkD_list e r) h1⟩⟩
  | tup e r =>
    cases e1
    exact ⟨_, rfl, .inr ⟨⟨_, s1.hh.sqT e⟩, k _ H1 G1 ds n1 s1 j1 (walkD_tup e r) h1⟩⟩
  | rol e r =>
    cases e1
    exact ⟨_, rfl, .inl ⟨⟨_, .inl (.inr ⟨_, s1.hh.get e⟩)⟩, k _ H1 G1 ds n1 s1 j1 (walkD_rol e r) h1⟩⟩
  | _ => exact nomatch e1
theorem pid_r1 (hg : Gl X "range") (hm : X.mg "range" = none) (ha : PAB X W [a] α') (hs : starEach [a] X.env = [(false, eval a X.env)] := by rfl) : PID X W tg (.Call (.Name "range" p) [a] [] pos) (iR1 α') := by
  obtain ⟨t, pa, h⟩ := ha
  refine ⟨_, pi_range1 hg hm pa hs, fun B σ H ρ n G α R x q hK RB hx hd k => ?_⟩
  refine h B σ H ρ n G α _ x _ hK RB hx hd fun vs H1 G1 ds n1 s1 j1 r1 h1 => ?_
  split at h1
  · rename_i j
    obtain ⟨v, rfl, r⟩ := r1.one
    exact ⟨j, by rw [r.int], h1.1.1, h1.1.2, k _ H1 G1 _ n1 s1 j1 (walkD_range 0 j.toNat) h1.2⟩
  · exact h1.elim
end
end DL

end

section
set_option autoImplicit false
namespace DL
open PySem PySem.Spec L2

abbrev DF := Wd → List D → Nat → DQ → (Xn → Nat → Prop) → Prop
def spW (K : PySem.W.Frag) (m : Nat) (F : DF) : Sp := fun vs H Q E => ∃ (W : Wd) (n : Nat) (G : Hp) (ds : List D) (q : DQ) (x : Xn → Nat → Prop), Le G H ∧ (∀ a, W.rg a → G a = none) ∧ W.J n H ∧ RepL K G ds vs ∧ ds.length = m ∧ F W ds n q x ∧
  (∀ v H' G' d n', Step W H G H' G' → W.J n' H' → Rep K G' d v → q d n' → Q v H') ∧
  (∀ c dd H' G' e n', Step W H G H' G' → W.J n' H' → XRep K W H G' H' e c dd → x e n' → E c dd H')
abbrev DFI := Wd → List D → Nat → (List (Str × D) → Nat → Prop) → (Xn → Nat → Prop) → Prop
def but (H : Hp) (x : Addr) : Hp := fun a => if a = x then none else H a
theorem but_ne {H : Hp} {x a : Addr} (h : a ≠ x) : but H x a = H a := if_neg h
theorem but_same {H : Hp} {x : Addr} : but H x x = none := if_pos rfl
def spI (K : PySem.W.Frag) (c : Str) (m : Nat) (F : DFI) : Sp := fun vs H Q E => ∃ (W : Wd) (n : Nat) (G : Hp) (x dx : Addr) (us : List V) (ds : List D) (q : List (Str × D) → Nat → Prop) (xx : Xn → Nat → Prop),
  vs = .ref x :: us ∧ H x = some (.ins (ca K c) dx []) ∧ G x = none ∧ ¬ W.rg x ∧ Le G H ∧ (∀ a, W.rg a → G a = none) ∧ W.J n H ∧ RepL K G ds us ∧ ds.length + 1 = m ∧ F W ds n q xx ∧
  (∀ H' G' fs ws dy n', Step W (but H x) G H' G' → W.J n' H' → G' x = none → H' x = some (.ins (ca K c) dy ws) → RepF K G' fs ws → q fs n' → Q .non H') ∧
  (∀ cc dd H' G' e n', Step W (but H x) G H' G' → W.J n' H' → XRep K W (but H x) G' H' e cc dd → xx e n' → E cc dd H')

section
variable {X : Cx} {CX : CXT} {k : Nat} {f C : Addr} {fd : FuncData} {ps : List Str} {sp : Sp} {dvs : List V} {ds : List Value} {E : St → XK} {x m : Str} {p pos apos : Pos} {e o : Expr} {es : List Expr} {ta : TE} {t : TA}
def tMethSD (C : Addr) (m : Str) (sp : Sp) (dvs : List V) (E : St → XK) (ta : TE) (t : TA) : TE := fun σ H Q => ta σ H fun x H1 => ∃ a dx fs, x = .ref a ∧ H1 a = some (.ins C dx fs) ∧ fs.lookup m = none ∧
  t σ H1 fun vs H2 => sp (x :: (vs ++ dvs)) H2 Q (E σ)
theorem pe_methSD {pl : Sem Bool} (he : PE X o ta) (c : Cls X.K C) (hm : Meth X.K C m f) (F : FnOk X.prog X.w X.K X.mg X.base CX k f fd ps sp) (hr : Room k X.A) (hb : Binds X.K fd ps ds) (hd : Vals dvs ds) (hx : ∀ σ, PassesAt CX X σ (E σ)) (ha : PA X (e :: es) t)
    (hst : starEach (e :: es) X.env = (false, eval e X.env) :: starEach es X.env := by rfl) (hpl : (backTo pos (starEach es X.env)).any (·.1) = false := by rfl)
    (ht : eval (.Call (.Attribute o m apos) (e :: es) [] pos) X.env = (do
      let ov ← eval o X.env
      standAt apos.atName
      let (f, first) ← holding [ov] (getMethod ov m pl)
      callWith pos f first (backTo pos (starEach (e :: es) X.env)) (backToKw pos (keywordEach [] X.env))) := by rfl) :
    PE X (.Call (.Attribute o m apos) (e :: es) [] pos) (tMethSD C m sp dvs E ta t) := by
  refine ⟨fun pins s σ H Q I h => ?_⟩
  refine PySem.W.methodCall_KW (pl := pl) (thn (he.run pins s σ H _ I h) fun u s1 ⟨x, H1, I1, rx, a, dx, fs, ex, ea, l, q⟩ => ?_) ht
  subst ex
  obtain rfl : u = Value.ref a := rx
  refine getmeth_ok I1 ea c hm l ?_
  refine PySem.W.callWith_K (first := [.ref a]) (h₀ := X.base) I.ok.mod.kin hm.kp (thn (ha.run pos pins s1 σ H1 _ I1 q) fun us s2 ⟨vs, H2, I2, r, q2⟩ => ⟨I2.kIn, ?_⟩) hst hpl
  exact run_fnSD (us := .ref a :: us) (vs := .ref a :: vs) F hr hb hd (hx σ) I2 (.cons rfl r) q2
theorem pe_methSD0 {pl : Sem Bool} (he : PE X o ta) (c : Cls X.K C) (hm : Meth X.K C m f) (F : FnOk X.prog X.w X.K X.mg X.base CX k f fd ps sp) (hr : Room k X.A) (hb : Binds X.K fd ps ds) (hd : Vals dvs ds) (hx : ∀ σ, PassesAt CX X σ (E σ))
    (ht : eval (.Call (.Attribute o m apos) [] [] pos) X.env = (do
      let ov ← eval o X.env
      standAt apos.atName
      let (f, first) ← holding [ov] (getMethod ov m pl)
      callWith pos f first (backTo pos (starEach [] X.env)) (backToKw pos (keywordEach [] X.env))) := by rfl) :
    PE X (.Call (.Attribute o m apos) [] [] pos) (tMethSD C m sp dvs E ta tNil) := by
  refine ⟨fun pins s σ H Q I h => ?_⟩
  refine PySem.W.methodCall_KW (pl := pl) (thn (he.run pins s σ H _ I h) fun u s1 ⟨x, H1, I1, rx, a, dx, fs, ex, ea, l, q⟩ => ?_) ht
  subst ex
  obtain rfl : u = Value.ref a := rx
  refine getmeth_ok I1 ea c hm l ?_
  exact PySem.W.callWith_K0 (first := [.ref a]) I1.kIn hm.kp (run_fnSD (us := [.ref a]) (vs := [.ref a]) F hr hb hd (hx σ) I1 (.cons rfl .nil) q)
def tMakeSD (C : Addr) (sp : Sp) (dvs : List V) (E : St → XK) (t : TA) : TE := fun σ H Q => t σ H fun vs H1 => ∀ x dx, H1 x = none → H1 dx = none → dx ≠ x →
  sp (.ref x :: (vs ++ dvs)) (upd (upd H1 dx (.own x)) x (.ins C dx [])) (fun v H2 => v = .non ∧ Q (.ref x) H2) (E σ)
theorem run_makeSD {pins : List (Addr × Obj)} {σ : St} {H : Hp} {s : Shared} {Q : VK} {us : List Value} {vs : List V} (M : Mk X.K C f) (F : FnOk X.prog X.w X.K X.mg X.base CX k f fd ps sp) (hr : Room (k + 1) X.A) (hb : Binds X.K fd ps ds) (hd : Vals dvs ds)
    (hx : PassesAt CX X σ (E σ)) (I : Inv X pins σ H s) (r : Vals vs us)
    (h : ∀ x dx, H x = none → H dx = none → dx ≠ x → sp (.ref x :: (vs ++ dvs)) (upd (upd H dx (.own x)) x (.ins C dx [])) (fun v H2 => v = .non ∧ Q (.ref x) H2) (E σ)) :
    wpAny (model X.prog X.w) X.A (call (.ref C) us) (EP X pins σ Q) X.xe s := by
  have hq := h (s.heap.objs.size + 1) s.heap.objs.size (I.hok.fresh (Nat.le_succ _)) (I.hok.fresh (Nat.le_refl _)) (Nat.ne_of_lt (Nat.lt_succ_self _))
  have I2 := Inv.made (C := C) I
  have r2 : Vals (V.ref (s.heap.objs.size + 1) :: (vs ++ dvs)) (Value.ref (s.heap.objs.size + 1) :: (us ++ ds)) := .cons rfl (r.append hd)
  have hl : (Value.ref (s.heap.objs.size + 1) :: us ++ ds).length = ps.length := by
    have e := r2.length
    rw [F.len _ _ _ _ hq] at e
    exact e.symm
  refine wpAny_call (make_map (f := f) I.kIn M.makes M.init (beq_iff_eq.mp M.fn) (codeAny_mono (F.run _ X.stack _ _ ⟨Value.ref (s.heap.objs.size + 1) :: us, []⟩ (Value.ref (s.heap.objs.size + 1) :: (us ++ ds)) _ _ (E σ) (hr.make C us [])
    (I2.env0.make C us []) (hb _ (Value.ref (s.heap.objs.size + 1) :: us) I2.kIn hl) r2 hq) fun r s' hq' => ?_))
  cases r with
  | error e => exact hx pins _ _ e s' I2 hq'
  | ok fl =>
    cases fl with
    | ret u =>
      obtain ⟨v, H', I3, rv, ev, q3⟩ := I2.after hq'
      subst ev
      exact ⟨rv, ⟨V.ref (s.heap.objs.size + 1), H', I3, rfl, q3⟩⟩
    | next => exact False.elim hq'
    | brk => exact False.elim hq'
    | cont => exact False.elim hq'
theorem pe_makeSD (M : Mk X.K C f) (F : FnOk X.prog X.w X.K X.mg X.base CX k f fd ps sp) (hr : Room (k + 1) X.A) (hg : Gl X x) (hm : X.mg x = some (.ref C)) (hb : Binds X.K fd ps ds) (hd : Vals dvs ds) (hx : ∀ σ, PassesAt CX X σ (E σ))
    (ha : PA X (e :: es) t) (hdb : (x == ("__debug__" : Str)) = false := by decide) (he : starEach (e :: es) X.env = (false, eval e X.env) :: starEach es X.env := by rfl) (hpl : (backTo pos (starEach es X.env)).any (·.1) = false := by rfl) :
    PE X (.Call (.Name x p) (e :: es) [] pos) (tMakeSD C sp dvs E t) := by
  refine ⟨fun pins s σ H Q I h => ?_⟩
  refine wpAny_Call_Name_kw (ld_glob I hg hm ?_ hdb)
  refine PySem.W.callWith_K (h₀ := X.base) I.ok.mod.kin M.kp (thn (ha.run pos pins s σ H _ I h) fun us s1 ⟨vs, H1, I1, r, q⟩ => ⟨I1.kIn, ?_⟩) he hpl
  exact run_makeSD M F hr hb hd (hx σ) I1 r q
end

structure Sg (P : Program) (w : World) (K : PySem.W.Frag) (mg : Str → Option Value) (base : Heap) (x : Str) (k m : Nat) (F : DF) (dvd : List D) : Prop where
  ex : ∃ (f : Addr) (fd : FuncData) (ps : List Str) (ds : List Value) (dvs : List V), FnOk P w K mg base (L2.CX P w) k f fd ps (spW K m F) ∧ mg x = some (.ref f) ∧ PySem.W.keepIn K (.ref f) = true ∧ Binds K fd ps ds ∧ Vals dvs ds ∧ ∀ G, RepL K G dvd dvs
structure Mg (P : Program) (w : World) (K : PySem.W.Frag) (mg : Str → Option Value) (base : Heap) (c x : Str) (k m : Nat) (F : DF) (dvd : List D) : Prop where
  cl : Cls K (ca K c)
  ex : ∃ (f : Addr) (fd : FuncData) (ps : List Str) (ds : List Value) (dvs : List V), FnOk P w K mg base (L2.CX P w) k f fd ps (spW K m F) ∧ Meth K (ca K c) x f ∧ Binds K fd ps ds ∧ Vals dvs ds ∧ ∀ G, RepL K G dvd dvs
structure Ig (P : Program) (w : World) (K : PySem.W.Frag) (mg : Str → Option Value) (base : Heap) (c : Str) (k m : Nat) (F : DFI) (dvd : List D) : Prop where
  gl : mg c = some (.ref (ca K c))
  ex : ∃ (f : Addr) (fd : FuncData) (ps : List Str) (ds : List Value) (dvs : List V), FnOk P w K mg base (L2.CX P w) k f fd ps (spI K c m F) ∧ Mk K (ca K c) f ∧ Binds K fd ps ds ∧ Vals dvs ds ∧ ∀ G, RepL K G dvd dvs
def dCall (m : Nat) (F : DF) (dvd : List D) (a : DA) : DE := fun x ρ n q => a x ρ n fun ds n1 => (ds ++ dvd).length = m ∧ F x.w (ds ++ dvd) n1 q x.ex
def dMeth (c y : Str) (m : Nat) (F : DF) (dvd : List D) (δ : DE) (a : DA) : DE := fun x ρ n q => δ x ρ n fun d n1 => match d with
  | .obj c' fs => c' = c ∧ fs.lookup y = none ∧ a x ρ n1 fun ds n2 => (ds ++ dvd).length + 1 = m ∧ F x.w (.obj c' fs :: (ds ++ dvd)) n2 q x.ex
  | _ => False
def dMake (c : Str) (m : Nat) (F : DFI) (dvd : List D) (a : DA) : DE := fun x ρ n q => a x ρ n fun ds n1 => (ds ++ dvd).length + 1 = m ∧ F x.w (ds ++ dvd) n1 (fun fs n2 => q (.obj c fs) n2) x.ex
section
variable {X : Cx} {W : WX} {k m : Nat} {F : DF} {FI : DFI} {dvd : List D} {x c y : Str} {p pos apos : Pos} {e o : Expr} {es : List Expr} {a : DA} {δ : DE}
theorem ed_call {K : PySem.W.Frag} {dvs : List V} {t : TA} (hd : ∀ G, RepL K G dvd dvs) (ha : EA K W t a) : ED K W (tCallSD (spW K m F) dvs (WE W) t) (dCall m F dvd a) := by
  intro B σ H ρ n G α Q x q hK R hx h k
  refine ha B σ H ρ n G α _ x _ hK R hx h fun vs H1 G1 ds n1 s1 j1 r1 h1 => ?_
  have R1 := R.step s1 j1
  have hx1 := hx.step s1
  obtain ⟨hl, h1⟩ := h1
  rw [hx.1] at h1
  exact ⟨B.W, n1, G1, ds ++ dvd, q, x.ex, s1.hh, R1.rg, j1, r1.append (hd G1), hl, h1, fun v H' G' d n' s j r hq => k v H' G' d n' (s1.trans s) j r hq, fun cc dd H' G' e n' s j r hq => hx1.2 cc dd H' G' e n' s j (hK ▸ r) hq⟩
theorem pd_call (S : Sg X.prog X.w X.K X.mg X.base x k m F dvd) (hr : Room k X.A) (tk : Takes X W) (hg : Gl X x) (ha : PAD X W (e :: es) a) (hdb : (x == ("__debug__" : Str)) = false := by decide)
    (he : starEach (e :: es) X.env = (false, eval e X.env) :: starEach es X.env := by rfl) (hpl : (backTo pos (starEach es X.env)).any (·.1) = false := by rfl) : PD X W (.Call (.Name x p) (e :: es) [] pos) (dCall m F dvd a) := by
  obtain ⟨t, pa, ea⟩ := ha
  obtain ⟨f, fd, ps, ds, dvs, hF, hm, hk, hb, hd, hdv⟩ := S.ex
  exact ⟨_, pe_callSD hF hr hg hm hk hb hd (fun σ => passAt tk σ) pa hdb he hpl, ed_call hdv ea⟩
theorem ed_meth {K : PySem.W.Frag} {dvs : List V} {to : TE} {t : TA} (hd : ∀ G, RepL K G dvd dvs) (ho : ED K W to δ) (ha : EA K W t a) : ED K W (tMethSD (ca K c) y (spW K m F) dvs (WE W) to t) (dMeth c y m F dvd δ a) := by
  intro B σ H ρ n G α Q x q hK R hx h k
  refine ho B σ H ρ n G α _ x _ hK R hx h fun v0 H0 G0 d0 n0 s0 j0 r0 h0 => ?_
  cases d0 with
  | obj c' fs =>
    obtain ⟨ec, el, h0⟩ := h0
    subst ec
    cases r0 with
    | obj e r =>
      refine ⟨_, _, _, rfl, s0.hh.get e, r.lookupN el, ?_⟩
      have R0 := R.step s0 j0
      refine ha B σ H0 ρ n0 G0 α _ x _ hK R0 (hx.step s0) h0 fun vs H1 G1 ds n1 s1 j1 r1 h1 => ?_
      have R1 := R0.step s1 j1
      have hx1 := (hx.step s0).step s1
      obtain ⟨hl, h1⟩ := h1
      rw [hx.1] at h1
      exact ⟨B.W, n1, G1, _ :: (ds ++ dvd), q, x.ex, s1.hh, R1.rg, j1, .cons (.obj (s1.le.get e) (r.mono s1.le)) (r1.append (hd G1)), hl, h1, fun v H' G' d n' s j r hq => k v H' G' d n' ((s0.trans s1).trans s) j r hq, fun cc dd H' G' e n' s j r hq => hx1.2 cc dd H' G' e n' s j (hK ▸ r) hq⟩
  | _ => exact h0.elim
theorem pd_meth {pl : Sem Bool} (S : Mg X.prog X.w X.K X.mg X.base c y k m F dvd) (hr : Room k X.A) (tk : Takes X W) (ho : PD X W o δ) (ha : PAD X W (e :: es) a)
    (hst : starEach (e :: es) X.env = (false, eval e X.env) :: starEach es X.env := by rfl) (hpl : (backTo pos (starEach es X.env)).any (·.1) = false := by rfl)
    (ht : eval (.Call (.Attribute o y apos) (e :: es) [] pos) X.env = (do
      let ov ← eval o X.env
      standAt apos.atName
      let (f, first) ← holding [ov] (getMethod ov y pl)
      callWith pos f first (backTo pos (starEach (e :: es) X.env)) (backToKw pos (keywordEach [] X.env))) := by rfl) : PD X W (.Call (.Attribute o y apos) (e :: es) [] pos) (dMeth c y m F dvd δ a) := by
  obtain ⟨t, pa, ea⟩ := ha
  obtain ⟨to, po, eo⟩ := ho
  obtain ⟨f, fd, ps, ds, dvs, hF, hm, hb, hd, hdv⟩ := S.ex
  exact ⟨_, pe_methSD po S.cl hm hF hr hb hd (fun σ => passAt tk σ) pa hst hpl ht, ed_meth hdv eo ea⟩
theorem pd_meth0 {pl : Sem Bool} (S : Mg X.prog X.w X.K X.mg X.base c y k m F dvd) (hr : Room k X.A) (tk : Takes X W) (ho : PD X W o δ)
    (ht : eval (.Call (.Attribute o y apos) [] [] pos) X.env = (do
      let ov ← eval o X.env
      standAt apos.atName
      let (f, first) ← holding [ov] (getMethod ov y pl)
      callWith pos f first (backTo pos (starEach [] X.env)) (backToKw pos (keywordEach [] X.env))) := by rfl) : PD X W (.Call (.Attribute o y apos) [] [] pos) (dMeth c y m F dvd δ dNil) := by
  obtain ⟨to, po, eo⟩ := ho
  obtain ⟨f, fd, ps, ds, dvs, hF, hm, hb, hd, hdv⟩ := S.ex
  refine ⟨_, pe_methSD0 po S.cl hm hF hr hb hd (fun σ => passAt tk σ) ht, ed_meth hdv eo ?_⟩
  exact fun B σ H ρ n G α Q x q hK R hx hd k => k [] H G [] n (.refl _ R.le) R.J .nil hd
theorem ed_make {K : PySem.W.Frag} {dvs : List V} {t : TA} (hd : ∀ G, RepL K G dvd dvs) (ha : EA K W t a) : ED K W (tMakeSD (ca K c) (spI K c m FI) dvs (WE W) t) (dMake c m FI dvd a) := by
  intro B σ H ρ n G α Q x q hK R hx h k
  refine ha B σ H ρ n G α _ x _ hK R hx h fun vs H1 G1 ds n1 s1 j1 r1 h1 => ?_
  have R1 := R.step s1 j1
  have hx1 := hx.step s1
  obtain ⟨hl, h1⟩ := h1
  rw [hx.1] at h1
  intro y dx ny ndx nxy
  have nr : ¬ B.W.rg y := fun r => B.W.there n1 H1 y j1 r ny
  have nrd : ¬ B.W.rg dx := fun r => B.W.there n1 H1 dx j1 r ndx
  have gy : G1 y = none := by
    cases q : G1 y with
    | none => rfl
    | some u => have := s1.hh.get q; rw [ny] at this; cases this
  have le2 : Le G1 (upd (upd H1 dx (.own y)) y (.ins (ca K c) dx [])) := .of_same fun a o e => by
    have := s1.hh.get e
    rw [upd_ne (ne_of_none this ny), upd_ne (ne_of_none this ndx)]
    exact this
  have j2 : B.W.J n1 (upd (upd H1 dx (.own y)) y (.ins (ca K c) dx [])) := B.W.stable _ _ _ (fun a r => by
    rw [upd_ne (fun z : a = y => nr (z ▸ r)), upd_ne (fun z : a = dx => nrd (z ▸ r))]) (fun a e q => by rw [upd_ne (ne_of_none q ny), upd_ne (ne_of_none q ndx)]; exact q) j1
  have old : ∀ b o, H1 b = some o → but (upd (upd H1 dx (.own y)) y (.ins (ca K c) dx [])) y b = some o := fun b o e => by
    rw [but_ne (ne_of_none e ny), upd_ne (ne_of_none e ny), upd_ne (ne_of_none e ndx)]
    exact e
  have stp : ∀ {H' G' : Hp}, Step B.W (but (upd (upd H1 dx (.own y)) y (.ins (ca K c) dx [])) y) G1 H' G' → Step B.W H1 G1 H' G' := fun {H' G'} s => by
    refine ⟨fun a o e r => s.fr a o (old a o e) r, s.le, s.hh, fun a e => ?_⟩
    rcases s.new a e with z | ⟨z, r⟩
    · exact .inl z
    · refine .inr ⟨?_, r⟩
      cases q : H1 a with
      | none => rfl
      | some o => rw [old a o q] at z; cases z
  refine ⟨B.W, n1, G1, y, dx, vs ++ dvs, ds ++ dvd, _, x.ex, rfl, upd_same, gy, nr, le2, R1.rg, j2, r1.append (hd G1), hl, h1, fun H' G' fs ws dy n' s j gy' hy rf hq => ⟨rfl, ?_⟩, fun cc dd H' G' e n' s j r hq => hx1.2 cc dd H' G' e n' (stp s) j (hK ▸ XRep.backF r fun a o e _ => old a o e) hq⟩
  have s' := stp s
  obtain ⟨ob, e, l1, l2, r⟩ := DL.freezeL (K := K) (d := .obj c fs) s'.hh gy' ⟨dy, ws, hy, rf⟩ (fun _ z => nomatch z)
  refine k _ H' (upd G' y ob) _ n' ⟨(s1.trans s').fr, (s1.trans s').le.trans l2, l1, fun b z => ?_⟩ j r hq
  by_cases q : b = y
  · subst q
    refine .inr ⟨?_, nr⟩
    cases q : H b with
    | none => rfl
    | some o => have := s1.fr b o q nr; rw [ny] at this; cases this
  · rw [upd_ne q] at z
    exact (s1.trans s').new b z
theorem pd_make (S : Ig X.prog X.w X.K X.mg X.base c k m FI dvd) (hr : Room (k + 1) X.A) (tk : Takes X W) (hg : Gl X c) (ha : PAD X W (e :: es) a) (hdb : (c == ("__debug__" : Str)) = false := by decide)
    (he : starEach (e :: es) X.env = (false, eval e X.env) :: starEach es X.env := by rfl) (hpl : (backTo pos (starEach es X.env)).any (·.1) = false := by rfl) : PD X W (.Call (.Name c p) (e :: es) [] pos) (dMake c m FI dvd a) := by
  obtain ⟨t, pa, ea⟩ := ha
  obtain ⟨f, fd, ps, ds, dvs, hF, hm, hb, hd, hdv⟩ := S.ex
  exact ⟨_, pe_makeSD hm hF hr hg S.gl hb hd (fun σ => passAt tk σ) pa hdb he hpl, ed_make hdv ea⟩
end

def startD (N : List Str) (ds : List D) : Env := ds.map (fun d => some (.val d)) ++ List.replicate (N.length - ds.length) none
theorem startD_val {N : List Str} {ds : List D} {i : Nat} {d : D} (h : (startD N ds)[i]? = some (some (.val d))) : ds[i]? = some d := by
  unfold startD at h
  rw [List.getElem?_append] at h
  split at h
  · rw [List.getElem?_map] at h
    cases e : ds[i]? with
    | none => rw [e] at h; cases h
    | some d' => rw [e] at h; simp at h; rw [h]
  · rw [List.getElem?_replicate] at h
    split at h <;> simp at h
theorem startD_own {N : List Str} {ds : List D} {i : Nat} {d : D} (h : (startD N ds)[i]? = some (some (.own d))) : False := by
  unfold startD at h
  rw [List.getElem?_append] at h
  split at h
  · rw [List.getElem?_map] at h
    cases e : ds[i]? with
    | none => rw [e] at h; cases h
    | some d' => rw [e] at h; simp at h
  · rw [List.getElem?_replicate] at h
    split at h <;> simp at h
theorem startD_gst {N : List Str} {ds : List D} {i : Nat} {r : D} {gs : List (Addr × D)} (h : (startD N ds)[i]? = some (some (.gst r gs))) : False := by
  unfold startD at h
  rw [List.getElem?_append] at h
  split at h
  · rw [List.getElem?_map] at h
    cases e : ds[i]? with
    | none => rw [e] at h; cases h
    | some d' => rw [e] at h; simp at h
  · rw [List.getElem?_replicate] at h
    split at h <;> simp at h
theorem start_get {N : List Str} {vs : List V} {i : Nat} {v : V} (h : vs[i]? = some v) : (start N vs)[i]? = some (some v) := by
  unfold L2.start
  have hl : i < vs.length := (List.getElem?_eq_some_iff.mp h).1
  rw [List.getElem?_append_left (by simpa using hl), List.getElem?_map, h]
  rfl
theorem RelB.start {W : Wd} {K : PySem.W.Frag} {H G : Hp} {n : Nat} {N : List Str} {vs : List V} {ds : List D} (le : Le G H) (rg : ∀ a, W.rg a → G a = none) (j : W.J n H) (r : RepL K G ds vs) : RelB ⟨W, K, H, G, none⟩ (L2.start N vs) H (startD N ds) n G (fun _ => 0) := by
  refine ⟨.refl W le, rg, j, ?_, fun i d h => ?_, fun i d h => (startD_own h).elim, fun i j d e h _ => (startD_own h).elim, fun a d h h' => (startD_own h').elim, .nil fun i r gs e => startD_gst e⟩
  · unfold L2.start startD
    rw [List.length_append, List.length_append, List.length_map, List.length_map, List.length_replicate, List.length_replicate, r.length]
  · obtain ⟨v, h1, h2⟩ := r.get (startD_val h)
    exact ⟨v, start_get h1, h2⟩
def endsD (W : Wd) (q : DQ) (x : Xn → Nat → Prop) : DEnds := ⟨fun _ n => q .non n, q, fun _ _ => False, fun _ _ => False, fun e _ n => x e n, W, fun _ _ => False⟩
theorem ok_def {P : Program} {w : World} {K : PySem.W.Frag} {mg : Str → Option Value} {base : Heap} {x qual : Str} {params : Arguments} {body : List Stmt} {scope : Scope} {dvs : List V} {kws : List (Str × V)} {f : Addr} {fd : FuncData} {N ps : List Str} {k m : Nat} {F : DF}
    (FD : FunD K x qual params body scope dvs kws f fd) (S : FnScope N ps scope) (hm : ps.length = m)
    (hb : ∀ (X : Cx) (E : XK) (W : Wd) (ds : List D) (n : Nat) (q : DQ) (xx : Xn → Nat → Prop), (∃ cdv A outer s H, X = cxOf (L2.CX P w) P w K mg base N qual scope f cdv A outer s H E) → Room k X.A → Takes X (fun c d _ H => E c d H) → PassesOwn (model X.prog X.w) X.A X.env X.xe → ds.length = m → F W ds n q xx →
      ∃ δ, PSsD X (fun c d _ H => E c d H) body δ ∧ δ (endsD W q xx) (startD N ds) n) : FnOk P w K mg base (L2.CX P w) (k + 1) f fd ps (spW K m F) := by
  refine FD.ok S (fun vs H Q E h => ?_) (fun cdv A outer s H vs Q E hr h => ?_)
  · obtain ⟨W, n, G, ds, q, x, _, _, _, r, hl, _⟩ := h
    rw [← r.length, hl, hm]
  · obtain ⟨W, n, G, ds, q, xx, le, rg, j, r, hl, hF, kq, kx⟩ := h
    obtain ⟨δ, ⟨t, p, e⟩, hδ⟩ := hb (cxOf (L2.CX P w) P w K mg base N qual scope f cdv A outer s H E) E W ds n q xx ⟨cdv, A, outer, s, H, rfl⟩ hr (takes_of rfl rfl rfl rfl) (passes_of rfl) hl hF
    refine ⟨t, p, ?_⟩
    refine e ⟨W, K, H, G, none⟩ (L2.start N vs) H (startD N ds) n G _ _ _ rfl (RelB.start le rg j r) ?_ hδ
    exact ⟨fun σ H' ρ n' G' α R hq => kq _ H' G' .non n' R.st R.J .non hq, fun v H' d n' G' s j r hq => kq v H' G' d n' s j r hq, fun _ _ _ _ _ _ _ h => h.elim, fun _ _ _ _ _ _ _ h => h.elim, fun c dd σ H' ρ n' G' α e R r hq => kx c dd H' G' e n' R.st R.J r hq, rfl, fun _ _ _ _ _ _ _ _ h => h.elim⟩
def startI (c : Str) (N : List Str) (ds : List D) : Env := some (.own (.obj c [])) :: (ds.map (fun d => some (.val d)) ++ List.replicate (N.length - (ds.length + 1)) none)
def qI (c : Str) (q : List (Str × D) → Nat → Prop) (ρ : DL.Env) (n : Nat) : Prop := match ρ[0]? with
  | some (some (Sl.own (.obj c' fs))) => c' = c ∧ q fs n
  | _ => False
def endsI (W : Wd) (c : Str) (q : List (Str × D) → Nat → Prop) (x : Xn → Nat → Prop) : DEnds := ⟨qI c q, fun _ _ => False, fun _ _ => False, fun _ _ => False, fun e _ n => x e n, W, fun _ _ => False⟩
theorem RelB.startI {W : Wd} {K : PySem.W.Frag} {H G : Hp} {n : Nat} {c : Str} {N : List Str} {us : List V} {ds : List D} {x dx : Addr} (hx : H x = some (.ins (ca K c) dx [])) (gx : G x = none) (nr : ¬ W.rg x) (le : Le G H) (rg : ∀ a, W.rg a → G a = none) (j : W.J n H) (r : RepL K G ds us) :
    RelB ⟨W, K, but H x, G, some x⟩ (L2.start N (.ref x :: us)) H (DL.startI c N ds) n G (fun _ => x) := by
  have s0 : ∀ i, (DL.startI c N ds)[i + 1]? = (startD (List.replicate (N.length - 1) Str.empty) ds)[i]? := fun i => by
    unfold DL.startI startD
    rw [List.getElem?_cons_succ, List.length_replicate, show N.length - (ds.length + 1) = N.length - 1 - ds.length by omega]
  refine ⟨⟨fun a o e _ => ?_, Le.refl G, le, fun a e => .inl e⟩, rg, j, ?_, fun i d h => ?_, fun i d h => ?_, fun i j d e h h' _ => ?_, fun a d h _ => Option.some.inj h, .nil fun i r gs e => ?_⟩
  · have e : but H x a = some o := e
    by_cases z : a = x
    · rw [z, but_same] at e; cases e
    · rwa [but_ne z] at e
  · unfold L2.start DL.startI
    simp only [List.length_append, List.length_cons, List.length_map, List.length_replicate, ← r.length]
    omega
  · cases i with
    | zero => simp [DL.startI] at h
    | succ i =>
      rw [s0] at h
      obtain ⟨v, h1, h2⟩ := r.get (startD_val h)
      exact ⟨v, start_get (by rw [List.getElem?_cons_succ]; exact h1), h2⟩
  · cases i with
    | zero =>
      have e : d = .obj c [] := by simp [DL.startI] at h; exact h.symm
      subst e
      exact ⟨start_get rfl, gx, but_same, nr, dx, [], hx, .nil⟩
    | succ i =>
      rw [s0] at h
      exact (startD_own h).elim
  · cases i with
    | zero =>
      cases j with
      | zero => rfl
      | succ j => rw [s0] at h'; exact (startD_own h').elim
    | succ i => rw [s0] at h; exact (startD_own h).elim
  · cases i with
    | zero => simp [DL.startI] at e
    | succ i => rw [s0] at e; exact (startD_gst e).elim
theorem ok_init {P : Program} {w : World} {K : PySem.W.Frag} {mg : Str → Option Value} {base : Heap} {x qual c : Str} {params : Arguments} {body : List Stmt} {scope : Scope} {dvs : List V} {kws : List (Str × V)} {f : Addr} {fd : FuncData} {N ps : List Str} {k m : Nat} {F : DFI}
    (FD : FunD K x qual params body scope dvs kws f fd) (S : FnScope N ps scope) (hm : ps.length = m)
    (hb : ∀ (X : Cx) (E : XK) (W : Wd) (ds : List D) (n : Nat) (q : List (Str × D) → Nat → Prop) (xx : Xn → Nat → Prop), (∃ cdv A outer s H, X = cxOf (L2.CX P w) P w K mg base N qual scope f cdv A outer s H E) → Room k X.A → Takes X (fun c d _ H => E c d H) → PassesOwn (model X.prog X.w) X.A X.env X.xe → ds.length + 1 = m → F W ds n q xx →
      ∃ δ, PSsD X (fun c d _ H => E c d H) body δ ∧ δ (endsI W c q xx) (startI c N ds) n) : FnOk P w K mg base (L2.CX P w) (k + 1) f fd ps (spI K c m F) := by
  refine FD.ok S (fun vs H Q E h => ?_) (fun cdv A outer s H vs Q E hr h => ?_)
  · obtain ⟨W, n, G, x, dx, us, ds, q, xx, rfl, _, _, _, _, _, _, r, hl, _⟩ := h
    rw [List.length_cons, ← r.length, hl, hm]
  · obtain ⟨W, n, G, y, dx, us, ds, q, xx, rfl, hy, gy, nr, le, rg, j, r, hl, hF, kq, kx⟩ := h
    obtain ⟨δ, ⟨t, p, e⟩, hδ⟩ := hb (cxOf (L2.CX P w) P w K mg base N qual scope f cdv A outer s H E) E W ds n q xx ⟨cdv, A, outer, s, H, rfl⟩ hr (takes_of rfl rfl rfl rfl) (passes_of rfl) hl hF
    refine ⟨t, p, ?_⟩
    refine e ⟨W, K, but H y, G, some y⟩ (L2.start N (.ref y :: us)) H (startI c N ds) n G _ _ _ rfl (RelB.startI hy gy nr le rg j r) ?_ hδ
    refine ⟨fun σ H' ρ n' G' α R hq => ?_, fun v H' d n' G' s j r hq => hq.elim, fun _ _ _ _ _ _ _ h => h.elim, fun _ _ _ _ _ _ _ h => h.elim, fun c dd σ H' ρ n' G' α e R r hq => kx c dd H' G' e n' R.st R.J r hq, rfl, fun _ _ _ _ _ _ _ _ h => h.elim⟩
    have hq1 : qI c q ρ n' := hq
    unfold qI at hq1
    split at hq1
    · rename_i c' fs eo
      obtain ⟨ec, hq2⟩ := hq1
      subst ec
      have ea := R.p0 y _ rfl eo
      obtain ⟨_, g1, _, _, dx', ws, hH, rf⟩ := R.own 0 _ eo
      rw [ea] at g1 hH
      exact kq H' G' fs ws dx' n' R.st R.J g1 hH rf hq2
    · exact hq1.elim
end DL

end

section
set_option autoImplicit false
namespace DL
open PySem PySem.Spec L2

def dFld (cs : List Str) (f : Str) (δ : DE) : DE := fun x ρ n q => δ x ρ n fun d n1 => match d with
  | .obj c fs => c ∈ cs ∧ opt (fs.lookup f) fun v => q v n1
  | _ => False
section
variable {X : Cx} {W : WX} {a b c : Expr} {δ δa δb δc : DE} {pos p : Pos} {f x : Str}
theorem pd_fld (cs : List Str) (hc : ∀ c ∈ cs, Cls X.K (ca X.K c) ∧ NoAttr X.K (ca X.K c) f) (h : PB X W a δ) (hb : attributeBase a f X.env (eval a X.env) = eval a X.env := by rfl) : PD X W (.Attribute a f pos) (dFld cs f δ) := by
  obtain ⟨t, p, h⟩ := h
  refine ⟨_, pe_fld p hb, fun B σ H ρ n G α Q x q hK R hx hd k => ?_⟩
  refine h B σ H ρ n G α _ x _ hK R hx hd fun v H1 G1 d n1 s1 j1 r1 h1 => ?_
  cases d with
  | obj c fs =>
    obtain ⟨hm, h1⟩ := h1
    obtain ⟨d', e, h1⟩ := opt_some h1
    obtain ⟨a, dx, ws, e1, e2, rf⟩ := r1.obj s1.hh
    obtain ⟨u, l, r⟩ := rf.lookup e
    exact ⟨a, _, dx, ws, u, e1, e2, (hc c hm).1, (hc c hm).2, l, k u H1 G1 d' n1 s1 j1 r h1⟩
  | _ => exact h1.elim

theorem pd_globR {d : D} {r : Addr} (hg : Gl X x) (hm : X.mg x = some (.ref r)) (hr : ∀ G, Rep X.K G d (.ref r)) (hd : (x == ("__debug__" : Str)) = false := by decide) : PD X W (.Name x pos) (dC d) := pd_c (v := .ref r) (pe_glob hg hm rfl hd) hr

def dNeg (δ : DE) : DE := fun x ρ n q => δ x ρ n fun d n1 => match d with
  | .int i => q (.int (-i)) n1
  | _ => False
def dChain (p p' : Int → Int → Bool) (a b c : DE) : DE := fun x ρ n q => a x ρ n fun u n1 => b x ρ n1 fun v n2 => match u, v with
  | .int i, .int j => if p i j = true then c x ρ n2 fun w n3 => (match w with
      | .int l => q (.bl (p' j l)) n3
      | _ => False) else q (.bl false) n2
  | _, _ => False
abbrev iLe (i j : Int) : Bool := decide (i ≤ j)
abbrev iLt (i j : Int) : Bool := decide (i < j)
end

def truD : D → Option Bool
  | .non => some false
  | .bl b => some b
  | .int i => some (i != 0)
  | .lst ds => some (!ds.isEmpty)
  | .tup ds => some (!ds.isEmpty)
  | .dct kvs => some (!kvs.isEmpty)
  | _ => none
def dTru (δ : DE) : DT := fun x ρ n q => δ x ρ n fun d n1 => opt (truD d) fun b => q b n1
theorem RepL.isEmpty {K : PySem.W.Frag} {G : Hp} {ds : List D} {vs : List V} (r : RepL K G ds vs) : ds.isEmpty = vs.isEmpty := by
  cases r <;> rfl
theorem RepK.isEmpty {K : PySem.W.Frag} {G : Hp} {ds : List (Key × D)} {vs : List (Key × V)} (r : RepK K G ds vs) : ds.isEmpty = vs.isEmpty := by
  cases r <;> rfl
section
variable {X : Cx} {W : WX} {a b c e f : Expr} {lo hi : Option Expr} {δ δa δb δc : DE} {pos p p2 apos cpos : Pos} {x : Str}
abbrev DO := DX → Env → Nat → (Option Int → Nat → Prop) → Prop
def oNone : DO := fun _ _ n q => q none n
def oSome (δ : DE) : DO := fun x ρ n q => δ x ρ n fun d n1 => match d with
  | .int i => q (some i) n1
  | _ => False
def cutD (ds : List D) (lo hi : Option Int) : List D := (ds.drop (HT.sIx ds.length 0 lo)).take (HT.sIx ds.length ds.length hi - HT.sIx ds.length 0 lo)
theorem RepL.cut {K : PySem.W.Frag} {G : Hp} {ds : List D} {vs : List V} (r : RepL K G ds vs) (lo hi : Option Int) : RepL K G (cutD ds lo hi) (cutV vs lo hi) := by
  unfold cutD cutV
  rw [r.length]
  exact (r.drop _).take _
def dSl (δ : DE) (l h : DO) : DE := fun x ρ n q => δ x ρ n fun d n1 => l x ρ n1 fun lo n2 => h x ρ n2 fun hi n3 => match d with
  | .lst ds => q (.lst (cutD ds lo hi)) n3
  | _ => False
def dRev (δ : DE) : DE := fun x ρ n q => δ x ρ n fun d n1 => match d with
  | .lst ds => q (.lst ds.reverse) n1
  | _ => False
theorem RepL.reverse {K : PySem.W.Frag} {G : Hp} : ∀ {ds : List D} {vs : List V}, RepL K G ds vs → RepL K G ds.reverse vs.reverse
  | _, _, .nil => .nil
  | _, _, .cons r t => by
    rw [List.reverse_cons, List.reverse_cons]
    exact (RepL.reverse t).snoc r
def dGet2 (δ δk δx : DE) : DE := fun x ρ n q => δ x ρ n fun d n1 => match d with
  | .dct kvs => δk x ρ n1 fun k n2 => δx x ρ n2 fun z n3 => opt (keyD k) fun j => q ((getD kvs j).getD z) n3
  | _ => False
theorem pd_get2 (hu : X.A.units + 1 < cLine) (ho : PB X W a δa) (hk : PB X W e δb) (hx : PD X W f δc) (m : M2 X a "get" apos e f cpos := by exact ⟨rfl, rfl, rfl, rfl⟩) : PD X W (.Call (.Attribute a "get" apos) [e, f] [] cpos) (dGet2 δa δb δc) := by
  obtain ⟨ta, pa, ea⟩ := ho
  obtain ⟨tb, pb, eb⟩ := hk
  obtain ⟨tc, pc, ec⟩ := hx
  refine ⟨_, pe_dget2 hu pa pb pc m, fun B σ H ρ n G α Q x q hK R hx hd k => ?_⟩
  refine ea B σ H ρ n G α _ x _ hK R hx hd fun v1 H1 G1 d1 n1 s1 j1 r1 h1 => ?_
  have R1 := R.step s1 j1
  cases d1 with
  | dct kvs =>
    obtain ⟨p, ws, e1, hd, rk⟩ := r1.dct s1.hh
    refine ⟨p, e1, .inl ⟨ws, hd⟩, ?_⟩
    refine eb B σ H1 ρ n1 G1 α _ x _ hK R1 (hx.step s1) h1 fun v2 H2 G2 d2 n2 s2 j2 r2 h2 => ?_
    have R2 := R1.step s2 j2
    refine ec B σ H2 ρ n2 G2 α _ x _ hK R2 ((hx.step s1).step s2) h2 fun v3 H3 G3 d3 n3 s3 j3 r3 h3 => ?_
    obtain ⟨j, ej, h3⟩ := opt_some h3
    obtain ⟨p', ws', e1', hd', rk'⟩ := ((r1.step s2).step s3).dct s3.hh
    have ep : p' = p := by rw [e1] at e1'; injection e1' with e; exact e.symm
    subst ep
    refine ⟨valV ws' j, .inl ⟨ws', j, hd', keyD_rep ej (r2.step s3), rfl⟩, ?_⟩
    rcases rk'.val (k := j) with ⟨d', v', g1, g2, g3⟩ | ⟨g1, g2⟩
    · rw [g1] at h3
      rw [g2]
      exact k v' H3 G3 d' n3 (s1.trans (s2.trans s3)) j3 g3 h3
    · rw [g1] at h3
      rw [g2]
      exact k v3 H3 G3 d3 n3 (s1.trans (s2.trans s3)) j3 r3 h3
  | _ => exact h1.elim
def fDin (neg : Bool) : F2 := fun x y k => match keyD x, y with
  | some j, .dct kvs => k (.bl (if neg then !(getD kvs j).isSome else (getD kvs j).isSome))
  | _, _ => False
theorem RepK.isSome {K : PySem.W.Frag} {G : Hp} {kvs : List (Key × D)} {ws : List (Key × V)} (r : RepK K G kvs ws) (j : Key) : (valV ws j).isSome = (getD kvs j).isSome := by
  rcases r.val (k := j) with ⟨d', v', g1, g2, g3⟩ | ⟨g1, g2⟩
  · rw [g1, g2]; rfl
  · rw [g1, g2]; rfl
end
end DL

end

section
set_option autoImplicit false
namespace DL
open PySem PySem.Spec L2

inductive Ty where
  | b (n : String) | own (c : Str)
def Ty.val (K : PySem.W.Frag) : Ty → Value
  | .b n => .type n
  | .own c => .ref (ca K c)
def tyD : D → Option Ty
  | .non => some (.b "NoneType")
  | .bl _ => some (.b "bool")
  | .int _ => some (.b "int")
  | .str _ => some (.b "str")
  | .lst _ => some (.b "list")
  | .tup _ => some (.b "tuple")
  | .dct _ => some (.b "dict")
  | .obj c _ => some (.own c)
  | .hnd _ => none
  | .exc _ _ _ _ => none
  | .rol _ => some (.b "list")
structure TyF (K : PySem.W.Frag) (c : Str) : Prop where
  cl : Cls K (ca K c)
  ha : PySem.W.findIn K (.ref (ca K c)) "__class__" = some (some (.builtin "object.__class__"))
  hn : PySem.W.specialIn K (.builtin "object.__class__") "__get__" = some (some (.builtin "getset_descriptor.__get__"))
  htk : PySem.W.takesIn K (.builtin "object.__class__") = some true
  hm : PySem.W.mroIn K (ca K c) (.type "object") = some true
theorem sqT_tyX {K : PySem.W.Frag} {H : Hp} {a : Addr} {vs : List V} (h : SqT K H a vs) : TyX K H (.ref a) (.type "tuple") := by
  rcases h with (h | ⟨o, h⟩) | ⟨o, its, n, h, c, _⟩
  · exact .base (.tup h)
  · exact .fTuple h
  · exact .kTuple h c
theorem RepB.tyX {K : PySem.W.Frag} {W : Wd} {G H : Hp} {d : D} {v : V} {t : Ty} (le : Le G H) (r : RepB K W G H d v) (h : tyD d = some t) (hc : ∀ c, t = .own c → TyF K c) : TyX K H v (t.val K) := by
  cases d with
  | non => rw [r.non]; cases h; exact .base .non
  | bl b => rw [r.bl]; cases h; exact .base (.bl b)
  | int i => rw [r.int]; cases h; exact .base (.int i)
  | str i => rw [r.str]; cases h; exact .base (.str i)
  | lst ds =>
    obtain ⟨a, vs, e, h1, _⟩ := r.lst le
    cases h
    rw [e]
    exact .base (.lst h1)
  | tup ds =>
    obtain ⟨a, vs, e, h1, _⟩ := r.tup le
    cases h
    rw [e]
    exact sqT_tyX h1
  | dct kvs =>
    obtain ⟨a, ws, e, h1, _⟩ := r.dct le
    cases h
    rw [e]
    rcases h1 with h1 | ⟨o, h1⟩
    · exact .base (.dK h1)
    · exact .fDict h1
  | obj c fs =>
    obtain ⟨a, dx, ws, e, h1, _⟩ := r.obj le
    cases h
    rw [e]
    have f := hc c rfl
    exact .base (.ins h1 f.cl f.ha f.hn f.htk f.hm)
  | hnd a => exact nomatch h
  | exc _ _ _ _ => exact nomatch h
  | rol ds =>
    cases h
    rcases r with r | ⟨a, e, _, _, o⟩
    · cases r with
      | rol e r => exact .base (.frz (le.get e))
    · exact o.elim
def isD (CS : List Str) (f : Ty → Bool) (δ : DE) : DE := fun x ρ n q => δ x ρ n fun d n1 => opt (tyD d) fun t => (∀ c, t = .own c → c ∈ CS) ∧ q (.bl (f t)) n1
section
variable {X : Cx} {W : WX} {a T : Expr} {δ : DE} {p pos pT : Pos} {x : Str}
theorem ed_isi {K : PySem.W.Frag} {ta tT : TE} {CS : List Str} {f : Ty → Bool} {cv : V} {u : Value} (hc : ∀ c ∈ CS, TyF K c) (ha : EB K W ta δ) (hT : ∀ σ H Q, Q cv H → tT σ H Q) (k : ClsV cv u) (hf : ∀ d t, tyD d = some t → (∀ c, t = .own c → c ∈ CS) → PySem.W.kitOne K (t.val K) u = some (f t)) :
    ED K W (tCB (rIsi K) (tCons ta (tCons tT tNil))) (isD CS f δ) := by
  intro B σ H ρ n G α Q x q hK R hx hd kk
  refine ha B σ H ρ n G α _ x _ hK R hx hd fun v H1 G1 d n1 s1 j1 r1 h1 => hT _ _ _ ?_
  obtain ⟨t, et, hcs, h1⟩ := opt_some h1
  exact ⟨v, cv, _, u, f t, rfl, k, r1.tyX s1.hh et fun c e => hc c (hcs c e), hf d t et hcs, kk _ H1 G1 _ n1 s1 j1 (.bl _) h1⟩
theorem pd_isiB {CS : List Str} {f : Ty → Bool} {nT : String} (hc : ∀ c ∈ CS, TyF X.K c) (hf : ∀ d t, tyD d = some t → (∀ c, t = .own c → c ∈ CS) → PySem.W.kitOne X.K (t.val X.K) (.type nT) = some (f t)) (hgi : Gl X "isinstance") (hmi : X.mg "isinstance" = none) (hg : Gl X x) (hm : X.mg x = none) (hv : bootBuiltins x = some (.type nT))
    (h : PB X W a δ) (hn : x ≠ "__name__" := by decide) (hdb : (x == ("__debug__" : Str)) = false := by decide) (hst : starEach [a, .Name x pT] X.env = (false, eval a X.env) :: starEach [.Name x pT] X.env := by rfl) (hst2 : starEach [.Name x pT] X.env = [(false, eval (.Name x pT) X.env)] := by rfl)
    (hpl : (backTo pos (starEach [.Name x pT] X.env)).any (·.1) = false := by rfl) : PD X W (.Call (.Name "isinstance" p) [a, .Name x pT] [] pos) (isD CS f δ) := by
  obtain ⟨t, pe, e⟩ := h
  exact ⟨_, pe_callB call_isi hgi hmi (by decide +kernel) (pa_cons pe (pa_cons (pe_bltn (v := .ty nT) hg hm hv rfl hn hdb) pa_nil hst2) hst) (by decide) (by decide) hst hpl, ed_isi hc e (fun _ _ _ q => q) (.ty nT) hf⟩
theorem pd_isiO {CS : List Str} {f : Ty → Bool} {r : Addr} (hc : ∀ c ∈ CS, TyF X.K c) (hf : ∀ d t, tyD d = some t → (∀ c, t = .own c → c ∈ CS) → PySem.W.kitOne X.K (t.val X.K) (.ref r) = some (f t)) (hgi : Gl X "isinstance") (hmi : X.mg "isinstance" = none) (hg : Gl X x) (hm : X.mg x = some (.ref r))
    (h : PB X W a δ) (hdb : (x == ("__debug__" : Str)) = false := by decide) (hst : starEach [a, .Name x pT] X.env = (false, eval a X.env) :: starEach [.Name x pT] X.env := by rfl) (hst2 : starEach [.Name x pT] X.env = [(false, eval (.Name x pT) X.env)] := by rfl)
    (hpl : (backTo pos (starEach [.Name x pT] X.env)).any (·.1) = false := by rfl) : PD X W (.Call (.Name "isinstance" p) [a, .Name x pT] [] pos) (isD CS f δ) := by
  obtain ⟨t, pe, e⟩ := h
  exact ⟨_, pe_callB call_isi hgi hmi (by decide +kernel) (pa_cons pe (pa_cons (pe_glob (v := .ref r) hg hm rfl hdb) pa_nil hst2) hst) (by decide) (by decide) hst hpl, ed_isi hc e (fun _ _ _ q => q) (.own r) hf⟩
theorem ed_isiT {K : PySem.W.Frag} {ta : TE} {tT : TA} {CS : List Str} {f : Ty → Bool} {cvs : List V} {us : List Value} (hc : ∀ c ∈ CS, TyF K c) (ha : EB K W ta δ) (hT : ∀ σ H Q, Q cvs H → tT σ H Q) (k : Paired ClsV cvs us) (hl : cvs.length ≤ sizeLine) (hf : ∀ d t, tyD d = some t → (∀ c, t = .own c → c ∈ CS) → PySem.W.kitAny K (t.val K) us = some (f t)) :
    ED K W (tCB (rIsiT K) (tCons ta (tCons (tTup tT) tNil))) (isD CS f δ) := by
  intro B σ H ρ n G α Q x q hK R hx hd kk
  refine ha B σ H ρ n G α _ x _ hK R hx hd fun v H1 G1 d n1 s1 j1 r1 h1 => hT _ _ _ ⟨hl, fun p np => ?_⟩
  obtain ⟨t, et, hcs, h1⟩ := opt_some h1
  have s := StepP.laid (o := .tup cvs) s1.hh np
  have st := s.step j1
  exact ⟨v, p, cvs, _, us, f t, rfl, upd_same, k, (r1.step st).tyX st.hh et fun c e => hc c (hcs c e), hf d t et hcs, kk _ _ _ _ n1 (s1.trans st) (s.J j1) (.bl _) h1⟩
theorem pd_isiT {CS : List Str} {f : Ty → Bool} {es : List Expr} {x1} {tT : TA} {cvs : List V} {us : List Value} (hc : ∀ c ∈ CS, TyF X.K c) (hf : ∀ d t, tyD d = some t → (∀ c, t = .own c → c ∈ CS) → PySem.W.kitAny X.K (t.val X.K) us = some (f t)) (hgi : Gl X "isinstance") (hmi : X.mg "isinstance" = none)
    (hT : PA X es tT) (hT2 : ∀ σ H Q, Q cvs H → tT σ H Q) (k : Paired ClsV cvs us) (hl : cvs.length ≤ sizeLine) (h : PB X W a δ) (hst : starEach [a, .Tuple es x1 pT] X.env = (false, eval a X.env) :: starEach [.Tuple es x1 pT] X.env := by rfl) (hst2 : starEach [.Tuple es x1 pT] X.env = [(false, eval (.Tuple es x1 pT) X.env)] := by rfl)
    (hpl : (backTo pos (starEach [.Tuple es x1 pT] X.env)).any (·.1) = false := by rfl) : PD X W (.Call (.Name "isinstance" p) [a, .Tuple es x1 pT] [] pos) (isD CS f δ) := by
  obtain ⟨t, pe, e⟩ := h
  exact ⟨_, pe_callB call_isiT hgi hmi (by decide +kernel) (pa_cons pe (pa_cons (pe_tup hT) pa_nil hst2) hst) (by decide) (by decide) hst hpl, ed_isiT hc e hT2 k hl hf⟩
end

def dPar (i j : Nat) (a : DA) : DS := fun E ρ n => a (E.xx ρ) ρ n fun ds n1 => match ds with
  | [u, v] => E.nx ((ρ.set i (some (.val u))).set j (some (.val v))) n1
  | _ => False
section
variable {X : Cx} {W : WX} {a b e tg : Expr} {δ : DE} {α' : DA} {pos : Pos} {x y : Str}
theorem ps_parD (i j : Nat) {px py pt : Pos} {kt k2 pt2} (hc : X.calm = true) (hN : X.N.Nodup) (ha : PAD X W [a, b] α') (hi : X.N[i]? = some x := by rfl) (hj : X.N[j]? = some y := by rfl) (hij : i ≠ j := by decide)
    (hx : X.env.scope.names.lookup x = some .local := by rfl) (hy : X.env.scope.names.lookup y = some .local := by rfl)
    (hw : swappedStores [.Tuple [.Name x px, .Name y py] kt pt] (.Tuple [a, b] k2 pt2) X.env = pure (some [x, y]) := by rfl)
    (hs : swapsWithSole [.Tuple [.Name x px, .Name y py] kt pt] (.Tuple [a, b] k2 pt2) pos.line X.env = pure false := by rfl) :
    PSD X W (.Assign [.Tuple [.Name x px, .Name y py] kt pt] (.Tuple [a, b] k2 pt2) pos) (dPar i j α') := by
  obtain ⟨t, p, h⟩ := ha
  refine ⟨_, ps_par hc hN hi hj hij hx hy p hw hs, fun B σ H ρ n G α D E hK R L hd => ?_⟩
  refine h B σ H ρ n G α _ _ _ hK R (L.xl R) hd fun vs H1 G1 ds n1 s1 j1 r1 h1 => ?_
  split at h1
  · rename_i u v
    cases r1 with
    | cons r1 t1 =>
      cases t1 with
      | cons r2 t2 =>
        cases t2
        exact ⟨_, _, rfl, L.nx _ H1 _ n1 G1 α (((R.step s1 j1).set i (hK ▸ r1)).set j (hK ▸ r2)) h1⟩
  · exact h1.elim
def dAsg (γ : DG) (δ : DE) : DS := fun E ρ n => δ (E.xx ρ) ρ n fun d n1 => γ d ρ fun ρ1 => E.nx ρ1 n1
end

def pairsD : List D → Option (List (Key × D))
  | [] => some []
  | .tup [k, v] :: ds => (keyD k).bind fun j => (pairsD ds).map ((j, v) :: ·)
  | _ :: _ => none
def mergeD (kvs more : List (Key × D)) : List (Key × D) := more.foldl (fun acc kv => putD acc kv.1 kv.2) kvs
def fDict : FL := f1 fun d k => match d with
  | .lst ds => opt (pairsD ds) fun kvs => k (.dct (mergeD [] kvs))
  | _ => False
theorem pairs_rep {K : PySem.W.Frag} {G : Hp} : ∀ {ds : List D} {vs : List V} {kvs : List (Key × D)}, RepL K G ds vs → pairsD ds = some kvs → ∃ (ps : List Addr) (ws : List (Key × V)), vs = ps.map V.ref ∧ Paired (fun p kv => SqT K G p [kV kv.1, kv.2]) ps ws ∧ RepK K G kvs ws
  | _, _, _, .nil, h => by cases h; exact ⟨[], [], rfl, .nil, .nil⟩
  | _, _, kvs, .cons (d := d) (ds := ds) r t, h => by
    unfold pairsD at h
    split at h
    · rename_i h0; cases h0
    · rename_i k v ds' h0
      cases h0
      cases ek : keyD k with
      | none => rw [ek] at h; cases h
      | some j =>
        rw [ek] at h
        cases ep : pairsD ds with
        | none => rw [ep] at h; cases h
        | some more =>
          rw [ep] at h
          have h : some ((j, v) :: more) = some kvs := h
          cases h
          obtain ⟨ps, ws, e1, e2, e3⟩ := pairs_rep t ep
          cases r with
          | tup es rl =>
            cases rl with
            | cons r1 t1 =>
              cases t1 with
              | cons r2 t2 =>
                cases t2
                rename_i b v1 v2
                have ev : v1 = kV j := by
                  cases k with
                  | int i => cases ek; cases r1; rfl
                  | str i => cases ek; cases r1; rfl
                  | _ => exact nomatch ek
                subst ev
                exact ⟨b :: ps, (j, v2) :: ws, by rw [e1]; rfl, .cons es e2, .cons r2 e3⟩
    · cases h
theorem RepK.merge {K : PySem.W.Frag} {G : Hp} : ∀ {more : List (Key × D)} {ms : List (Key × V)} {kvs : List (Key × D)} {ws : List (Key × V)}, RepK K G more ms → RepK K G kvs ws → RepK K G (mergeD kvs more) (mergeK ws ms)
  | _, _, _, _, .nil, h => h
  | _, _, _, _, .cons (k := k) r t, h => by
    have z := RepK.merge t (h.put (k := k) r)
    exact z
theorem paired_mono {α β : Type} {F F' : α → β → Prop} (h : ∀ a b, F a b → F' a b) : ∀ {l : List α} {m : List β}, Paired F l m → Paired F' l m
  | _, _, .nil => .nil
  | _, _, .cons r t => .cons (h _ _ r) (paired_mono h t)
end DL

end

section
set_option autoImplicit false
namespace DL
open PySem PySem.Spec L2

abbrev AlM : Type := He.AlD × Bool
def tys : List String := ["int", "bool", "list", "tuple", "str", "dict"]
def tysN : List String := ["NoneType", "bool", "int", "str", "list", "tuple", "dict"]
def chkTy (CS : List Str) (sub : Str → Str → Bool) (K : PySem.W.Frag) : Bool := CS.all fun c =>
  (He.Fa.cls c).ok K && (He.eqO (PySem.W.findIn K (.ref (ca K c)) "__class__") (some (some (.builtin "object.__class__"))) && (decide (PySem.W.specialIn K (.builtin "object.__class__") "__get__" = some (some (.builtin "getset_descriptor.__get__"))) &&
  (decide (PySem.W.takesIn K (.builtin "object.__class__") = some true) && (decide (PySem.W.mroIn K (ca K c) (.type "object") = some true) &&
  ((tys.all fun T => decide (PySem.W.kitOne K (.ref (ca K c)) (.type T) = some false)) && ((tysN.all fun T => decide (PySem.W.kitOne K (.type T) (.ref (ca K c)) = some false)) && (CS.all fun c' => decide (PySem.W.kitOne K (.ref (ca K c)) (.ref (ca K c')) = some (sub c c')))))))))
def isaB (n : String) : Ty → Bool
  | .b m => m == n || (n == "int" && m == "bool")
  | .own _ => false
def isaO (sub : Str → Str → Bool) (c : Str) : Ty → Bool
  | .b _ => false
  | .own c' => sub c' c
section
variable {K : PySem.W.Frag} {CS : List Str} {sub : Str → Str → Bool}
theorem chk_at (h : chkTy CS sub K = true) {c : Str} (hc : c ∈ CS) : TyF K c ∧ (∀ T ∈ tys, PySem.W.kitOne K (.ref (ca K c)) (.type T) = some false) ∧ (∀ T ∈ tysN, PySem.W.kitOne K (.type T) (.ref (ca K c)) = some false) ∧ ∀ c' ∈ CS, PySem.W.kitOne K (.ref (ca K c)) (.ref (ca K c')) = some (sub c c') := by
  have z := List.all_eq_true.mp h c hc
  obtain ⟨h1, z⟩ := He.ba z
  obtain ⟨h2, z⟩ := He.ba z
  obtain ⟨h3, z⟩ := He.ba z
  obtain ⟨h4, z⟩ := He.ba z
  obtain ⟨h5, z⟩ := He.ba z
  obtain ⟨h6, z⟩ := He.ba z
  obtain ⟨h7, h8⟩ := He.ba z
  exact ⟨⟨He.cls_ok h1, He.eqO_ok h2, of_decide_eq_true h3, of_decide_eq_true h4, of_decide_eq_true h5⟩, fun T hT => of_decide_eq_true (List.all_eq_true.mp h6 T hT), fun T hT => of_decide_eq_true (List.all_eq_true.mp h7 T hT), fun c' hc' => of_decide_eq_true (List.all_eq_true.mp h8 c' hc')⟩
theorem chk_tyf (h : chkTy CS sub K = true) : ∀ c ∈ CS, TyF K c := fun _ hc => (chk_at h hc).1
theorem tyD_mem {d : D} {m : String} (h : tyD d = some (.b m)) : m ∈ tysN := by
  cases d <;> first | (cases h; decide) | (exact nomatch h)
theorem kit_bb (n : String) (hn : n ∈ tys) : ∀ m ∈ tysN, kitB m n = some (isaB n (.b m)) := by
  have e : ∀ n ∈ tys, ∀ m ∈ tysN, kitB m n = some (isaB n (.b m)) := by decide +kernel
  exact e n hn
theorem chk_kb (h : chkTy CS sub K = true) (n : String) (hn : n ∈ tys) : ∀ d t, tyD d = some t → (∀ c, t = .own c → c ∈ CS) → PySem.W.kitOne K (t.val K) (.type n) = some (isaB n t) := fun d t e hc => by
  cases t with
  | b m => exact kit_ty (kit_bb n hn m (tyD_mem e))
  | own c => exact (chk_at h (hc c rfl)).2.1 n hn
theorem chk_ko (h : chkTy CS sub K = true) {c : Str} (hc : c ∈ CS) : ∀ d t, tyD d = some t → (∀ c, t = .own c → c ∈ CS) → PySem.W.kitOne K (t.val K) (.ref (ca K c)) = some (isaO sub c t) := fun d t e hcs => by
  cases t with
  | b m => exact (chk_at h hc).2.2.1 m (tyD_mem e)
  | own c' => exact (chk_at h (hcs c' rfl)).2.2.2 c hc
theorem chk_kt (h : chkTy CS sub K = true) : ∀ (ns : List String), (∀ n ∈ ns, n ∈ tys) → ∀ d t, tyD d = some t → (∀ c, t = .own c → c ∈ CS) → PySem.W.kitAny K (t.val K) (ns.map Value.type) = some (ns.any fun n => isaB n t)
  | [], _, _, _, _, _ => kitAny_nil
  | n :: ns, hn, d, t, e, hc => by
    rw [List.map_cons, List.any_cons]
    refine kitAny_cons (chk_kb h n (hn n List.mem_cons_self) d t e hc) (fun q => ?_) (fun q => ?_)
    · rw [q, Bool.false_or]
      exact chk_kt h ns (fun m hm => hn m (List.mem_cons_of_mem _ hm)) d t e hc
    · rw [q, Bool.true_or]
end

def tupAt (K : PySem.W.Frag) (a : Addr) (vs : List He.Dv) : Bool := match K.lookup a with
  | some ⟨.type c, _, .seq its _, _⟩ => decide (c = "tuple") && (decide (its.size ≤ sizeLine) && He.relAll (vs.map (He.Dv.v K)) its.toList)
  | _ => false
theorem tupAt_ok {K : PySem.W.Frag} {a : Addr} {vs : List He.Dv} (h : tupAt K a vs = true) (H : Hp) : SqT K H a (vs.map (He.Dv.v K)) := by
  unfold tupAt at h
  cases q : K.lookup a with
  | none =>
    rw [q] at h
    cases h
  | some o =>
    obtain ⟨oc, od, dt, osl⟩ := o
    rw [q] at h
    cases oc with
    | type c =>
      cases dt with
      | seq its n =>
        obtain ⟨h1, h2⟩ := He.ba (show (decide (c = "tuple") && (decide (its.size ≤ sizeLine) && He.relAll (vs.map (He.Dv.v K)) its.toList)) = true from h)
        obtain ⟨h3, h4⟩ := He.ba h2
        exact .inr ⟨_, its, n, q, congrArg Value.type (of_decide_eq_true h1), rfl, of_decide_eq_true h3, He.relAll_ok h4⟩
      | _ => cases h
    | _ => cases dt <;> cases h
theorem rep_ints {K : PySem.W.Frag} {a : Addr} {ns : List Int} (h : tupAt K a (ns.map He.Dv.int) = true) (G : Hp) : Rep K G (.tup (ns.map D.int)) (.ref a) := by
  have z := tupAt_ok h G
  rw [List.map_map] at z
  exact .tup z (RepL.of_ints ns)
end DL

end

section
set_option autoImplicit false
namespace DL
open PySem PySem.Spec PySem.W
section
variable {prog : Program} {w : World} {A : Around} {E : Value → Shared → Prop} {s : Shared} {K : Frag} {x C f : Addr} {ox : Obj} {od : Option Obj}
def mro2 (K : Frag) (C : Addr) : Bool := (clsIn K C).any fun cd => decide (cd.mro = [.ref C, .type "object"])
theorem bin1_int {nm : String} {b : Value} {rr tk0 : Option Value} {Q : Option Value → Shared → Prop} (X : K.In s.heap) (I : InstAt s.heap x ox C od) (hb : Looks (model prog w) s.heap (typeOf b) (.type "int")) (hc : mro2 K C = true)
    (hs : findIn K (.ref C) (PySem.dunder nm) = some (some (.ref f))) (hf : isFn K (.ref f) = true) (hsub : subIn K (.type "int") (.ref C) = some false) (hR : findIn K (.ref C) (dunderR nm) = some rr) (hfi : fillsNumberSlot (.type "int") nm = pure true) (htk : typeLookup (.type "int") (dunderR nm) = pure tk0)
    (hrr : ∃ z, ∀ t, calledByName t (dunderR nm) rr = pure z)
    (h : wpAny (model prog w) A (call (.ref f) [.ref x, b]) (fun v s' => v ≠ .notImplemented ∧ Q (some v) s') E s) : wpAny (model prog w) A (binaryOp1 nm (.ref x) b) Q E s := by
  obtain ⟨cd, hcd, hm⟩ := any_some hc
  have hm := of_decide_eq_true hm
  obtain ⟨z, hz⟩ := hrr
  unfold binaryOp1
  refine wpAny_bind (I.type.here (wpAny_bind (hb.here (wpAny_bind ((fills_K X hcd hm hs).here ?_)))))
  rw [if_neg (by simp)]
  rw [hfi]
  refine wpAny_bind (wpAny_pure ?_)
  simp only [Bool.and_self, if_true, ite_true]
  refine wpAny_bind ((looks_subIn X hsub).here ?_)
  simp only [Bool.false_eq_true, if_false, Bool.not_false, Bool.and_self, if_true]
  have hnp : Looks (model prog w) s.heap (numberSlotInPython (.ref C) nm) true := by
    unfold numberSlotInPython
    refine (looks_findIn X hs).andThen ?_
    refine Looks.andThen (a := true) .now ?_
    refine (looks_findIn X hR).andThen ?_
    rw [hz]
    refine Looks.andThen (a := z) .now ?_
    rw [Bool.true_or, if_pos rfl]
    exact .now
  refine wpAny_bind (hnp.here ?_)
  simp only [if_true]
  refine wpAny_bind (m := numberSlotInPython (.type "int") nm) (wpAny_pure ?_)
  simp only [Bool.not_false, if_true]
  rw [htk]
  refine wpAny_bind (wpAny_pure ?_)
  refine wpAny_bind (m := tryMethod (.ref x) _ b) ?_
  unfold tryMethod
  refine wpAny_bind (special_fn X I hs (beq_iff_eq.mp hf) (wpAny_mono h (fun v s' hv => ?_) fun _ _ e => e))
  obtain ⟨hv, hq⟩ := hv
  cases v <;> first | exact (hv rfl).elim | exact wpAny_pure (wpAny_pure hq)

theorem bin1_same {nm : String} {b : Value} {Q : Option Value → Shared → Prop} (X : K.In s.heap) (I : InstAt s.heap x ox C od) (hb : Looks (model prog w) s.heap (typeOf b) (.ref C)) (hc : mro2 K C = true)
    (hs : findIn K (.ref C) (PySem.dunder nm) = some (some (.ref f))) (hf : isFn K (.ref f) = true)
    (h : wpAny (model prog w) A (call (.ref f) [.ref x, b]) (fun v s' => v ≠ .notImplemented ∧ Q (some v) s') E s) : wpAny (model prog w) A (binaryOp1 nm (.ref x) b) Q E s := by
  obtain ⟨cd, hcd, hm⟩ := any_some hc
  have hm := of_decide_eq_true hm
  unfold binaryOp1
  refine wpAny_bind (I.type.here (wpAny_bind (hb.here (wpAny_bind ((fills_K X hcd hm hs).here ?_)))))
  simp only [beq_self_eq_true, if_true]
  refine wpAny_bind (wpAny_pure ?_)
  simp only [Bool.and_false, Bool.false_eq_true, if_false, Bool.false_and]
  refine wpAny_bind (wpAny_pure ?_)
  simp only [Bool.false_eq_true, if_false]
  refine wpAny_bind (m := tryMethod (.ref x) _ b) ?_
  unfold tryMethod
  refine wpAny_bind (special_fn X I hs (beq_iff_eq.mp hf) (wpAny_mono h (fun v s' hv => ?_) fun _ _ e => e))
  obtain ⟨hv, hq⟩ := hv
  cases v <;> first | exact (hv rfl).elim | exact wpAny_pure (wpAny_pure hq)
theorem binop_of1 {op : Operator} {a b : Value} {Q : Value → Shared → Prop} (h : wpAny (model prog w) A (binaryOp1 op.info.2 a b) (fun r s' => ∃ v, r = some v ∧ Q v s') E s) : wpAny (model prog w) A (binaryOp op a b) Q E s := by
  unfold binaryOp
  refine wpAny_holding (wpAny_bind (wpAny_mono h (fun r s' hr => ?_) fun _ _ e => e))
  obtain ⟨v, rfl, hq⟩ := hr
  exact wpAny_pure hq
theorem looks_noInplace {M : Model} {h : Heap} {nm : String} {add : Bool} (X : K.In h) (hc : mro2 K C = true) (hi : findIn K (.ref C) (dunderI nm) = some none) (ho : typeLookup (.type "object") (dunderI nm) = pure none) : Looks M h (fillsInplaceSlot (.ref C) nm add) false := by
  obtain ⟨cd, hcd, hm⟩ := any_some hc
  have hm := of_decide_eq_true hm
  intro A Q E s k q
  unfold fillsInplaceSlot
  refine wpAny_bind ((looks_clsIn X hcd).andThen (f := fun cd => pure cd.mro) .now A _ E s k ?_)
  rw [hm, List.anyM_cons]
  refine wpAny_bind (wpAny_bind (looks_findIn X hi A _ E s k ?_))
  refine wpAny_pure ?_
  simp only [Bool.false_eq_true, if_false]
  rw [List.anyM_cons]
  refine wpAny_bind ?_
  rw [ho]
  refine wpAny_bind (wpAny_pure ?_)
  refine wpAny_pure ?_
  simp only [Bool.false_eq_true, if_false]
  exact wpAny_pure q
theorem inplace_of1 {op : Operator} {b : Value} {Q : Value → Shared → Prop} (X : K.In s.heap) (I : InstAt s.heap x ox C od) (hc : mro2 K C = true) (hi : findIn K (.ref C) (dunderI op.info.2) = some none) (ho : typeLookup (.type "object") (dunderI op.info.2) = pure none)
    (h : wpAny (model prog w) A (binaryOp1 op.info.2 (.ref x) b) (fun r s' => ∃ v, r = some v ∧ Q v s') E s) : wpAny (model prog w) A (inplaceOp op (.ref x) b) Q E s := by
  unfold inplaceOp
  refine wpAny_holding (wpAny_bind (I.type.here (wpAny_bind ((looks_noInplace X hc hi ho).here ?_))))
  simp only [Bool.false_eq_true, if_false]
  refine wpAny_bind (wpAny_mono h (fun r s' hr => ?_) fun _ _ e => e)
  obtain ⟨v, rfl, hq⟩ := hr
  exact wpAny_pure hq
end

section
open L2
def opB (c : Str) (op : Operator) (K : Frag) : Bool := mro2 K (ca K c) && (decide (subIn K (.type "int") (.ref (ca K c)) = some false) && ((match findIn K (.ref (ca K c)) (dunderR op.info.2) with
  | some none => true
  | some (some (.ref _)) => true
  | _ => false) && decide (findIn K (.ref (ca K c)) (dunderI op.info.2) = some none)))
structure OpK (K : Frag) (c : Str) (op : Operator) : Prop where
  mro : mro2 K (ca K c) = true
  si : subIn K (.type "int") (.ref (ca K c)) = some false
  rr : ∃ rr, findIn K (.ref (ca K c)) (dunderR op.info.2) = some rr ∧ ∃ z, ∀ t, calledByName t (dunderR op.info.2) rr = pure z
  ini : findIn K (.ref (ca K c)) (dunderI op.info.2) = some none
theorem opB_ok {K : Frag} {c : Str} {op : Operator} (h : opB c op K = true) : OpK K c op := by
  obtain ⟨h1, h⟩ := He.ba h
  obtain ⟨h2, h⟩ := He.ba h
  obtain ⟨h3, h4⟩ := He.ba h
  refine ⟨h1, of_decide_eq_true h2, ?_, of_decide_eq_true h4⟩
  cases e : findIn K (.ref (ca K c)) (dunderR op.info.2) with
  | none => rw [e] at h3; cases h3
  | some r =>
    rw [e] at h3
    cases r with
    | none => exact ⟨none, rfl, false, fun _ => rfl⟩
    | some v =>
      cases v with
      | ref g => exact ⟨_, rfl, true, fun _ => rfl⟩
      | _ => cases h3
structure OpI (op : Operator) : Prop where
  fi : fillsNumberSlot (.type "int") op.info.2 = pure true
  tk : ∃ tk0, typeLookup (.type "int") (dunderR op.info.2) = pure tk0
  ob : typeLookup (.type "object") (dunderI op.info.2) = pure none
theorem opI_add : OpI .Add := ⟨by kernel_rfl, ⟨some (.builtin "int.__radd__"), by kernel_rfl⟩, by kernel_rfl⟩
variable {X : Cx} {CX : CXT} {k : Nat} {f C : Addr} {fd : FuncData} {ps : List Str} {sp : Sp} {E : L2.St → XK} {a b : Expr} {ta tb : TE} {pos : Pos} {op : Operator} {c m : Str}
theorem EP.notNI {X : Cx} {pins : List (Addr × Obj)} {σ : L2.St} {Q : VK} {u : Value} {s' : Shared} (h : EP X pins σ Q u s') : u ≠ .notImplemented := by
  obtain ⟨v, H', _, r, _⟩ := h
  intro e
  subst e
  cases v <;> first | exact nomatch r | (obtain ⟨t, r⟩ := r; exact nomatch r)
def tBinO (C : Addr) (sp : Sp) (E : L2.St → XK) (ta tb : TE) : TE := fun σ H Q => ta σ H fun x H1 => tb σ H1 fun y H2 => ∃ a dx fs, x = .ref a ∧ H2 a = some (.ins C dx fs) ∧ ((∃ i, y = .int i) ∨ ∃ b dy gs, y = .ref b ∧ H2 b = some (.ins C dy gs)) ∧ sp [x, y] H2 Q (E σ)
theorem bin1_run {pins : List (Addr × Obj)} {σ : L2.St} {H : Hp} {s : Shared} {Q : VK} {x y : V} {v u : Value} (O : OpK X.K c op) (OI : OpI op) (hm : Meth X.K (ca X.K c) m f) (hop : PySem.dunder op.info.2 = m) (F : FnOk X.prog X.w X.K X.mg X.base CX k f fd ps sp) (hr : Room k X.A) (hb : Binds X.K fd ps []) (hx : PassesAt CX X σ (E σ))
    (I : Inv X pins σ H s) (rx : RelV x v) (ry : RelV y u) {p dx : Addr} {fs : List (Str × V)} (ex : x = .ref p) (ea : H p = some (.ins (ca X.K c) dx fs)) (hy : (∃ i, y = .int i) ∨ ∃ b dy gs, y = .ref b ∧ H b = some (.ins (ca X.K c) dy gs)) (hsp : sp [x, y] H Q (E σ)) :
    wpAny (model X.prog X.w) X.A (binaryOp1 op.info.2 v u) (fun r s' => ∃ z, r = some z ∧ EP X pins σ Q z s') X.xe s ∧ ∃ (ox : Obj) (od : Option Obj), InstAt s.heap p ox (ca X.K c) od ∧ v = .ref p := by
  subst ex
  obtain rfl : v = Value.ref p := rx
  obtain ⟨mA, J, _⟩ := ins_get I.hok ea
  obtain ⟨od, J, _⟩ := J.look
  have call := run_fnSD (us := [.ref p, u]) (vs := [.ref p, y]) (dvs := []) (ds := []) (Q := Q) F hr hb .nil hx I (.cons rfl (.cons ry .nil)) hsp
  have call' := wpAny_mono call (Q' := fun v s' => v ≠ .notImplemented ∧ ∃ z, some v = some z ∧ EP X pins σ Q z s') (fun z s' h => ⟨EP.notNI h, z, rfl, h⟩) fun _ _ h => h
  refine ⟨?_, _, _, J, rfl⟩
  rcases hy with ⟨i, e⟩ | ⟨q, dy, gs, e, eb⟩
  · subst e
    obtain ⟨t, rfl⟩ := ry
    obtain ⟨rr, hR, hrr⟩ := O.rr
    obtain ⟨tk0, htk⟩ := OI.tk
    exact bin1_int I.kIn J (Looks.of_pure rfl) O.mro (by rw [hop]; exact hm.at_) hm.fn O.si hR OI.fi htk hrr call'
  · subst e
    obtain rfl : u = Value.ref q := ry
    obtain ⟨mB, J', _⟩ := ins_get I.hok eb
    obtain ⟨od', J', _⟩ := J'.look
    exact bin1_same I.kIn J J'.type O.mro (by rw [hop]; exact hm.at_) hm.fn call'
theorem pe_binO (O : OpK X.K c op) (OI : OpI op) (hm : Meth X.K (ca X.K c) m f) (hop : PySem.dunder op.info.2 = m) (F : FnOk X.prog X.w X.K X.mg X.base CX k f fd ps sp) (hr : Room k X.A) (hb : Binds X.K fd ps []) (hx : ∀ σ, PassesAt CX X σ (E σ)) (ha : PE X a ta) (hb' : PE X b tb) : PE X (.BinOp a op b pos) (tBinO (ca X.K c) sp E ta tb) := by
  refine ⟨fun pins s σ H Q I h => ?_⟩
  refine wpAny_BinOp (bin ha hb' I h fun v u s2 x y H2 I2 rx ry q => ?_)
  obtain ⟨p, dx, fs, ex, ea, hy, hsp⟩ := q
  exact binop_of1 (bin1_run O OI hm hop F hr hb (hx σ) I2 rx ry ex ea hy hsp).1
def tAugO (i : Nat) (C : Addr) (sp : Sp) (E : L2.St → XK) (te : TE) : TS := fun D σ H => ∃ x, σ[i]? = some (some x) ∧ te σ H fun y H1 => ∃ a dx fs, x = .ref a ∧ H1 a = some (.ins C dx fs) ∧ ((∃ i, y = .int i) ∨ ∃ b dy gs, y = .ref b ∧ H1 b = some (.ins C dy gs)) ∧ sp [x, y] H1 (fun z H2 => D.nx (σ.set i (some z)) H2) (E σ)
theorem ps_augO {i : Nat} {n : Str} {pos' : Pos} (O : OpK X.K c op) (OI : OpI op) (hm : Meth X.K (ca X.K c) m f) (hop : PySem.dunder op.info.2 = m) (F : FnOk X.prog X.w X.K X.mg X.base CX k f fd ps sp) (hr : Room k X.A) (hb : Binds X.K fd ps []) (hx : ∀ σ, PassesAt CX X σ (E σ)) (he : PE X b tb)
    (hN : X.N.Nodup) (hi : X.N[i]? = some n) (hn : Loc X.env.scope n) (hf : X.fn n = true ∨ X.env.scope.names.lookup n = some .local) : PS X (.AugAssign (.Name n pos') op b pos) (tAugO i (ca X.K c) sp E tb) := by
  refine ⟨fun pins s σ H D I h => ?_⟩
  obtain ⟨v, e1, h⟩ := h
  obtain ⟨mm, hnn, hl⟩ := I.loc
  have vis : Vis X.env.scope n := by rcases hn with k | k; exact .inl k; exact .inr (.inl k)
  obtain ⟨u, r, l⟩ := hl i n v hi e1 vis
  refine wpAny_AugAssign_Name ?_
  have go : wpAny (model X.prog X.w) X.A (eval b X.env) (fun w s₂ => wpAny (model X.prog X.w) X.A (inplaceOp op u w) (fun r s₃ => wpAny (model X.prog X.w) X.A (storeName X.env n r) (fun _ => SP X pins D .next) X.xe s₃) X.xe s₂) X.xe s := by
    refine thn (he.run pins s σ H _ I h) fun w s1 ⟨y, H1, I1, r1, p, dx, fs, ex, ea, hy, hsp⟩ => ?_
    obtain ⟨h1, ox, od, J, ev⟩ := bin1_run O OI hm hop F hr hb (hx σ) I1 r r1 ex ea hy hsp
    subst ev
    refine inplace_of1 I1.kIn J O.mro O.ini OI.ob (wpAny_mono h1 (fun rr s2 ⟨z, ez, zv, H2, I2, r2, q2⟩ => ⟨z, ez, ?_⟩) fun _ _ h => h)
    exact store_ok I2 hN hi hn r2 (fun s3 I3 => ⟨_, H2, I3, q2⟩) hf
  rcases l with ⟨hk, hm'⟩ | ⟨hk, c', hc, hcell⟩
  · exact wpAny_loadName_local I.ok.kind hk hnn hm' go
  · rcases hk with hk | hk
    · exact wpAny_loadName_cell I.ok.kind hk hc hcell go
    · rcases hn with k | k
      · have : X.env.scope.names.lookup n = some .free := hk
        rw [k] at this; cases this
      · have : X.env.scope.names.lookup n = some .free := hk
        rw [k] at this; cases this
end
section
open L2
def rOk (c : Str) : D → Prop
  | .int _ => True
  | .obj c' _ => c' = c
  | _ => False
def dBinO (c : Str) (F : DF) (a b : DE) : DE := fun x ρ n q => a x ρ n fun u n1 => b x ρ n1 fun v n2 => (∃ fs, u = .obj c fs) ∧ rOk c v ∧ F x.w [u, v] n2 q x.ex
variable {X : Cx} {W : WX} {k : Nat} {F : DF} {c m n : Str} {a b : Expr} {δa δb : DE} {pos pos' : Pos} {op : Operator}
theorem rOk_at {K : Frag} {G H : Hp} {d : D} {v : V} (h : rOk c d) (le : Le G H) (r : Rep K G d v) : (∃ i, v = .int i) ∨ ∃ b dy gs, v = .ref b ∧ H b = some (.ins (ca K c) dy gs) := by
  cases d with
  | int i => cases r; exact .inl ⟨i, rfl⟩
  | obj c' fs =>
    cases r with
    | obj e _ =>
      have h : c' = c := h
      subst h
      exact .inr ⟨_, _, _, rfl, le.get e⟩
  | _ => exact h.elim
theorem pd_binO (O : OpK X.K c op) (OI : OpI op) (S : Mg X.prog X.w X.K X.mg X.base c m k 2 F []) (hr : Room k X.A) (tk : Takes X W) (ha : PD X W a δa) (hb : PD X W b δb) (hop : PySem.dunder op.info.2 = m := by decide +kernel) : PD X W (.BinOp a op b pos) (dBinO c F δa δb) := by
  obtain ⟨ta, pa, ea⟩ := ha
  obtain ⟨tb, pb, eb⟩ := hb
  obtain ⟨f, fd, ps, ds, dvs, hF, hm, hbd, hd, hdv⟩ := S.ex
  have ev : dvs = [] := by
    have z := hdv (fun _ => none)
    cases z
    rfl
  subst ev
  cases hd
  refine ⟨_, pe_binO O OI hm hop hF hr hbd (fun σ => passAt tk σ) pa pb, fun B σ H ρ n G α Q x q hK R hx h kk => ?_⟩
  refine ea B σ H ρ n G α _ x _ hK R hx h fun v1 H1 G1 d1 n1 s1 j1 r1 h1 => ?_
  have R1 := R.step s1 j1
  refine eb B σ H1 ρ n1 G1 α _ x _ hK R1 (hx.step s1) h1 fun v2 H2 G2 d2 n2 s2 j2 r2 h2 => ?_
  have R2 := R1.step s2 j2
  have hx2 := (hx.step s1).step s2
  obtain ⟨⟨fs, ed⟩, hok, h2⟩ := h2
  subst ed
  rw [hx.1] at h2
  have r1' := r1.mono s2.le
  cases r1' with
  | obj e rf =>
    refine ⟨_, _, _, rfl, s2.hh.get e, rOk_at hok s2.hh r2, B.W, n2, G2, [_, d2], q, x.ex, s2.hh, R2.rg, j2, .cons (.obj e rf) (.cons r2 .nil), rfl, h2, fun v H' G' d n' s j r hq => kk v H' G' d n' ((s1.trans s2).trans s) j r hq, fun cc dd H' G' e n' s j r hq => hx2.2 cc dd H' G' e n' s j (hK ▸ r) hq⟩
def dAugO (i : Nat) (c : Str) (F : DF) (b : DE) : DS := fun E ρ n => match ρ[i]? with
  | some (some (Sl.val u)) => b (E.xx ρ) ρ n fun v n2 => (∃ fs, u = .obj c fs) ∧ rOk c v ∧ F E.w [u, v] n2 (fun z n3 => E.nx (ρ.set i (some (.val z))) n3) fun e n3 => E.ex e ρ n3
  | _ => False
theorem ps_augOD (i : Nat) (O : OpK X.K c op) (OI : OpI op) (S : Mg X.prog X.w X.K X.mg X.base c m k 2 F []) (hr : Room k X.A) (tk : Takes X W) (hb : PD X W b δb) (hN : X.N.Nodup) (hop : PySem.dunder op.info.2 = m := by decide +kernel)
    (hi : X.N[i]? = some n := by rfl) (hn : Loc X.env.scope n := by first | exact Or.inl rfl | exact Or.inr rfl) (hf : X.fn n = true ∨ X.env.scope.names.lookup n = some .local := by first | exact .inl rfl | exact .inr rfl) : PSD X W (.AugAssign (.Name n pos') op b pos) (dAugO i c F δb) := by
  obtain ⟨tb, pb, eb⟩ := hb
  obtain ⟨f, fd, ps, ds, dvs, hF, hm, hbd, hd, hdv⟩ := S.ex
  have ev : dvs = [] := by
    have z := hdv (fun _ => none)
    cases z
    rfl
  subst ev
  cases hd
  refine ⟨_, ps_augO O OI hm hop hF hr hbd (fun σ => passAt tk σ) pb hN hi hn hf, fun B σ H ρ n G α D E hK R L h => ?_⟩
  unfold dAugO at h
  split at h
  · rename_i u eu
    obtain ⟨v1, e1, r1⟩ := R.val i u eu
    refine ⟨v1, e1, ?_⟩
    refine eb B σ H ρ n G α _ _ _ hK R (L.xl R) h fun v2 H2 G2 d2 n2 s2 j2 r2 h2 => ?_
    have R2 := R.step s2 j2
    obtain ⟨⟨fs, ed⟩, hok, h2⟩ := h2
    subst ed
    rw [L.w] at h2
    have r1' := r1.mono s2.le
    rw [hK] at r1'
    cases r1' with
    | obj e rf =>
      exact ⟨_, _, _, rfl, s2.hh.get e, rOk_at hok s2.hh r2, B.W, n2, G2, [_, d2], _, _, s2.hh, R2.rg, j2, .cons (.obj e rf) (.cons r2 .nil), rfl, h2, fun v H' G' d n' s j r hq => L.nx _ H' _ n' G' α ((R2.step s j).set i (hK ▸ r)) hq, fun cc dd H' G' e n' s j r hq => L.ex cc dd σ H' ρ n' G' α e (R2.step s j) (hK ▸ XRep.back r R2.st) hq⟩
  · exact h.elim
end
end DL

end

section
set_option autoImplicit false
namespace DL
open PySem PySem.Spec L2
def keyOf : Key → D
  | .inl i => .int i
  | .inr x => .str x
theorem keyOf_rep {K : PySem.W.Frag} {G : Hp} (k : Key) : Rep K G (keyOf k) (kV k) := by
  cases k with
  | inl i => exact .int i
  | inr x => exact .str x
section
variable {K : PySem.W.Frag} {G : Hp}
theorem RepK.getV : ∀ {kvs : List (Key × D)} {ws : List (Key × V)} {i : Nat} {k : Key} {v : V}, RepK K G kvs ws → ws[i]? = some (k, v) → ∃ d, kvs[i]? = some (k, d) ∧ Rep K G d v
  | _, _, _, _, _, .nil, e => by simp at e
  | _, _, 0, _, _, .cons r _, e => by
    simp at e
    obtain ⟨rfl, rfl⟩ := e
    exact ⟨_, rfl, r⟩
  | _, _, i + 1, k, v, .cons _ t, e => by
    obtain ⟨u, h1, h2⟩ := RepK.getV (i := i) (k := k) (v := v) t (by simpa using e)
    exact ⟨u, by simpa using h1, h2⟩
theorem walkD_keys {d : Addr} {o : Obj} {ws : List (Key × V)} {kvs : List (Key × D)} (e : G d = some (.frz o (.dK ws))) (r : RepK K G kvs ws) : WalkD K (Itk d o ws) G (kvs.map fun kv => keyOf kv.1) := by
  have hl := r.length
  refine ⟨fun i H G' hi l1 l2 => ⟨l2.get (l1.get e), by simpa [hl] using hi⟩, fun H G' l1 l2 => ⟨l2.get (l1.get e), by simp [hl]⟩, fun i H G' x H' hi l1 l2 y => ?_⟩
  obtain ⟨rfl, k, v, e1, rfl⟩ := y
  obtain ⟨dd, h1, h2⟩ := r.getV e1
  exact ⟨keyOf k, G', by rw [List.getElem?_map, h1]; rfl, .refl l2, keyOf_rep k⟩
def enumD (ds : List D) : List D := (List.range ds.length).map fun (i : Nat) => D.tup [.int (i : Int), ds.getD i .non]
def zipD (ds es : List D) : List D := (ds.zip es).map fun p => D.tup [p.1, p.2]
end
def iKy (δ : DE) : DI := fun x ρ n q => δ x ρ n fun d n1 => match d with
  | .dct kvs => q (kvs.map fun kv => keyOf kv.1) n1
  | _ => False
def iIt (δ : DE) : DI := fun x ρ n q => δ x ρ n fun d n1 => match d with
  | .dct kvs => q (kvs.map fun kv => D.tup [keyOf kv.1, kv.2]) n1
  | _ => False
def iEn (δ : DA) : DI := fun x ρ n q => δ x ρ n fun ds n1 => match ds with
  | [.lst es] => q (enumD es) n1
  | _ => False
def iZp (δ : DA) : DI := fun x ρ n q => δ x ρ n fun ds n1 => match ds with
  | [.lst a, .lst b] => q (zipD a b) n1
  | [.tup a, .tup b] => q (zipD a b) n1
  | _ => False
section
variable {X : Cx} {W : WX} {tg e a b c : Expr} {δ : DE} {α' : DA} {p pos tpos apos cpos : Pos} {elts : List Expr} {kk : Nat}
theorem pid_keys (h : PD X W e δ) : PID X W tg e (iKy δ) := by
  obtain ⟨t, pe, h⟩ := h
  refine ⟨_, pi_keys pe, fun B σ H ρ n G α R x q hK RB hx hd k => ?_⟩
  refine h B σ H ρ n G α _ x _ hK RB hx hd fun v H1 G1 d n1 s1 j1 r1 h1 => ?_
  cases d with
  | dct kvs =>
    cases r1 with
    | dct e r => exact ⟨_, _, rfl, .inl ⟨_, s1.hh.get e, k _ H1 G1 _ n1 s1 j1 (walkD_keys e r) h1⟩⟩
  | _ => exact h1.elim
end

section
variable {X : Cx} {W : WX} {e : Expr} {te : TE} {p apos cpos pos : Pos} {δ : DE}
def itemsD (kvs : List (Key × D)) : List D := kvs.map fun kv => D.tup [keyOf kv.1, kv.2]
def dItems (δ : DE) : DE := fun x ρ n q => δ x ρ n fun d n1 => match d with
  | .dct kvs => q (.lst (itemsD kvs)) n1
  | _ => False
end

abbrev DKV := DX → Env → Nat → (List (Key × D) → Nat → Prop) → Prop
def kv0 : DKV := fun _ _ n q => q [] n
def kvC (a b : DE) (r : DKV) : DKV := fun x ρ n q => a x ρ n fun k n1 => b x ρ n1 fun d n2 => opt (keyD k) fun j => r x ρ n2 fun kvs n3 => q ((j, d) :: kvs) n3
def dDisp (r : DKV) : DE := fun x ρ n q => r x ρ n fun kvs n1 => kvs.length ≤ 15 ∧ q (.dct (mergeD [] kvs)) n1
section
variable {X : Cx} {W : WX} {pos : Pos} {k v : Expr} {ks : List (Option Expr)} {vs : List Expr} {a b : DE} {r : DKV}
end

def dExt (i : Nat) (δ : DE) : DS := fun E ρ n => match ρ[i]? with
  | some (some (.own (.lst ds))) => δ (E.xx ρ) ρ n fun d n1 => (match d with
    | .lst es => ds.length + es.length ≤ 16777216 ∧ E.nx (ρ.set i (some (.own (.lst (ds ++ es))))) n1
    | _ => False)
  | _ => False
section
variable {X : Cx} {W : WX} {e : Expr} {δ : DE} {pos pos' apos cpos : Pos} {x : Str}
end

abbrev DSl := DX → Env → Nat → (Sl → Nat → Prop) → Prop
def ES (K : PySem.W.Frag) (W : WX) (t : TE) (δ : DSl) : Prop :=
  ∀ (B : Bs) (σ : St) (H : Hp) (ρ : Env) (n : Nat) (G : Hp) (α : Nat → Addr) (Q : VK) (x : DX) (q : Sl → Nat → Prop), B.K = K → RelB B σ H ρ n G α → XL B W σ H G x → δ x ρ n q →
    (∀ v H' G' sl n', Step B.W H G H' G' → B.W.J n' H' → SlRep K B.W H G' H' sl v → q sl n' → Q v H') → t σ H Q
def PSl (X : Cx) (W : WX) (e : Expr) (δ : DSl) : Prop := ∃ t, PE X e t ∧ ES X.K W t δ
def slV (δ : DE) : DSl := fun x ρ n q => δ x ρ n fun d n1 => q (.val d) n1
def slO (δ : DE) : DSl := fun x ρ n q => δ x ρ n fun d n1 => q (.own d) n1
section
variable {X : Cx} {W : WX} {a b c e : Expr} {δ : DE} {δ1 δ2 δ3 : DSl} {pos : Pos} {x y z : Str}
theorem PD.sl (h : PD X W e δ) : PSl X W e (slV δ) := by
  obtain ⟨t, p, h⟩ := h
  exact ⟨t, p, fun B σ H ρ n G α Q x q hK R hx hd k => h B σ H ρ n G α Q x _ hK R hx hd fun v H' G' d n' s j r hq => k v H' G' (.val d) n' s j r hq⟩
theorem PF.sl (h : PF X W e δ) : PSl X W e (slO δ) := by
  obtain ⟨t, p, h⟩ := h
  exact ⟨t, p, fun B σ H ρ n G α Q x q hK R hx hd k => h B σ H ρ n G α Q x _ hK R hx hd fun v H' G' d n' s j np ng nr o hq => k _ H' G' (.own d) n' s j ⟨_, rfl, np, ng, nr, o⟩ hq⟩
theorem h0_of {B : Bs} {σ : St} {H : Hp} {ρ : Env} {n : Nat} {G : Hp} {α : Nat → Addr} (R : RelB B σ H ρ n G α) {a : Addr} (e : H a = none) (nr : ¬ B.W.rg a) : B.H0 a = none := by
  cases q : B.H0 a with
  | none => rfl
  | some u => have := R.st.fr a u q nr; rw [e] at this; cases this
theorem RelB.next {B : Bs} {σ : L2.St} {H H1 : Hp} {ρ : Env} {n n1 : Nat} {G G1 : Hp} {α : Nat → Addr} {u : Sl} {v : V} (R : RelB B σ H ρ n G α) (s : Step B.W H G H1 G1) (j : B.W.J n1 H1) (r : SlRep B.K B.W H G1 H1 u v) (i : Nat) (i0 : i ≠ 0) : ∃ α', RelB B (σ.set i (some v)) H1 (ρ.set i (some u)) n1 G1 α' := by
  have R' := R.step s j
  have fg : ∀ {a : Addr}, H a = none → ∀ (k : Nat) (r : D) (gs : List (Addr × D)), ρ[k]? = some (some (.gst r gs)) → ∀ g ∈ gs, g.1 ≠ a := fun {a} n0 k r gs e g hm z => by
    obtain ⟨o, q⟩ := (R.gh.at_ k r gs e g hm).2.2.2.there
    rw [z, n0] at q; cases q
  have fo : ∀ {a : Addr}, H a = none → ∀ (k : Nat) (d : D), ρ[k]? = some (some (.own d)) → α k ≠ a := fun {a} n0 k d e z => by
    obtain ⟨o, q⟩ := (R.own k d e).2.2.2.2.there
    rw [z, n0] at q; cases q
  cases u with
  | val d => exact ⟨α, R'.set i r⟩
  | own d =>
    obtain ⟨a, rfl, n0, g, nr, o⟩ := r
    exact ⟨_, R'.setOwn i i0 (a := a) (d := d) (fun j e _ hj => fo n0 j e hj) g (h0_of R n0 nr) nr o (fg n0)⟩
  | gst r' gs =>
    obtain ⟨hr, nd, hg⟩ := r
    exact ⟨α, R'.setGst i i0 hr nd (fun g hm => by obtain ⟨n0, g1, nr, o⟩ := hg g hm; exact ⟨g1, h0_of R n0 nr, nr, o⟩) (fun j d _ e g hm z => fo (hg g hm).1 j d e z.symm) fun j r' gs' _ e g hm g' hm' z => fg (hg g hm).1 j r' gs' e g' hm' z.symm⟩
def dPar2 (i j : Nat) (a b : DSl) : DS := fun E ρ n => a (E.xx ρ) ρ n fun u n1 => b (E.xx ρ) ρ n1 fun v n2 => E.nx ((ρ.set i (some u)).set j (some v)) n2
theorem RelB.par2 {B : Bs} {σ : St} {H H1 H2 : Hp} {ρ : Env} {n n1 n2 : Nat} {G G1 G2 : Hp} {α : Nat → Addr} {u1 u2 : Sl} {v1 v2 : V} (i j : Nat) (i0 : i ≠ 0) (j0 : j ≠ 0) (R : RelB B σ H ρ n G α) (s1 : Step B.W H G H1 G1) (j1 : B.W.J n1 H1) (s2 : Step B.W H1 G1 H2 G2) (j2 : B.W.J n2 H2) (r1 : SlRep B.K B.W H G1 H1 u1 v1) (r2 : SlRep B.K B.W H1 G2 H2 u2 v2) :
    ∃ α2, RelB B ((σ.set i (some v1)).set j (some v2)) H2 ((ρ.set i (some u1)).set j (some u2)) n2 G2 α2 := by
  obtain ⟨α1, R3⟩ := R.next s1 j1 r1 i i0
  exact R3.next s2 j2 r2 j j0
theorem ps_par2 (i j : Nat) {px py pt : Pos} {kt k2 pt2} (hc : X.calm = true) (hN : X.N.Nodup) (h1 : PSl X W a δ1) (h2 : PSl X W b δ2) (hi : X.N[i]? = some x := by rfl) (hj : X.N[j]? = some y := by rfl) (hij : i ≠ j := by decide) (i0 : i ≠ 0 := by decide) (j0 : j ≠ 0 := by decide)
    (hx : X.env.scope.names.lookup x = some .local := by rfl) (hy : X.env.scope.names.lookup y = some .local := by rfl)
    (hst : starEach [a, b] X.env = (false, eval a X.env) :: starEach [b] X.env := by rfl) (hst2 : starEach [b] X.env = [(false, eval b X.env)] := by rfl)
    (hw : swappedStores [.Tuple [.Name x px, .Name y py] kt pt] (.Tuple [a, b] k2 pt2) X.env = pure (some [x, y]) := by rfl)
    (hs : swapsWithSole [.Tuple [.Name x px, .Name y py] kt pt] (.Tuple [a, b] k2 pt2) pos.line X.env = pure false := by rfl) :
    PSD X W (.Assign [.Tuple [.Name x px, .Name y py] kt pt] (.Tuple [a, b] k2 pt2) pos) (dPar2 i j δ1 δ2) := by
  obtain ⟨ta, pa, ea⟩ := h1
  obtain ⟨tb, pb, eb⟩ := h2
  refine ⟨_, ps_par hc hN hi hj hij hx hy (pa_cons pa (pa_cons pb pa_nil hst2) hst) hw hs, fun B σ H ρ n G α D E hK R L hd => ?_⟩
  refine ea B σ H ρ n G α _ _ _ hK R (L.xl R) hd fun v1 H1 G1 u1 n1 s1 j1 r1 h1 => ?_
  have R1 := R.step s1 j1
  refine eb B σ H1 ρ n1 G1 α _ _ _ hK R1 (L.xl R1) h1 fun v2 H2 G2 u2 n2 s2 j2 r2 h2 => ?_
  have R2 := R1.step s2 j2
  rw [← hK] at r1 r2
  refine ⟨v1, v2, rfl, ?_⟩
  obtain ⟨α2, R4⟩ := RelB.par2 i j i0 j0 R s1 j1 s2 j2 r1 r2
  exact L.nx _ H2 _ n2 G2 α2 R4 h2
theorem ps_par2T (i j : Nat) {px py pt : Pos} {kt k2 pt2} (hc : X.calm = true) (hN : X.N.Nodup) (h1 : PSl X W a δ1) (h2 : PSl X W b δ2) (hi : X.N[i]? = some x := by rfl) (hj : X.N[j]? = some y := by rfl) (i0 : i ≠ 0 := by decide) (j0 : j ≠ 0 := by decide)
    (hx : Loc X.env.scope x := by first | exact Or.inl rfl | exact Or.inr rfl) (hy : Loc X.env.scope y := by first | exact Or.inl rfl | exact Or.inr rfl) (hfx : X.fn x = true ∨ X.env.scope.names.lookup x = some .local := by first | exact .inl rfl | exact .inr rfl) (hfy : X.fn y = true ∨ X.env.scope.names.lookup y = some .local := by first | exact .inl rfl | exact .inr rfl)
    (hst : starEach [a, b] X.env = (false, eval a X.env) :: starEach [b] X.env := by rfl) (hst2 : starEach [b] X.env = [(false, eval b X.env)] := by rfl)
    (hw : swappedStores [.Tuple [.Name x px, .Name y py] kt pt] (.Tuple [a, b] k2 pt2) X.env = pure none := by rfl)
    (hs : swapsWithSole [.Tuple [.Name x px, .Name y py] kt pt] (.Tuple [a, b] k2 pt2) pos.line X.env = pure false := by rfl)
    (ha1 : (assignEach [.Tuple [.Name x px, .Name y py] kt pt] X.env).map (·.2) = [assign (.Tuple [.Name x px, .Name y py] kt pt) X.env] := by rfl)
    (hs1 : (assignEach [.Name x px, .Name y py] X.env).map (·.2) = assign (.Name x px) X.env :: (assignEach [.Name y py] X.env).map (·.2) := by rfl) (hs2 : (assignEach [.Name y py] X.env).map (·.2) = assign (.Name y py) X.env :: (assignEach [] X.env).map (·.2) := by rfl)
    (hn : (assignEach [.Name x px, .Name y py] X.env).length = 2 := by rfl) (hsi : (assignEach [.Name x px, .Name y py] X.env).findIdx? (·.1) = none := by rfl) :
    PSD X W (.Assign [.Tuple [.Name x px, .Name y py] kt pt] (.Tuple [a, b] k2 pt2) pos) (dPar2 i j δ1 δ2) := by
  obtain ⟨ta, pa, ea⟩ := h1
  obtain ⟨tb, pb, eb⟩ := h2
  refine ⟨_, ps_asg (pe_tup (pa_cons pa (pa_cons pb pa_nil hst2) hst)) (pg_tup hc (pgs_cons (pg_name hN hi hx hfx) (pgs_cons (pg_name hN hj hy hfy) pgs_nil hs2) hs1) hn hsi) hs hw ha1, fun B σ H ρ n G α D E hK R L hd => ?_⟩
  refine ea B σ H ρ n G α _ _ _ hK R (L.xl R) hd fun v1 H1 G1 u1 n1 s1 j1 r1 h1 => ?_
  have R1 := R.step s1 j1
  refine eb B σ H1 ρ n1 G1 α _ _ _ hK R1 (L.xl R1) h1 fun v2 H2 G2 u2 n2 s2 j2 r2 h2 => ?_
  have R2 := R1.step s2 j2
  rw [← hK] at r1 r2
  obtain ⟨α2, R4⟩ := RelB.par2 i j i0 j0 R s1 j1 s2 j2 r1 r2
  refine ⟨by show 2 ≤ sizeLine; decide, fun p np => ?_⟩
  have s3 := StepP.laid (o := .tup [v1, v2]) R4.le np
  exact ⟨p, [v1, v2], rfl, .inl (.inl upd_same), rfl, v1, [v2], rfl, v2, [], rfl, rfl, L.nx _ _ _ n2 G2 α2 (R4.step (s3.step R4.J) (s3.J R4.J)) h2⟩
end

def dNeverE : DE := fun _ _ _ _ => False
theorem pd_never {X : Cx} {W : WX} {e : Expr} : PD X W e dNeverE := ⟨fun _ _ _ => False, ⟨fun _ _ _ _ _ _ h => h.elim⟩, fun _ _ _ _ _ _ _ _ _ _ _ _ _ h => h.elim⟩
end DL

end

section
set_option autoImplicit false
namespace DL
open PySem PySem.Spec L2
theorem takes0 {X : Cx} : Takes X W0 := fun _ _ ⟨_, _, _, _, _, _, _, _, _, _, _, _, _, _, _, _, w⟩ => w.elim
end DL

end

section
set_option autoImplicit false
namespace DL
open PySem PySem.Spec PyProof.Rows L2
def oexB (K : PySem.W.Frag) (C : Addr) : Bool := match K.lookup C with
  | some ⟨.type "type", _, .cls cd, sl⟩ => (match cd.mro, sl.toList with
    | .ref C' :: bm, [_, _, _, _, some (.builtin n), _] => C' == C && (n == "ValueError.__new__" && (!cd.hasDel && (cd.hasDict && PySem.HandSPX.refsVE bm)))
    | _, _ => false)
  | _ => false
theorem oexB_ok {K : PySem.W.Frag} {C : Addr} (q : oexB K C = true) : ∃ nm qn N bs bm sn sub ab col dd k0 k1 k2 k3 k5, K.lookup C = some (excClassObj nm qn C N bs bm true sn sub ab col dd k0 k1 k2 k3 k5 "ValueError.__new__") ∧ PySem.HandSPX.refsVE bm = true := by
  unfold oexB at q
  split at q
  · rename_i dd cd sl ho
    split at q
    · rename_i C' bm k0 k1 k2 k3 n k5 hm hs
      simp only [Bool.and_eq_true, beq_iff_eq, Bool.not_eq_true'] at q
      obtain ⟨rfl, rfl, hdel, hdc, hr⟩ := q
      obtain ⟨nm, bs, mro, ns, qn, hd, sn, sub, ab, col, del⟩ := cd
      dsimp only at hm hdel hdc
      subst hm hdel hdc
      have e : sl = #[k0, k1, k2, k3, some (.builtin "ValueError.__new__"), k5] := by
        obtain ⟨l⟩ := sl
        have hs' : l = _ := hs
        rw [hs']
      subst e
      exact ⟨nm, qn, ns, bs, bm, sn, sub, ab, col, dd, k0, k1, k2, k3, k5, ho, hr⟩
    · cases q
  · cases q
structure XC (K : PySem.W.Frag) (c : Str) : Prop where
  oex : OexC K (ca K c)
  ini : PySem.W.findIn K (.ref (ca K c)) "__init__" = some (some (.ref (He.ma K (ca K c) "__init__")))
  fn : PySem.W.typeIn K (.ref (He.ma K (ca K c) "__init__")) = some (.type "function")
def excB (c : Str) (K : PySem.W.Frag) : Bool := oexB K (ca K c) && (He.eqO (PySem.W.findIn K (.ref (ca K c)) "__setattr__") (some (some (.builtin "object.__setattr__"))) && (decide (PySem.W.subIn K (.ref (ca K c)) (.type "BaseException") = some true) &&
  (decide (PySem.W.typeIn K (.ref (ca K c)) = some (.type "type")) && (PySem.W.keepIn K (.ref (ca K c)) && (He.eqO (PySem.W.findIn K (.ref (ca K c)) "__init__") (some (some (.ref (He.ma K (ca K c) "__init__")))) && decide (PySem.W.typeIn K (.ref (He.ma K (ca K c) "__init__")) = some (.type "function")))))))
theorem excB_ok {K : PySem.W.Frag} {c : Str} (h : excB c K = true) : XC K c := by
  obtain ⟨h1, h⟩ := He.ba h
  obtain ⟨h2, h⟩ := He.ba h
  obtain ⟨h3, h⟩ := He.ba h
  obtain ⟨h4, h⟩ := He.ba h
  obtain ⟨h5, h⟩ := He.ba h
  obtain ⟨h6, h7⟩ := He.ba h
  exact ⟨⟨oexB_ok h1, He.eqO_ok h2, of_decide_eq_true h3, of_decide_eq_true h4, h5⟩, He.eqO_ok h6, of_decide_eq_true h7⟩
structure XBase (K : PySem.W.Frag) (b : Str) : Prop where
  rd : PySem.W.readsIn K (ca K b) (.type "type") = true
  fc : PySem.W.findCls K (.ref (ca K b)) (.type "type") "__init__" = some (.val (.builtin "ValueError.__init__"))
  ga : PySem.W.specialIn K (.ref (ca K b)) "__getattribute__" = some (some (.builtin "type.__getattribute__"))
def seB (b : Str) (K : PySem.W.Frag) : Bool := PySem.W.readsIn K (ca K b) (.type "type") && ((match PySem.W.findCls K (.ref (ca K b)) (.type "type") "__init__" with
  | some (.val (.builtin n)) => n == "ValueError.__init__"
  | _ => false) && He.eqO (PySem.W.specialIn K (.ref (ca K b)) "__getattribute__") (some (some (.builtin "type.__getattribute__"))))
theorem seB_ok {K : PySem.W.Frag} {b : Str} (h : seB b K = true) : XBase K b := by
  obtain ⟨h1, h⟩ := He.ba h
  obtain ⟨h2, h3⟩ := He.ba h
  refine ⟨h1, ?_, He.eqO_ok h3⟩
  split at h2
  · rename_i n e
    rw [e, beq_iff_eq.mp h2]
  · cases h2

section
variable {X : Cx} {e : Expr} {es : List Expr} {ta : TA} {p1 p2 pos : Pos} {b : Str}
theorem pe_seinit {pl : Sem Bool} (B : XBase X.K b) (hg : Gl X b) (hm : X.mg b = some (.ref (ca X.K b))) (ha : PA X (e :: es) ta) (hdb : (b == ("__debug__" : Str)) = false := by decide)
    (hc : eval (.Call (.Attribute (.Name b p1) "__init__" p2) (e :: es) [] pos) X.env = (do
      let ov ← eval (.Name b p1) X.env
      standAt p2.atName
      let (f, first) ← holding [ov] (getMethod ov "__init__" pl)
      callWith pos f first (backTo pos (starEach (e :: es) X.env)) (backToKw pos (keywordEach [] X.env))) := by rfl)
    (he : starEach (e :: es) X.env = (false, eval e X.env) :: starEach es X.env := by rfl) (hpl : (backTo pos (starEach es X.env)).any (·.1) = false := by rfl) :
    PE X (.Call (.Attribute (.Name b p1) "__init__" p2) (e :: es) [] pos) (tVeI X.K ta) := by
  refine ⟨fun pins s σ H Q I h => ?_⟩
  refine PySem.W.methodCall_KW (ld_glob I hg hm ?_ hdb) hc
  refine PySem.W.method_cls I.kIn B.ga (PySem.W.cls_value I.kIn B.rd B.fc (by decide +kernel) ?_)
  show wpAny _ _ (callWith pos (Value.builtin "ValueError.__init__") [] (backTo pos (starEach (e :: es) X.env)) []) _ _ _
  refine PyProof.Rows.callWith_method1 (thn (ha.run pos pins _ σ H _ (I.tok _) h) fun us s1 q => ?_) he hpl
  obtain ⟨vs, H1, I1, r1, a, C, ws, ev, hl, T, ea, q⟩ := q
  subst ev
  cases r1 with
  | @cons _ u0 _ ur ra rt =>
    obtain rfl : u0 = Value.ref a := ra
    exact oinit_ok T I1 ea (by rw [← Paired.length rt, sizeLine_eq]; omega) fun s' J => ⟨.non, H1, J, rfl, q⟩
end

def spX0 (K : PySem.W.Frag) (c : Str) : Sp := fun vs H Q _ => ∃ a : Addr, vs = [.ref a] ∧ H a = some (exo a (ca K c) none) ∧ Q .non H
structure Xg (P : Program) (w : World) (K : PySem.W.Frag) (mg : Str → Option Value) (base : Heap) (c : Str) (sp : Sp) (m : Nat) : Prop where
  xc : XC K c
  gl : mg c = some (.ref (ca K c))
  ex : ∃ (fd : FuncData) (ps : List Str), ps.length = m ∧ FnOk P w K mg base (L2.CX P w) 1 (He.ma K (ca K c) "__init__") fd ps sp ∧ Binds K fd ps []
theorem passes0 {X : Cx} : Passes (L2.CX X.prog X.w) X (fun _ _ _ => False) := fun _ _ _ _ _ _ _ ⟨_, _, _, _, _, _, _, _, _, _, _, _, z⟩ => z.elim

def dRaise (c f : Str) (a : DA) : DS := fun E ρ n => a (E.xx ρ) ρ n fun ds n1 => match ds with
  | [d] => E.ex (c, [(f, d)]) ρ n1
  | _ => False
section
variable {X : Cx} {W : WX} {c f : Str} {e : Expr} {α' : DA} {p pos pos' : Pos}
end

section
variable {X : Cx}
theorem mk_endN {pins : List (Addr × Obj)} {σ : L2.St} {H1 H2 : Hp} {Q : XK} {hp hp2 h2 : Heap} {g1 g2 : Array GenState} {d1 d2 : Drawn} {t1 t2 : Nat} {os1 os2 : OsState} {a C : Addr} (T : Raises X (.ref C)) (I1 : Inv X pins σ H1 ⟨hp, g1, d1, t1, os1⟩)
    (ha : hp.objs.size ≤ a) (k : ∀ b o, hp.get? b = some o → hp2.get? b = some o) (un : Un (frs X.stack) [] (upd H1 a (exo a C none)) H2 hp2 h2) (hok : HOk X.prog X.w H2 h2) (ho : os2 = os1) (hb : AllBare g2)
    (ea : H2 a = some (exo a C none)) (q : Q (.ref C) none (del H2 a)) : MkP X pins σ Q (.ref a) ⟨h2, g2, d2, t2, os2⟩ := by
  obtain ⟨t0, hoe⟩ := exo_at hok ea
  have hn : H1 a = none := I1.hok.fresh ha
  obtain ⟨G, g1', g2'⟩ := restrict h2 fun b => decide (b ≠ a)
  have gk : ∀ b, b ≠ a → G.get? b = h2.get? b := fun b hb => g1' b (decide_eq_true hb)
  have ge : G.get? a = none := g2' a (by simp)
  have nha : ∀ {b : Addr} {o : Obj}, hp.get? b = some o → b ≠ a := fun {b o} z => Nat.ne_of_lt (Nat.lt_of_lt_of_le (Heap.lt_size z) ha)
  have up : ∀ {b : Addr}, b ≠ a → H1 b = none → upd H1 a (exo a C none) b = none := fun {b} hb n => by rw [upd_ne hb]; exact n
  have U : Un (frs X.stack) [] H1 (del H2 a) hp G := {
    keep := fun b o z n hf hx => by rw [gk b (nha z)]; exact un.keep b o (k b o z) (up (nha z) n) hf hx
    slot := fun b o z n hf hx => by rw [gk b (nha z)]; exact un.slot b o (k b o z) (up (nha z) n) hf hx
    free := fun b o z n hx => by rw [del_ne (nha z)]; exact un.free b o (k b o z) (up (nha z) n) hx
    there := fun b o z hx => by rw [gk b (nha z)]; exact un.there b o (k b o z) hx
    tups := fun b xs z => by rw [del_ne (ne_of_none z hn)]; exact un.tups b xs (by rw [upd_ne (ne_of_none z hn)]; exact z)
    frzs := fun b o v z => by rw [del_ne (ne_of_none z hn)]; exact un.frzs b o v (by rw [upd_ne (ne_of_none z hn)]; exact z)
    tbls := fun b ps z => by rw [del_ne (ne_of_none z hn)]; exact un.tbls b ps (by rw [upd_ne (ne_of_none z hn)]; exact z) }
  have hok3 : HOk X.prog X.w (del H2 a) G := fun b o z => by
    have hba : b ≠ a := fun e => by rw [e, del_same] at z; cases z
    rw [del_ne hba] at z
    have noa : ∀ {c : Addr}, H2 c = some (.own b) → c ≠ a := fun {c} hc => at_ne ea hc exo_own
    refine (hok b o z).stay (fun c v hc y => ?_) (fun c hc => by rw [del_ne (noa hc)]; exact hc) (fun c xs hc => by rw [del_ne (at_ne ea hc exo_tup)]; exact hc)
    have hca : c ≠ a := by
      rcases hc with hc | hc
      · rw [hc]; exact hba
      · exact noa hc
    rw [gk c hca]
    exact y
  have J : Inv X pins σ (del H2 a) ⟨G, g2, d2, t2, os2⟩ := I1.call' (ch := []) ho U hok3 hb (fun b z => absurd z (by simp))
  refine ⟨a, _, _, ⟨G, g2, d2, t2, os2⟩, _, .ref C, none, rfl, J, fun b o z => ?_, ge, hoe, ⟨rfl, rfl⟩, rfl, rfl, del_same, rfl, hb, T, q⟩
  by_cases hba : b = a
  · rw [hba, ge] at z; cases z
  · exact (gk b hba).symm.trans z
def tMkN (C : Addr) (sp : Sp) : L2.St → Hp → XK → Prop := fun _ H Q => ∀ a, H a = none → sp [.ref a] (upd H a (exo a C none)) (fun v H2 => v = .non ∧ H2 a = some (exo a C none) ∧ Q (.ref C) none (del H2 a)) (fun _ _ _ => False)
theorem pmk_oex0 {CX : CXT} {x : Str} {C fI : Addr} {k : Nat} {fd : FuncData} {ps : List Str} {sp : Sp} {p pos : Pos} (T : OexC X.K C) (iC : PySem.W.findIn X.K (.ref C) "__init__" = some (some (.ref fI))) (tI : PySem.W.typeIn X.K (.ref fI) = some (.type "function"))
    (F1 : FnOk X.prog X.w X.K X.mg X.base CX k fI fd ps sp) (hr : Room (k + 1) X.A) (hb : Binds X.K fd ps []) (hx : Passes CX X (fun _ _ _ => False)) (hg : Gl X x) (hm : X.mg x = some (.ref C))
    (hdb : (x == ("__debug__" : Str)) = false := by decide) : PMk X (.Call (.Name x p) [] [] pos) (tMkN C sp) := by
  intro pins s σ H Q I h
  obtain ⟨nm, q, N, bs, bm, sn, sub, ab, col, dd, k0, k1, k2, k3, k5, hC, hbm⟩ := T.cls
  refine wpAny_Call_Name_kw (ld_glob I hg hm ?_ hdb)
  refine PySem.W.callWith_K0 I.kIn T.kC ?_
  show wpAny _ _ (call (.ref C) []) _ _ _
  obtain ⟨hp, g, dr, tk, os⟩ := s
  have hsz : hp.objs.size ≤ hp.objs.size + 1 := Nat.le_succ _
  have hq := h (hp.objs.size + 1) (I.hok.fresh hsz)
  have kk : ∀ b o, hp.get? b = some o → ((hp.push (PySem.W.kdv_tup [])).push (PySem.HandSPX.excO C hp.objs.size)).get? b = some o := fun b o e => Heap.get?_push_of_some _ (Heap.get?_push_of_some _ e)
  have hget : ((hp.push (PySem.W.kdv_tup [])).push (PySem.HandSPX.excO C hp.objs.size)).get? (hp.objs.size + 1) = some (PySem.HandSPX.excO C hp.objs.size) := by heap_get
  have I2 : Inv X pins σ (upd H (hp.objs.size + 1) (exo (hp.objs.size + 1) C none)) ⟨(hp.push (PySem.W.kdv_tup [])).push (PySem.HandSPX.excO C hp.objs.size), g, dr, tk, os⟩ :=
    I.laid (t' := tk) (a := hp.objs.size + 1) (o := exo (hp.objs.size + 1) C none) (h' := (hp.push (PySem.W.kdv_tup [])).push (PySem.HandSPX.excO C hp.objs.size)) kk hsz (exo_ok hget)
  have r2 : Vals [V.ref (hp.objs.size + 1)] [Value.ref (hp.objs.size + 1)] := .cons rfl .nil
  have hl : ([Value.ref (hp.objs.size + 1)] ++ []).length = ps.length := by
    have e := F1.len _ _ _ _ hq
    exact e
  refine wpAny_call (PySem.HandSPX.call_own F.excBase_ValueError (fun Y => PySem.HandSPX.refsVE_contains Y bm hbm) (I.kIn _ _ hC) (PySem.W.looks_findIn I.kIn iC) (fun self => PySem.W.bind_fn I.kIn self tI) (Nat.zero_le _)
    (codeAny_mono (F1.run _ X.stack _ _ ⟨[Value.ref (hp.objs.size + 1)], []⟩ [Value.ref (hp.objs.size + 1)] _ _ (fun _ _ _ => False) (hr.make C [] []) (I2.env0.make C [] []) (hb _ [Value.ref (hp.objs.size + 1)] I2.kIn hl) r2 hq) fun r s' hq' => ?_))
  cases r with
  | error er => exact hx pins σ _ _ er s' I2 hq'
  | ok fl =>
    cases fl with
    | ret u =>
      obtain ⟨v, H2, os2, bare2, un2, hok2, rv, ev, ea, q2⟩ := hq'
      subst ev
      obtain ⟨h2, g2, d2, t2, os'⟩ := s'
      exact ⟨rv, mk_endN (raises_own T.exC T.tyC) I hsz kk un2 hok2 os2 bare2 ea q2⟩
    | next => exact False.elim hq'
    | brk => exact False.elim hq'
    | cont => exact False.elim hq'
def dRaise0 (c : Str) : DS := fun E ρ n => E.ex (c, []) ρ n
theorem ps_raise0 {W : WX} {c : Str} {p pos pos' : Pos} (S : Xg X.prog X.w X.K X.mg X.base c (spX0 X.K c) 1) (hr : Room 2 X.A) (hc : X.calm = true) (tk : Takes X W) (hg : Gl X c) (hdb : (c == ("__debug__" : Str)) = false := by decide) : PSD X W (.Raise (some (.Call (.Name c p) [] [] pos)) none pos') (dRaise0 c) := by
  obtain ⟨fd, ps, hl, hF, hb⟩ := S.ex
  refine ⟨_, ps_raise hc tk (pmk_oex0 S.xc.oex S.xc.ini S.xc.fn hF hr hb passes0 hg S.gl hdb), fun B σ H ρ n G α D E hK R L hd => ?_⟩
  intro a na
  refine ⟨a, rfl, upd_same, rfl, upd_same, ?_⟩
  have e3 : del (upd H a (exo a (ca X.K c) none)) a = H := by
    funext b
    by_cases h2 : b = a
    · rw [h2, del_same, na]
    · rw [del_ne h2, upd_ne h2]
  rw [e3]
  exact L.ex _ none σ H ρ n G α (c, []) R ⟨by rw [hK], rfl⟩ hd
end
end DL

end

section
set_option autoImplicit false
namespace DL
open PySem PySem.Spec L2
def xsB (XS : List Str) (sub : Str → Str → Bool) (K : PySem.W.Frag) : Bool := XS.all fun c => XS.all fun c' => decide (PySem.W.exmOne K (.ref (ca K c)) (.ref (ca K c')) = some (sub c c'))
theorem xsB_ok {XS : List Str} {sub : Str → Str → Bool} {K : PySem.W.Frag} (h : xsB XS sub K = true) : ∀ c ∈ XS, ∀ c' ∈ XS, PySem.W.exmOne K (.ref (ca K c)) (.ref (ca K c')) = some (sub c c') := fun c hc c' hc' =>
  of_decide_eq_true (List.all_eq_true.mp (List.all_eq_true.mp h c hc) c' hc')
def dTry (XS : List Str) (sub : Str → Str → Bool) (c : Str) (b s : DS) : DS := fun E ρ n => b { E with ex := fun e ρ' n' => e.1 ∈ XS ∧ if sub e.1 c = true then s { E with ex := fun _ _ _ => False } ρ' n' else E.ex e ρ' n' } ρ n
section
variable {X : Cx} {W : WX} {c : Str} {body suite : List Stmt} {b₀ : Stmt} {np pos pos' : Pos} {b s : DS} {XS : List Str} {sub : Str → Str → Bool}
end
end DL

end

section
set_option autoImplicit false
namespace DL
open PySem PySem.Spec L2
def eqB (CS : List Str) (c : Str) (K : PySem.W.Frag) : Bool := (tysN.all fun T => PySem.W.notFirst K (ca K c) (.type T)) && CS.all fun c' => PySem.W.notFirst K (ca K c) (.ref (ca K c'))
theorem eqB_ok {CS : List Str} {c : Str} {K : PySem.W.Frag} (h : eqB CS c K = true) {d : D} {t : Ty} (e : tyD d = some t) (hc : ∀ c', t = .own c' → c' ∈ CS) : PySem.W.notFirst K (ca K c) (t.val K) = true := by
  obtain ⟨h1, h2⟩ := He.ba h
  cases t with
  | b n => exact List.all_eq_true.mp h1 n (tyD_mem e)
  | own c' => exact List.all_eq_true.mp h2 c' (hc c' rfl)
section
variable {X : Cx} {W : WX} {k : Nat} {f C : Addr} {fd : FuncData} {ps : List Str} {sp : Sp} {E : L2.St → XK} {a b : Expr} {ta tb : TE} {pos : Pos} {m c : Str}
def tEqO (K : PySem.W.Frag) (C : Addr) (sp : Sp) (E : L2.St → XK) (ta tb : TE) : TE := fun σ H Q => ta σ H fun x H1 => tb σ H1 fun y H2 => ∃ a dx fs t, x = .ref a ∧ H2 a = some (.ins C dx fs) ∧ TyX K H2 y t ∧ PySem.W.notFirst K C t = true ∧ sp [x, y] H2 Q (E σ)
theorem pe_eqO {CX : CXT} (hm : Meth X.K C "__eq__" f) (F : FnOk X.prog X.w X.K X.mg X.base CX k f fd ps sp) (hr : Room k X.A) (hb : Binds X.K fd ps []) (hx : ∀ σ, PassesAt CX X σ (E σ)) (ha : PE X a ta) (hb' : PE X b tb) : PE X (.Compare a [.Eq] [b] pos) (tEqO X.K C sp E ta tb) := by
  refine ⟨fun pins s σ H Q I h => ?_⟩
  refine wpAny_Compare1 (binT ha hb' I h fun v u s2 x y H2 I2 rx ry q => ?_) (nomark _)
  obtain ⟨p, dx, fs, t, ex, ea, ty, hn, hsp⟩ := q
  subst ex
  obtain rfl : v = Value.ref p := rx
  obtain ⟨mA, J, _⟩ := ins_get I2.hok ea
  obtain ⟨od, J, _⟩ := J.look
  obtain ⟨P, kx, hP, _⟩ := kit_of I2 ry ty
  obtain ⟨mm, hF⟩ := I2.fr
  show wpAny _ _ (richCompare .Eq (.ref p) u) _ _ _
  refine PySem.W.cmp_K (op := .Eq) (tb := t) hr.units0 hF I2.ok.mod.kin J (kx.ty _ _ I2.kIn hP) hn hm.at_ hm.fn ?_
  refine wpAny_mono (run_fnSD (us := [.ref p, u]) (vs := [.ref p, y]) (dvs := []) (ds := []) (Q := Q) F hr hb .nil (hx σ) I2 (.cons rfl (.cons ry .nil)) hsp) (fun w s' z => ?_) fun _ _ h => h
  obtain ⟨z', H', I', rz, qz⟩ := z
  exact SlX.cmpback rz ⟨z', H', I', rz, qz⟩
end
def dEqO (CS : List Str) (c : Str) (F : DF) (a b : DE) : DE := fun x ρ n q => a x ρ n fun u n1 => b x ρ n1 fun v n2 => (∃ fs, u = .obj c fs) ∧ opt (tyD v) fun t => (∀ c', t = .own c' → c' ∈ CS) ∧ F x.w [u, v] n2 q x.ex
section
variable {X : Cx} {W : WX} {k : Nat} {F : DF} {c : Str} {a b : Expr} {δa δb : DE} {pos : Pos} {CS : List Str}
theorem pd_eqO (hcs : ∀ c ∈ CS, TyF X.K c) (hq : eqB CS c X.K = true) (S : Mg X.prog X.w X.K X.mg X.base c "__eq__" k 2 F []) (hr : Room k X.A) (tk : Takes X W) (ha : PD X W a δa) (hb : PD X W b δb) : PD X W (.Compare a [.Eq] [b] pos) (dEqO CS c F δa δb) := by
  obtain ⟨ta, pa, ea⟩ := ha
  obtain ⟨tb, pb, eb⟩ := hb
  obtain ⟨f, fd, ps, ds, dvs, hF, hm, hbd, hd, hdv⟩ := S.ex
  have ev : dvs = [] := by
    have z := (hdv (fun _ => none)).length
    exact List.length_eq_zero_iff.mp z.symm
  subst ev
  cases hd
  refine ⟨_, pe_eqO hm hF hr hbd (fun σ => passAt tk σ) pa pb, fun B σ H ρ n G α Q x q hK R hx h kk => ?_⟩
  refine ea B σ H ρ n G α _ x _ hK R hx h fun v1 H1 G1 d1 n1 s1 j1 r1 h1 => ?_
  have R1 := R.step s1 j1
  refine eb B σ H1 ρ n1 G1 α _ x _ hK R1 (hx.step s1) h1 fun v2 H2 G2 d2 n2 s2 j2 r2 h2 => ?_
  have R2 := R1.step s2 j2
  obtain ⟨⟨fs, e1⟩, h2⟩ := h2
  obtain ⟨t, et, hc, h2⟩ := opt_some h2
  subst e1
  have r1' := r1.mono s2.le
  have rr := r1'
  cases rr with
  | obj e r =>
    rw [hx.1] at h2
    have hx2 := (hx.step s1).step s2
    exact ⟨_, _, _, _, rfl, s2.hh.get e, RepB.tyX (W := B.W) s2.hh (.inl r2) et (fun c' ec => hcs c' (hc c' ec)), eqB_ok hq et hc, B.W, n2, G2, _, q, x.ex, s2.hh, R2.rg, j2, .cons r1' (.cons r2 .nil), rfl, h2, fun v H' G' d n' s j r hq => kk v H' G' d n' ((s1.trans s2).trans s) j r hq, fun cc dd H' G' e n' s j r hq => hx2.2 cc dd H' G' e n' s j (hK ▸ r) hq⟩
end
end DL
namespace DL
open PySem PySem.Spec L2
section
variable {X : Cx} {W : WX} {k : Nat} {f C : Addr} {fd : FuncData} {ps : List Str} {sp : Sp} {E : L2.St → XK} {e : Expr} {te : TE} {c : Str} {F : DF} {δ : DE}
def dTruO (c : Str) (F : DF) (δ : DE) : DT := fun x ρ n q => δ x ρ n fun u n1 => (∃ fs, u = .obj c fs) ∧ F x.w [u] n1 (fun d n2 => match d with
  | .bl b => q b n2
  | _ => False) x.ex
end
end DL
namespace DL
open PySem PySem.Spec L2
section
variable {X : Cx} {W : WX} {k : Nat} {f C : Addr} {fd : FuncData} {ps : List Str} {sp : Sp} {E : L2.St → XK} {a b : Expr} {ta tb : TE} {c : Str} {F : DF} {δa δb : DE} {pos : Pos}
def dGetO (c : Str) (F : DF) (a b : DE) : DE := fun x ρ n q => a x ρ n fun u n1 => b x ρ n1 fun v n2 => (∃ fs, u = .obj c fs) ∧ F x.w [u, v] n2 q x.ex
end
end DL
namespace DL
open PySem PySem.Spec L2
section
variable {X : Cx} {W : WX} {k : Nat} {f C : Addr} {fd : FuncData} {ps : List Str} {sp : Sp} {E : L2.St → XK} {a : Expr} {ta : TE} {c : Str} {F : DF} {δa : DE} {pos : Pos}
def dNegO (c : Str) (F : DF) (a : DE) : DE := fun x ρ n q => a x ρ n fun u n1 => (∃ fs, u = .obj c fs) ∧ F x.w [u] n1 q x.ex
end
end DL

end

section
set_option autoImplicit false
namespace DL
open PySem PySem.Spec L2
theorem spW_intro {K : PySem.W.Frag} {B : Bs} {W : WX} {σ : L2.St} {H G : Hp} {ρ : Env} {α : Nat → Addr} {n m : Nat} {ds : List D} {vs : List V} {F : DF} {q : DQ} {x : DX} {Q : VK} (hK : B.K = K) (R : RelB B σ H ρ n G α) (hx : XL B W σ H G x) (r : RepL K G ds vs) (hl : ds.length = m) (hF : F x.w ds n q x.ex)
    (kk : ∀ v H' G' d n', Step B.W H G H' G' → B.W.J n' H' → Rep K G' d v → q d n' → Q v H') : spW K m F vs H Q (fun c d H' => W c d σ H') := by
  rw [hx.1] at hF
  exact ⟨B.W, n, G, ds, q, x.ex, R.le, R.rg, R.J, r, hl, hF, kk, fun cc dd H' G' e n' s j r hq => hx.2 cc dd H' G' e n' s j (hK ▸ r) hq⟩
theorem Mg.get {P : Program} {w : World} {K : PySem.W.Frag} {mg : Str → Option Value} {base : Heap} {c x : Str} {k m : Nat} {F : DF} (S : Mg P w K mg base c x k m F []) : ∃ f fd ps, FnOk P w K mg base (L2.CX P w) k f fd ps (spW K m F) ∧ Meth K (ca K c) x f ∧ Binds K fd ps [] := by
  obtain ⟨f, fd, ps, ds, dvs, hF, hm, hbd, hd, hdv⟩ := S.ex
  have ev : dvs = [] := by
    have z := (hdv (fun _ => none)).length
    exact List.length_eq_zero_iff.mp z.symm
  subst ev
  cases hd
  exact ⟨f, fd, ps, hF, hm, hbd⟩
theorem run_in1 {X : Cx} {CX : CXT} {k : Nat} {f : Addr} {fd : FuncData} {ps : List Str} {sp : Sp} {E : XK} {Q : VK} {us : List Value} {vs : List V} {pins : List (Addr × Obj)} {σ : L2.St} {H : Hp} {s : Shared} (F : FnOk X.prog X.w X.K X.mg X.base CX k f fd ps sp) (hr : Room (k + 1) X.A) (hb : Binds X.K fd ps []) (hx : PassesAt CX X σ E) (I : Inv X pins σ H s) (r : Vals vs us) (hsp : sp vs H Q E) :
    wpAny (model X.prog X.w) X.A.in1 (call (.ref f) us) (EP X pins σ Q) X.xe s := by
  have hl : (us ++ []).length = ps.length := by
    have e := r.length
    rw [F.len _ _ _ _ hsp] at e
    simpa using e.symm
  refine wpAny_call (codeAny_mono (F.run _ X.stack _ _ ⟨us, []⟩ us _ _ E hr.in1 I.env0.in1 (by
    have z := hb _ us I.kIn hl
    simpa using z) r hsp) fun r s' hq' => ?_)
  cases r with
  | error e => exact hx pins _ _ e s' I hq'
  | ok fl =>
    cases fl with
    | ret u => exact I.after hq'
    | next => exact False.elim hq'
    | brk => exact False.elim hq'
    | cont => exact False.elim hq'

def neB (CS : List Str) (c : Str) (K : PySem.W.Frag) : Bool := eqB CS c K && (decide (PySem.W.findIn K (.ref (ca K c)) "__ne__" = some (some (.builtin "object.__ne__"))) && decide (PySem.W.subIn K (.ref (ca K c)) (.type "object") = some true))
section
variable {prog : Program} {w : World} {A : Around} {E : Value → Shared → Prop} {s : Shared} {K : PySem.W.Frag} {x C f : Addr} {ox : Obj} {od : Option Obj} {b : Value}
open PySem.W
theorem objNe_K {Q : Fin → Shared → Prop} (X : K.In s.heap) (I : InstAt s.heap x ox C od) (hs : findIn K (.ref C) "__eq__" = some (some (.ref f))) (hf : isFn K (.ref f) = true) (hu : A.units < cLine)
    (hcall : wpAny (model prog w) A (call (.ref f) [.ref x, b]) (fun v s' => ∃ k, v = .bool k ∧ Q (.done (.ret (.bool (!k)))) s') E s) :
    wpAny (model prog w) A (Builtin.«object.__ne__» ⟨[.ref x, b], []⟩) Q E s := by
  unfold Builtin.«object.__ne__»
  repeat (first
    | with_reducible refine wpAny_cRoomFor hu ?_
    | (refine wpAny_bind (m := callSpecialIfBound? (.ref x) (Str.ofString "__eq__") [b])
        (ifBound_K X I hs hf (wpAny_mono hcall (fun r s' hr => by
          obtain ⟨k, rfl, hq⟩ := hr
          repeat (first | exact hq | exact wpAny_pure hq | exact wpAny_truthy_bool hq | (refine wpAny_bind (m := truthy (.bool _)) (wpAny_truthy_bool ?_)) | wp_step)) fun _ _ e => e)))
    | wp_step)
theorem isi_obj_K {Q : Bool → Shared → Prop} (X : K.In s.heap) (I : InstAt s.heap x ox C od) (hsb : subIn K (.ref C) (.type "object") = some true) (q : Q true s) : wpAny (model prog w) A (isInstance (.ref x) (.type "object")) Q E s := by
  unfold isInstance
  exact wpAny_bind (I.type.here ((looks_subIn X hsb).here q))
theorem checkNe_K {rest : List Value} {Q : Unit → Shared → Prop} (X : K.In s.heap) (I : InstAt s.heap x ox C od) (hsb : subIn K (.ref C) (.type "object") = some true) (ha : argsOk "object.__ne__" ⟨.ref x :: rest, []⟩) (hq : Q () s) : wpAny (model prog w) A (checkBuiltinCall "object.__ne__" ⟨.ref x :: rest, []⟩) Q E s := by
  simp only [checkBuiltinCall, F.cmpKind_ne, F.cmpSplit_ne]
  refine wpAny_bind (isi_obj_K X I hsb ?_)
  simp only [Bool.not_true, Bool.false_eq_true, if_false]
  cases hsig : Manifest.signature? "object.__ne__" with
  | none => exact wpAny_pure hq
  | some sig =>
    simp only [argsOk, hsig] at ha
    have h2 : Bind.checkArgs "object.__ne__" sig ⟨.ref x :: rest, []⟩ = pure () := ha
    show wpAny _ A (Bind.checkArgs "object.__ne__" sig ⟨.ref x :: rest, []⟩) Q E _
    rw [h2]; exact wpAny_pure hq
theorem ifBoundB_K {M : Model} {name : Str} {id : String} {args : List Value} {Q : Option Value → Shared → Prop} (X : K.In s.heap) (I : InstAt s.heap x ox C od) (hs : findIn K (.ref C) name = some (some (.builtin id))) (hb : ∀ self, bindSpecial (.builtin id) self = pure (.builtin id, [self]))
    (h : wpAny M A (call (.builtin id) (.ref x :: args)) (fun v => Q (some v)) E s) : wpAny M A (callSpecialIfBound? (.ref x) name args) Q E s := by
  simp only [callSpecialIfBound?, bindSpecialIfBound?]
  refine wpAny_holding (wpAny_bind (wpAny_bind (wpAny_bind (I.type.here ((looks_findIn X hs).here ?_)))))
  simp only [hb]
  refine wpAny_bind (wpAny_askSetting (wpAny_ite ?_))
  have fin : wpAny M A (call (.builtin id) ([.ref x] ++ args) >>= fun v => pure (some v)) Q E s := wpAny_bind (wpAny_mono h (fun v s' h' => wpAny_pure h') fun _ _ h' => h')
  split
  · exact wpAny_bind (wpAny_pure (wpAny_pure fin))
  · exact wpAny_tryCatch (wpAny_bind (wpAny_pure (wpAny_pure fin)))
theorem ne_K {tb : Value} {h₀ : Heap} {L : List Addr} {m : Nat} {Q : Value → Shared → Prop} (hu : A.units + 1 < cLine) (X : K.In s.heap) (I : InstAt s.heap x ox C od) (hb : Looks (model prog w) s.heap (typeOf b) tb) (hn : notFirst K C tb = true)
    (hs : findIn K (.ref C) "__eq__" = some (some (.ref f))) (hf : isFn K (.ref f) = true) (hne : findIn K (.ref C) "__ne__" = some (some (.builtin "object.__ne__"))) (hsb : subIn K (.ref C) (.type "object") = some true)
    (h : wpAny (model prog w) A.in1 (call (.ref f) [.ref x, b]) (fun v s' => ∃ k, v = .bool k ∧ Q (.bool (!k)) s') E s) : wpAny (model prog w) A (richCompare .NotEq (.ref x) b) Q E s := by
  have one : wpAny (model prog w) A (tryCompare (.ref x) "__ne__" b) (fun r s' => ∃ v, r = some v ∧ Q v s') E s := by
    unfold tryCompare
    refine wpAny_bind (ifBoundB_K X I hne F.cmp_object.ne.bind (wpAny_call (codeAny_call_builtin F.cmp_object.ne.plain F.cmpEntry_ne (checkNe_K X I hsb (F.cmpArgs_ne _ _) (objNe_K (A := A.in1) X I hs hf hu (wpAny_mono h (fun v s' hv => ?_) fun _ _ e => e))))))
    obtain ⟨k, rfl, hq⟩ := hv
    exact ⟨k, rfl, wpAny_pure ⟨_, rfl, hq⟩⟩
  unfold richCompare
  simp only [oneThing_ref]
  refine wpAny_holding (wpAny_bind (wpAny_cRoomFor (Nat.lt_of_succ_lt hu) ?_))
  rw [cmpInfo_NotEq]
  dsimp only
  refine wpAny_bind (I.type.here (wpAny_bind (hb.here ?_)))
  split
  · rename_i q
    have e : subIn K tb (.ref C) = some false := by
      rcases Bool.or_eq_true_iff.mp hn with e | e
      · rw [beq_iff_eq.mp e] at q; simp at q
      · exact beq_iff_eq.mp e
    refine wpAny_bind ((looks_subIn X e).here ?_)
    simp only [Bool.false_eq_true, if_false]
    refine wpAny_bind (wpAny_mono one (fun r s' z => ?_) fun _ _ e => e)
    obtain ⟨v, rfl, hq⟩ := z
    exact wpAny_pure hq
  · refine wpAny_bind (wpAny_pure ?_)
    simp only [Bool.false_eq_true, if_false]
    refine wpAny_bind (wpAny_mono one (fun r s' z => ?_) fun _ _ e => e)
    obtain ⟨v, rfl, hq⟩ := z
    exact wpAny_pure hq
end
end DL
namespace DL
open PySem PySem.Spec L2
section
variable {X : Cx} {W : WX} {k : Nat} {f C : Addr} {fd : FuncData} {ps : List Str} {sp : Sp} {E : L2.St → XK} {a b : Expr} {ta tb : TE} {pos : Pos} {m c : Str}
def tNeO (K : PySem.W.Frag) (C : Addr) (sp : Sp) (E : L2.St → XK) (ta tb : TE) : TE := fun σ H Q => ta σ H fun x H1 => tb σ H1 fun y H2 => ∃ a dx fs t, x = .ref a ∧ H2 a = some (.ins C dx fs) ∧ TyX K H2 y t ∧ PySem.W.notFirst K C t = true ∧ sp [x, y] H2 (fun v H3 => ∃ k, v = .bl k ∧ Q (.bl (!k)) H3) (E σ)
theorem pe_neO {CX : CXT} (hm : Meth X.K C "__eq__" f) (hne : PySem.W.findIn X.K (.ref C) "__ne__" = some (some (.builtin "object.__ne__"))) (hsb : PySem.W.subIn X.K (.ref C) (.type "object") = some true) (F : FnOk X.prog X.w X.K X.mg X.base CX k f fd ps sp) (hr : Room (k + 1) X.A) (hb : Binds X.K fd ps []) (hx : ∀ σ, PassesAt CX X σ (E σ)) (ha : PE X a ta) (hb' : PE X b tb) : PE X (.Compare a [.NotEq] [b] pos) (tNeO X.K C sp E ta tb) := by
  refine ⟨fun pins s σ H Q I h => ?_⟩
  refine wpAny_Compare1 (binT ha hb' I h fun v u s2 x y H2 I2 rx ry q => ?_) (nomark _)
  obtain ⟨p, dx, fs, t, ex, ea, ty, hn, hsp⟩ := q
  subst ex
  obtain rfl : v = Value.ref p := rx
  obtain ⟨mA, J, _⟩ := ins_get I2.hok ea
  obtain ⟨od, J, _⟩ := J.look
  obtain ⟨P, kx, hP, _⟩ := kit_of I2 ry ty
  show wpAny _ _ (richCompare .NotEq (.ref p) u) _ _ _
  refine ne_K (tb := t) (h₀ := X.base) (L := []) (m := 0) (by have := hr.units; omega) I2.kIn J (kx.ty _ _ I2.kIn hP) hn hm.at_ hm.fn hne hsb ?_
  refine wpAny_mono (run_in1 (us := [.ref p, u]) (vs := [.ref p, y]) F hr hb (hx σ) I2 (.cons rfl (.cons ry .nil)) hsp) (fun w s' z => ?_) fun _ _ h => h
  obtain ⟨z', H', I', rz, k, ek, qz⟩ := z
  subst ek
  obtain rfl : w = Value.bool k := rz
  exact ⟨k, rfl, .bl (!k), H', I', rfl, qz⟩
end
def dNeO (CS : List Str) (c : Str) (F : DF) (a b : DE) : DE := fun x ρ n q => a x ρ n fun u n1 => b x ρ n1 fun v n2 => (∃ fs, u = .obj c fs) ∧ opt (tyD v) fun t => (∀ c', t = .own c' → c' ∈ CS) ∧ F x.w [u, v] n2 (bd fun k n3 => q (.bl (!k)) n3) x.ex
section
variable {X : Cx} {W : WX} {k : Nat} {F : DF} {c : Str} {a b : Expr} {δa δb : DE} {pos : Pos} {CS : List Str}
theorem pd_neO (hcs : ∀ c ∈ CS, TyF X.K c) (hq : neB CS c X.K = true) (S : Mg X.prog X.w X.K X.mg X.base c "__eq__" k 2 F []) (hr : Room (k + 1) X.A) (tk : Takes X W) (ha : PD X W a δa) (hb : PD X W b δb) : PD X W (.Compare a [.NotEq] [b] pos) (dNeO CS c F δa δb) := by
  obtain ⟨ta, pa, ea⟩ := ha
  obtain ⟨tb, pb, eb⟩ := hb
  obtain ⟨f, fd, ps, hF, hm, hbd⟩ := S.get
  obtain ⟨hq, hq2⟩ := He.ba hq
  obtain ⟨hq2, hq3⟩ := He.ba hq2
  refine ⟨_, pe_neO hm (of_decide_eq_true hq2) (of_decide_eq_true hq3) hF hr hbd (fun σ => passAt tk σ) pa pb, fun B σ H ρ n G α Q x q hK R hx h kk => ?_⟩
  refine ea B σ H ρ n G α _ x _ hK R hx h fun v1 H1 G1 d1 n1 s1 j1 r1 h1 => ?_
  have R1 := R.step s1 j1
  refine eb B σ H1 ρ n1 G1 α _ x _ hK R1 (hx.step s1) h1 fun v2 H2 G2 d2 n2 s2 j2 r2 h2 => ?_
  have R2 := R1.step s2 j2
  obtain ⟨⟨fs, e1⟩, h2⟩ := h2
  obtain ⟨t, et, hc, h2⟩ := opt_some h2
  subst e1
  have r1' := r1.mono s2.le
  have rr := r1'
  cases rr with
  | obj e r =>
    refine ⟨_, _, _, _, rfl, s2.hh.get e, RepB.tyX (W := B.W) s2.hh (.inl r2) et (fun c' ec => hcs c' (hc c' ec)), eqB_ok hq et hc, ?_⟩
    refine spW_intro hK R2 ((hx.step s1).step s2) (.cons r1' (.cons r2 .nil)) rfl h2 fun v H' G' d n' s j r hq => ?_
    cases d with
    | bl b => cases r; exact ⟨b, rfl, kk _ H' G' _ n' ((s1.trans s2).trans s) j (.bl _) hq⟩
    | _ => exact hq.elim
end

section
variable {X : Cx} {W : WX} {k : Nat} {f C : Addr} {fd : FuncData} {ps : List Str} {sp : Sp} {E : L2.St → XK} {e : Expr} {te : TE} {c : Str} {F : DF} {δ : DE} {pos p : Pos}
def dNotO (c : Str) (F : DF) (δ : DE) : DE := fun x ρ n q => δ x ρ n fun u n1 => (∃ fs, u = .obj c fs) ∧ F x.w [u] n1 (bd fun b n2 => q (.bl (!b)) n2) x.ex
end
end DL
namespace DL
open PySem PySem.Spec PySem.W
section
variable {prog : Program} {w : World} {A : Around} {E : Value → Shared → Prop} {s : Shared} {K : Frag} {x C f g dx : Addr} {od : Option Obj}
end
end DL
namespace DL
open PySem PySem.Spec L2
section
variable {X : Cx} {W : WX} {k : Nat} {f : Addr} {fd : FuncData} {ps : List Str} {sp : Sp} {E : L2.St → XK} {a b : Expr} {ta tb : TE} {c : Str} {F : DF} {δa δb : DE} {pos : Pos}
def dRmulO (c : Str) (F : DF) (a b : DE) : DE := fun x ρ n q => a x ρ n fun u n1 => b x ρ n1 fun v n2 => (∃ i, u = .int i) ∧ (∃ fs, v = .obj c fs) ∧ F x.w [v, u] n2 q x.ex
end
end DL

end

section
set_option autoImplicit false
namespace DL
open PySem PySem.Spec PySem.W PyProof.Rows L2
structure TSrc (prog : Program) (w : World) (A : Around) (I d : Addr) (wr : List Addr) (qs : List (V × V)) (St : Nat → Heap → Prop) : Prop where
  off : d ∉ wr
  frame : ∀ i h h', St i h → (∀ b o, b ≠ d → h.get? b = some o → h'.get? b = some o) → St i h'
  item : ∀ i (s : Shared) (Q : Option Value → Shared → Prop) (E : Value → Shared → Prop) (q : V × V), qs[i]? = some q → St i s.heap → d < s.heap.objs.size →
    (∀ k v h' tk, RelV q.1 k → RelV q.2 v → h'.get? s.heap.objs.size = some { cls := .type "tuple", data := .seq #[k, v] } → h'.objs.size = s.heap.objs.size + 1 → St (i + 1) h' → (∀ b o, b ∉ wr → s.heap.get? b = some o → h'.get? b = some o) → Q (some (.ref s.heap.objs.size)) { s with heap := h', toks := tk }) → wpAny (model prog w) A (pyNext (.ref I)) Q E s
  done : ∀ (s : Shared) (Q : Option Value → Shared → Prop) (E : Value → Shared → Prop), St qs.length s.heap →
    (∀ h' tk, (∀ b o, b ∉ wr → s.heap.get? b = some o → h'.get? b = some o) → Q none { s with heap := h', toks := tk }) → wpAny (model prog w) A (pyNext (.ref I)) Q E s
structure TOut (qs : List (V × V)) (lo : Addr) (h : Heap) (as : List Addr) : Prop where
  rise : as.Pairwise (· < ·)
  above : ∀ a ∈ as, lo ≤ a
  pairs : ∀ (j : Nat) (a : Addr), as[j]? = some a → ∃ q k v, qs[j]? = some q ∧ RelV q.1 k ∧ RelV q.2 v ∧ h.get? a = some { cls := .type "tuple", data := .seq #[k, v] }
theorem TOut.there {qs : List (V × V)} {lo : Addr} {h : Heap} {as : List Addr} (g : TOut qs lo h as) {a : Addr} (ha : a ∈ as) : a < h.objs.size := by
  obtain ⟨j, hj⟩ := List.mem_iff_getElem?.mp ha
  obtain ⟨_, _, _, _, _, _, e⟩ := g.pairs j a hj
  exact Heap.lt_size e
section
variable {prog : Program} {w : World} {A : Around} {s : Shared} {R : Result → Shared → Prop} {qs : List (V × V)} {S I lo : Addr} {wr : List Addr} {St : Nat → Heap → Prop}
end
structure TArg (prog : Program) (w : World) (A : Around) (T : String) (a : Addr) (fp wr : List Addr) (qs : List (V × V)) (OK : Heap → Prop) : Prop where
  type : ∀ s : Shared, OK s.heap → s.TypeIs (.ref a) T
  nl : (Value.type T == Value.type "list") = false
  nt : (Value.type T == Value.type "tuple") = false
  len : typeLookup (.type T) "__len__" = pure none
  hint : typeLookup (.type T) "__length_hint__" = pure none
  mem : a ∈ fp
  sub : ∀ b ∈ wr, b ∈ fp
  keep : ∀ h h', OK h → (∀ b o, b ∈ fp → h.get? b = some o → h'.get? b = some o) → OK h'
  there : ∀ h, OK h → ∀ b ∈ fp, ∃ o, h.get? b = some o
  iter : ∀ (s : Shared) (d : Addr) (Q : Value → Shared → Prop) (E : Value → Shared → Prop), OK s.heap → d < s.heap.objs.size → d ∉ fp →
    (∀ St, TSrc prog w A a d wr qs St → St 0 s.heap → Q (.ref a) s) → wpAny (model prog w) A (pyIter (.ref a)) Q E s
section
variable {prog : Program} {w : World} {A : Around} {E : Value → Shared → Prop} {s : Shared} {T : String} {a : Addr} {fp wr : List Addr} {qs : List (V × V)} {OK : Heap → Prop}
end
section
variable {prog : Program} {w : World} {A : Around}
def enQ (xs : List V) : List (V × V) := (List.range xs.length).map fun i => (V.int (i : Nat), xs.getD i .non)
theorem enQ_get {xs : List V} {i : Nat} {q : V × V} (h : (enQ xs)[i]? = some q) : i < xs.length ∧ q.1 = .int (i : Nat) ∧ xs[i]? = some q.2 := by
  unfold enQ at h
  rw [List.getElem?_map] at h
  by_cases hi : i < xs.length
  · rw [List.getElem?_range hi] at h
    cases h
    exact ⟨hi, rfl, by simp [List.getD, hi]⟩
  · rw [List.getElem?_eq_none (by simpa using hi)] at h
    cases h
theorem TArg.enumerate (hA : A.handled = none) (e it l : Addr) (hei : e ≠ it) (hle : l ≠ e) (hli : l ≠ it) (xs : List V) (its : List Value) (r : Vals xs its) :
    TArg prog w A "enumerate" e [e, it, l] [e, it] (enQ xs) (fun h => (∃ old, IsEnum h e it 0 old) ∧ h.IsListIter it l 0 ∧ h.IsList l its.toArray) where
  type := fun s ok => let ⟨⟨_, he⟩, _⟩ := ok; ⟨_, he, rfl⟩
  nl := by decide
  nt := by decide
  len := by rw [typeLookup_type, builtinLookup_eq_fast]; kernel_rfl
  hint := by rw [typeLookup_type, builtinLookup_eq_fast]; kernel_rfl
  mem := List.mem_cons_self ..
  sub := fun b hb => by simp at hb ⊢; rcases hb with rfl | rfl <;> simp
  keep := fun h h' ok hk => by
    obtain ⟨⟨old, he⟩, hit, hl⟩ := ok
    exact ⟨⟨old, hk _ _ (by simp) he⟩, hit.at fun o x => hk _ o (by simp) x, hl.at fun o x => hk _ o (by simp) x⟩
  there := fun h ok b hb => by
    obtain ⟨⟨old, he⟩, ⟨o1, h1, _⟩, ⟨o2, h2, _⟩⟩ := ok
    simp only [List.mem_cons, List.not_mem_nil, or_false] at hb
    rcases hb with rfl | rfl | rfl
    all_goals first | exact ⟨_, he⟩ | exact ⟨_, h1⟩ | exact ⟨_, h2⟩
  iter := fun s d Q E ok hd hdf h => by
    obtain ⟨⟨old, he⟩, hit, hl⟩ := ok
    simp only [List.mem_cons, List.not_mem_nil, or_false, not_or] at hdf
    obtain ⟨de, dit, dl⟩ := hdf
    refine wpAny_pyIter_enum he (h (fun i h => h.IsListIter it l i ∧ h.IsList l its.toArray ∧ ((∃ old, IsEnum h e it i old) ∨ ∃ old T f oT, IsEnumHeld h e it i old T f ∧ h.get? T = some oT ∧ T ≠ e ∧ T ≠ it ∧ T ≠ d)) ?_
      ⟨hit, hl, .inl ⟨old, he⟩⟩)
    exact {
      off := fun hm => by
        simp only [List.mem_cons, List.not_mem_nil, or_false] at hm
        rcases hm with x | x
        · exact de x
        · exact dit x
      frame := fun i h₁ h₂ st hk => by
        obtain ⟨hit, hl, he⟩ := st
        refine ⟨hit.at fun o x => hk _ o (Ne.symm dit) x, hl.at fun o x => hk _ o (Ne.symm dl) x, ?_⟩
        rcases he with ⟨old, he⟩ | ⟨old, T, f, oT, he, hT, r1, r2, r3⟩
        · exact .inl ⟨old, hk _ _ (Ne.symm de) he⟩
        · exact .inr ⟨old, T, f, oT, hk _ _ (Ne.symm de) he, hk _ _ r3 hT, r1, r2, r3⟩
      item := fun i s₁ Q₁ E₁ q hq st hds hQ => by
        obtain ⟨hit, hl, he⟩ := st
        obtain ⟨hi, eq1, eq2⟩ := enQ_get hq
        obtain ⟨u, hu, ru⟩ := r.get eq2
        have ex : its.toArray[i]? = some u := by simpa using hu
        have ec : ((i + 1 : Nat) : Int) = (i : Int) + 1 := by omega
        have nit : s₁.heap.objs.size ≠ it := let ⟨_, x, _⟩ := hit; Nat.ne_of_gt (Heap.lt_size x)
        rcases he with ⟨old, he⟩ | ⟨old, T, f, oT, he, hT, r1, r2, r3⟩
        · refine wpAny_pyNext_enum_item he hit hl ex hei fun h' ho hit' hT hsz hk => ?_
          exact hQ _ _ h' (s₁.toks + 1) (by rw [eq1]; exact ⟨_, rfl⟩) ru hT hsz
            ⟨hit', hl.at fun o x => hk l o hle hli x, .inr ⟨_, s₁.heap.objs.size, false, _, (by rw [ec]; exact ho), hT, Nat.ne_of_gt (Heap.lt_size he), nit, Nat.ne_of_gt hds⟩⟩
            fun b o hb x => hk b o (fun y => hb (by simp [y])) (fun y => hb (by simp [y])) x
        · refine wpAny_pyNext_enum_item_held he hT r1 r2 hit hl ex hei fun h' ho hit' hT' hsz hk => ?_
          exact hQ _ _ h' (s₁.toks + 1) (by rw [eq1]; exact ⟨_, rfl⟩) ru hT' hsz
            ⟨hit', hl.at fun o x => hk l o hle hli x, .inr ⟨old, T, true, oT, (by rw [ec]; exact ho), hk _ _ r1 r2 hT, r1, r2, r3⟩⟩
            fun b o hb x => hk b o (fun y => hb (by simp [y])) (fun y => hb (by simp [y])) x
      done := fun s₁ Q₁ E₁ st hQ => by
        obtain ⟨hit, hl, he⟩ := st
        have hx : its.toArray[(enQ xs).length]? = none := by
          have := r.length
          simp [enQ]; omega
        rcases he with ⟨old, he⟩ | ⟨old, T, f, oT, he, hT, r1, r2, r3⟩
        · exact wpAny_pyNext_enum_end hA he hit hl hx fun h' hk => hQ h' s₁.toks fun b o hb x => hk b o (fun y => hb (by simp [y])) x
        · exact wpAny_pyNext_enum_end_held hA he hit hl hx fun h' hk => hQ h' s₁.toks fun b o hb x => hk b o (fun y => hb (by simp [y])) x }
theorem TArg.zip (hA : A.handled = none) (z TI TO i1 i2 l1 l2 : Addr) (D : ZipApart z TI TO i1 i2 l1 l2) (vs us : List V) (xs ys : List Value) (r1 : Vals vs xs) (r2 : Vals us ys) :
    TArg prog w A "zip" z [z, TI, TO, i1, i2, l1, l2] [z, TO, i1, i2] (vs.zip us)
      (fun h => IsZip h z TI TO .none ∧ IsPair h TI (.ref i1) (.ref i2) ∧ (∃ a b, IsPair h TO a b) ∧ h.IsListIter i1 l1 0 ∧ h.IsListIter i2 l2 0 ∧ h.IsList l1 xs.toArray ∧ h.IsList l2 ys.toArray) where
  type := fun s ok => ⟨_, ok.1, rfl⟩
  nl := by decide
  nt := by decide
  len := by rw [typeLookup_type, builtinLookup_eq_fast]; kernel_rfl
  hint := by rw [typeLookup_type, builtinLookup_eq_fast]; kernel_rfl
  mem := List.mem_cons_self ..
  sub := fun b hb => by simp at hb ⊢; rcases hb with rfl | rfl | rfl | rfl <;> simp
  keep := fun h h' ok hk => by
    obtain ⟨hz, hTI, ⟨a, b, hTO⟩, h1, h2, hl1, hl2⟩ := ok
    exact ⟨hk _ _ (by simp) hz, hk _ _ (by simp) hTI, ⟨a, b, hk _ _ (by simp) hTO⟩, h1.at fun o e => hk _ o (by simp) e, h2.at fun o e => hk _ o (by simp) e, hl1.at fun o e => hk _ o (by simp) e, hl2.at fun o e => hk _ o (by simp) e⟩
  there := fun h ok b hb => by
    obtain ⟨hz, hTI, ⟨a, c, hTO⟩, ⟨o1, h1, _⟩, ⟨o2, h2, _⟩, ⟨o3, hl1, _⟩, ⟨o4, hl2, _⟩⟩ := ok
    simp only [List.mem_cons, List.not_mem_nil, or_false] at hb
    rcases hb with rfl | rfl | rfl | rfl | rfl | rfl | rfl
    all_goals first | exact ⟨_, hz⟩ | exact ⟨_, hTI⟩ | exact ⟨_, hTO⟩ | exact ⟨_, h1⟩ | exact ⟨_, h2⟩ | exact ⟨_, hl1⟩ | exact ⟨_, hl2⟩
  iter := fun s d Q E ok hd hdf h => by
    obtain ⟨hz, hTI, ⟨a, b, hTO⟩, h1, h2, hl1, hl2⟩ := ok
    simp only [List.mem_cons, List.not_mem_nil, or_false, not_or] at hdf
    obtain ⟨dz, dTI, dTO, di1, di2, dl1, dl2⟩ := hdf
    refine wpAny_pyIter_zip hz (h (fun i h => IsPair h TI (.ref i1) (.ref i2) ∧ h.IsListIter i1 l1 i ∧ h.IsListIter i2 l2 i ∧ h.IsList l1 xs.toArray ∧ h.IsList l2 ys.toArray ∧
      ((IsZip h z TI TO .none ∧ ∃ a b, IsPair h TO a b) ∨ ∃ T f oT, IsZipHeld h z TI TO T f ∧ h.get? T = some oT ∧ T ≠ z ∧ T ≠ i1 ∧ T ≠ i2 ∧ T ≠ d)) ?_
      ⟨hTI, h1, h2, hl1, hl2, .inl ⟨hz, a, b, hTO⟩⟩)
    exact {
      off := fun hm => by
        simp only [List.mem_cons, List.not_mem_nil, or_false] at hm
        rcases hm with e | e | e | e
        · exact dz e
        · exact dTO e
        · exact di1 e
        · exact di2 e
      frame := fun i h₁ h₂ st hk => by
        obtain ⟨hTI, h1, h2, hl1, hl2, hz⟩ := st
        refine ⟨hk _ _ (Ne.symm dTI) hTI, h1.at fun o e => hk _ o (Ne.symm di1) e, h2.at fun o e => hk _ o (Ne.symm di2) e, hl1.at fun o e => hk _ o (Ne.symm dl1) e, hl2.at fun o e => hk _ o (Ne.symm dl2) e, ?_⟩
        rcases hz with ⟨hz, a, b, hTO⟩ | ⟨T, f, oT, hz, hT, r1, r2, r3, r4⟩
        · exact .inl ⟨hk _ _ (Ne.symm dz) hz, a, b, hk _ _ (Ne.symm dTO) hTO⟩
        · exact .inr ⟨T, f, oT, hk _ _ (Ne.symm dz) hz, hk _ _ r4 hT, r1, r2, r3, r4⟩
      item := fun i s₁ Q₁ E₁ q hq st hds hQ => by
        obtain ⟨hTI, h1, h2, hl1, hl2, hz⟩ := st
        rw [List.getElem?_zip_eq_some] at hq
        obtain ⟨u, hu, ru⟩ := r1.get hq.1
        obtain ⟨v, hv, rv⟩ := r2.get hq.2
        have ex : xs.toArray[i]? = some u := by simpa using hu
        have ey : ys.toArray[i]? = some v := by simpa using hv
        have lt : ∀ {c o}, s₁.heap.get? c = some o → s₁.heap.objs.size ≠ c := fun e => Nat.ne_of_gt (Heap.lt_size e)
        have n1 : s₁.heap.objs.size ≠ i1 := let ⟨_, e, _⟩ := h1; lt e
        have n2 : s₁.heap.objs.size ≠ i2 := let ⟨_, e, _⟩ := h2; lt e
        rcases hz with ⟨hz, a, b, hTO⟩ | ⟨T, f, oT, hz, hT, t1, t2, t3, t4⟩
        · refine wpAny_pyNext_zip_item D hz hTI hTO h1 h2 hl1 hl2 ex ey fun h' a1 a2 a3 a4 a5 a6 hk => ?_
          exact hQ _ _ h' s₁.toks ru rv a5 a6
            ⟨hk _ _ D.TIz D.TITO D.TIi1 D.TIi2 hTI, a3, a4, hl1.at fun o e => hk _ o D.l1z D.l1TO D.l1i1 D.l1i2 e, hl2.at fun o e => hk _ o D.l2z D.l2TO D.l2i1 D.l2i2 e,
              .inr ⟨s₁.heap.objs.size, false, _, a1, a5, lt hz, n1, n2, Nat.ne_of_gt hds⟩⟩
            fun c o hc e => hk c o (fun x => hc (by simp [x])) (fun x => hc (by simp [x])) (fun x => hc (by simp [x])) (fun x => hc (by simp [x])) e
        · refine wpAny_pyNext_zip_item_held D hz hT hTI h1 h2 hl1 hl2 ex ey fun h' a1 a3 a4 a5 a6 hk => ?_
          exact hQ _ _ h' s₁.toks ru rv a5 a6
            ⟨hk _ _ D.TIz D.TIi1 D.TIi2 hTI, a3, a4, hl1.at fun o e => hk _ o D.l1z D.l1i1 D.l1i2 e, hl2.at fun o e => hk _ o D.l2z D.l2i1 D.l2i2 e,
              .inr ⟨T, true, oT, a1, hk _ _ t1 t2 t3 hT, t1, t2, t3, t4⟩⟩
            fun c o hc e => hk c o (fun x => hc (by simp [x])) (fun x => hc (by simp [x])) (fun x => hc (by simp [x])) e
      done := fun s₁ Q₁ E₁ st hQ => by
        obtain ⟨hTI, h1, h2, hl1, hl2, hz⟩ := st
        have l1 := r1.length
        have l2 := r2.length
        have hend : xs.toArray[(vs.zip us).length]? = none ∨ ys.toArray[(vs.zip us).length]? = none := by
          rw [List.length_zip]
          rcases Nat.le_total vs.length us.length with h | h
          · refine .inl ?_
            rw [Nat.min_eq_left h]
            simp; omega
          · refine .inr ?_
            rw [Nat.min_eq_right h]
            simp; omega
        rcases hz with ⟨hz, a, b, hTO⟩ | ⟨T, f, oT, hz, hT, t1, t2, t3, t4⟩
        · exact wpAny_pyNext_zip_end hA D hz hTI hTO h1 h2 hl1 hl2 hend fun h' hk => hQ h' s₁.toks fun c o hc e => hk c o (fun x => hc (by simp [x])) (fun x => hc (by simp [x])) (fun x => hc (by simp [x])) (fun x => hc (by simp [x])) e
        · exact wpAny_pyNext_zip_end_held hA D hz hT hTI h1 h2 hl1 hl2 hend fun h' hk => hQ h' s₁.toks fun c o hc e => hk c o (fun x => hc (by simp [x])) (fun x => hc (by simp [x])) (fun x => hc (by simp [x])) e }
end
section
variable {X : Cx} {e e2 : Expr} {ta : TA} {p p2 pos pos2 : Pos}
end
inductive RepPs (K : PySem.W.Frag) (G : Hp) : List (D × D) → List (V × V) → Prop where
  | nil : RepPs K G [] []
  | cons {d e : D} {v u : V} {ds : List (D × D)} {vs : List (V × V)} : Rep K G d v → Rep K G e u → RepPs K G ds vs → RepPs K G ((d, e) :: ds) ((v, u) :: vs)
theorem RepPs.mono {K : PySem.W.Frag} {G G' : Hp} (h : Le G G') : ∀ {ds : List (D × D)} {vs : List (V × V)}, RepPs K G ds vs → RepPs K G' ds vs
  | _, _, .nil => .nil
  | _, _, .cons r s t => .cons (r.mono h) (s.mono h) (RepPs.mono h t)
def dLEn (δ : DA) : DE := fun x ρ n q => δ x ρ n fun ds n1 => match ds with
  | [.lst es] => q (.lst (enumD es)) n1
  | _ => False
def dLZp (δ : DA) : DE := fun x ρ n q => δ x ρ n fun ds n1 => match ds with
  | [.lst es, .lst fs] => q (.lst (zipD es fs)) n1
  | _ => False
section
variable {X : Cx} {W : WX} {e e2 : Expr} {α' : DA} {p p2 pos pos2 : Pos}
end
end DL

end

section
set_option autoImplicit false
namespace DL
open PySem PySem.Spec PySem.W PyProof.Rows L2
section
variable {X : Cx} {W : WX} {e : Expr} {es : List Expr} {te : TE} {t : TA} {p : Pos} {δ : DE} {α' : DA}
def dStarD (a : DE) (r : DA) : DA := fun x ρ n q => a x ρ n fun d n1 => match d with
  | .dct kvs => r x ρ n1 fun ds n2 => q ((kvs.map fun kv => keyOf kv.1) ++ ds) n2
  | _ => False
end
section
variable {X : Cx} {W : WX} {a b c : Expr} {ta : TA} {p p2 pos pos2 : Pos} {α' : DA}
def dLR2 (δ : DA) : DE := fun x ρ n q => δ x ρ n fun ds n1 => match ds with
  | [.int i, .int j] => (-(2 ^ 62) ≤ i ∧ i < 2 ^ 62 ∧ -(2 ^ 62) ≤ j ∧ j < 2 ^ 62 ∧ (j - i).toNat ≤ 2 ^ 24) ∧ q (.lst (rngD i (j - i).toNat)) n1
  | _ => False
def dLR3 (δ : DA) : DE := fun x ρ n q => δ x ρ n fun ds n1 => match ds with
  | [.int i, .int j, .int c] => c = -1 ∧ (-(2 ^ 62) ≤ i ∧ i < 2 ^ 62 ∧ -(2 ^ 62) ≤ j ∧ j < 2 ^ 62 ∧ (i - j).toNat ≤ 2 ^ 24) ∧ q (.lst (rngC i (-1) (i - j).toNat)) n1
  | _ => False
end
end DL

end

section
set_option autoImplicit false
namespace DL
open PySem PySem.Spec PySem.W PyProof.Rows L2
set_option maxHeartbeats 1000000 in
theorem meets_enum1 {v : Value} {o : Obj} {H : Heap → Prop} (B : Begins v o H) :
    Meets (Builtin.«enumerate.__new__» ⟨[.type "enumerate", v], []⟩) (fun _ R s => H s.heap ∧
      R (.ok (.ret (.ref (s.heap.push o).objs.size))) { s with heap := (s.heap.push o).push { cls := .type "enumerate", data := .fields #[.none, .bool false, .ref s.heap.objs.size, rawInt 0, .none, .none] } }) :=
  .of_wp fun prog w A R s h => by
    obtain ⟨hp, g, d, tk, os⟩ := s; obtain ⟨h1, h⟩ := h
    have hsub := sub_enumerate
    have q1 : ∀ {A' : Around} {E : Value → Shared → Prop} {Q : Value → Shared → Prop}, Q (.ref hp.objs.size) ⟨hp.push o, g, d, tk, os⟩ → wpAny (model prog w) A' (pyIter v) Q E ⟨hp, g, d, tk, os⟩ :=
      fun q => B.iter prog w _ _ ⟨hp, g, d, tk, os⟩ _ h1 q
    wp_walk using q1
    refine wpAny_stack_any fun st => wpAny_pure ?_
    split
    · rename_i c _ _ _ _ _
      cases (c == Value.type "enumerate")
      · wp_walk using q1
        exact ⟨_, rfl, h⟩
      · wp_walk using q1
        exact ⟨_, rfl, h⟩
    · wp_walk using q1
      exact ⟨_, rfl, h⟩
section
variable {prog : Program} {w : World} {A : Around} {E : Value → Shared → Prop} {s : Shared}
theorem enum_begins1 {v : Value} {o : Obj} {H : Heap → Prop} {Q : Value → Shared → Prop} (B : Begins v o H) (h1 : H s.heap)
    (h : ∀ h', IsEnum h' (s.heap.objs.size + 1) s.heap.objs.size 0 .none → h'.get? s.heap.objs.size = some o → h'.objs.size = s.heap.objs.size + 2 →
      (∀ b o, s.heap.get? b = some o → h'.get? b = some o) → Q (.ref (s.heap.objs.size + 1)) { s with heap := h' }) :
    wpAny (model prog w) A (call (.type "enumerate") [v]) Q E s := by
  refine callType_new F.called_enumerate (by decide) (F.typeCall_enumerate_1 _) (F.newCall_enumerate_1 _) (fun obj => F.args_object_init_2 obj _) F.entry_enumerate_new
    (meets_enum1 B) ⟨h1, ?_⟩
  have hz : (s.heap.push o).objs.size = s.heap.objs.size + 1 := Heap.size_push ..
  show _ ∧ _
  rw [hz]
  have he : IsEnum ((s.heap.push o).push { cls := .type "enumerate", data := .fields #[.none, .bool false, .ref s.heap.objs.size, rawInt 0, .none, .none] }) (s.heap.objs.size + 1) s.heap.objs.size 0 .none := by
    have := Heap.get?_push_size (s.heap.push o) (o := { cls := .type "enumerate", data := .fields #[.none, .bool false, .ref s.heap.objs.size, rawInt 0, .none, .none] }) rfl
    rw [hz] at this; exact this
  refine ⟨⟨_, he, rfl⟩, h _ he (Heap.get?_push_of_some _ (Heap.get?_push_size _ B.free)) (by rw [Heap.size_push, hz]) fun b o x => Heap.get?_push_of_some _ (Heap.get?_push_of_some _ x)⟩
end
def SqK (t : Bool) (K : PySem.W.Frag) (H : Hp) (a : Addr) (xs : List V) : Prop := if t = true then SqT K H a xs else SqL K H a xs
def IsItK (t : Bool) (h : Heap) (it a : Addr) (i : Nat) : Prop := if t = true then h.IsTupleIter it a i else h.IsListIter it a i
def IsSqK (t : Bool) (h : Heap) (a : Addr) (its : Array Value) : Prop := if t = true then h.IsTuple a its else h.IsList a its
theorem SqK.inj {t : Bool} {X : Cx} {pins : List (Addr × Obj)} {σ : L2.St} {H : Hp} {s : Shared} (I : Inv X pins σ H s) {a : Addr} {xs ys : List V} (h : SqK t X.K H a xs) (h' : SqK t X.K H a ys) : xs = ys := by
  cases t with
  | true => exact I.tuple_inj h h'
  | false => exact I.list_inj h h'
theorem SqK.items {t : Bool} {X : Cx} {pins : List (Addr × Obj)} {σ : L2.St} {H : Hp} {s : Shared} (I : Inv X pins σ H s) {a : Addr} {xs : List V} (h : SqK t X.K H a xs) : ∃ its : List Value, Vals xs its ∧ IsSqK t s.heap a its.toArray ∧ xs.length ≤ sizeLine := by
  cases t with
  | true =>
    obtain ⟨its, r, e, z⟩ := I.tuple h
    exact ⟨its, r, e, z⟩
  | false =>
    obtain ⟨its, r, e, z⟩ := I.list h
    exact ⟨its, r, e.isList, z⟩
theorem IsItK.at {t : Bool} {h h' : Heap} {it a : Addr} {i : Nat} (x : IsItK t h it a i) (e : ∀ o, h.get? it = some o → h'.get? it = some o) : IsItK t h' it a i := by
  cases t with
  | true => obtain ⟨o, h1, h2, h3⟩ := (show h.IsTupleIter it a i from x); exact ⟨o, e o h1, h2, h3⟩
  | false => exact Heap.IsListIter.at (show h.IsListIter it a i from x) e
theorem IsItK.obj {t : Bool} {h : Heap} {it a : Addr} {i : Nat} (x : IsItK t h it a i) : ∃ o, h.get? it = some o ∧ ∀ v, o.data ≠ .prim v := by
  cases t with
  | true => obtain ⟨o, h1, h2, h3⟩ := (show h.IsTupleIter it a i from x); exact ⟨o, h1, fun v z => by rw [h3] at z; cases z⟩
  | false => obtain ⟨o, h1, h2, h3⟩ := (show h.IsListIter it a i from x); exact ⟨o, h1, fun v z => by rw [h3] at z; cases z⟩
theorem draws_K (t : Bool) {prog : Program} {w : World} {A : Around} (hh : A.handled = none) (it a : Addr) (hne : a ≠ it) (items : Array Value) : Draws prog w A it [it, a] items.size (fun i v => items[i]? = some v) (fun i h => IsItK t h it a i ∧ IsSqK t h a items) := by
  cases t with
  | true => exact Draws.tuple hh it a hne items
  | false => exact Draws.list hh it a hne items
theorem begins_K (t : Bool) (a : Addr) (items : Array Value) : ∃ o, Begins (.ref a) o (fun h => IsSqK t h a items) ∧ ∀ h it, h.get? it = some o → IsItK t h it a 0 := by
  cases t with
  | true => exact ⟨_, begins_tuple a items, fun h it e => ⟨_, e, rfl, rfl⟩⟩
  | false => exact ⟨_, begins_list a items, fun h it e => ⟨_, e, rfl, rfl⟩⟩
theorem IsItK.cell {t : Bool} {h : Heap} {it a : Addr} {i : Nat} (x : IsItK t h it a i) : ∃ o, h.get? it = some o ∧ ∀ v, o.data ≠ .cell v := by
  cases t with
  | true => obtain ⟨o, h1, h2, h3⟩ := (show h.IsTupleIter it a i from x); exact ⟨o, h1, fun v z => by rw [h3] at z; cases z⟩
  | false => obtain ⟨o, h1, h2, h3⟩ := (show h.IsListIter it a i from x); exact ⟨o, h1, fun v z => by rw [h3] at z; cases z⟩
theorem IsItK.lt {t : Bool} {h : Heap} {it a : Addr} {i : Nat} (x : IsItK t h it a i) : it < h.objs.size := by
  obtain ⟨o, e, _⟩ := x.obj
  exact Heap.lt_size e

def IteK (t : Bool) (K : PySem.W.Frag) (a : Addr) : It :=
  ⟨fun i H => ∃ (xs : List V) (x : V), SqK t K H a xs ∧ xs[i]? = some x, fun i H v H' => ∃ T x, v = .ref T ∧ H T = none ∧ H' = upd H T (.tup [.int (i : Nat), x]) ∧ ∀ xs, SqK t K H a xs → xs[i]? = some x, fun i H => ∃ xs : List V, SqK t K H a xs ∧ xs.length = i⟩
theorem enum_overD {prog : Program} {w : World} {A : Around} {E : Value → Shared → Prop} {s : Shared} {e it : Addr} {fp : List Addr} {n : Nat} {P : Nat → Value → Prop} {St : Nat → Heap → Prop} {old : Value} {i : Int} {Q : Option Value → Shared → Prop}
    (D : Draws prog w A.in1 it fp n P St) (he : IsEnum s.heap e it i old) (hst : St n s.heap) (hQ : ∀ h', Heap.ExtBut it s.heap h' → Q none { s with heap := h' }) : wpAny (model prog w) A (pyNext (.ref e)) Q E s := by
  have hT : s.TypeIs (.ref e) "enumerate" := ⟨_, he, rfl⟩
  unfold pyNext
  refine wpAny_bind (wpAny_attempt (wpAny_callSpecial?_slot (name := Str.ofString "__next__") hT F.slot_enumerate_next
    (wpAny_call_entry F.slot_enumerate_next hT F.entry_enumerate_next ?_ (F.args_enumerate_next_1 _))))
  show wpAny _ _ (field (.ref e) 2 >>= _) _ _ _
  refine wpAny_bind (wpAny_field he rfl (x := .ref it) rfl ?_)
  refine wpAny_bind (D.done _ _ _ hst fun h' x he' hx' => ?_)
  obtain ⟨o, ho, hc⟩ := hx'
  refine wpAny_bind (wpAny_isInstance (T := "StopIteration") (b := true) ⟨o, ho, hc⟩ isSubtype_stop ?_)
  exact wpAny_pure (hQ _ he')
theorem turn_enumK (t : Bool) {P : Program} {w : World} {K : PySem.W.Frag} {elts : List Expr} {kk : Nat} {tpos : Pos} (a e it : Addr) (hne : e ≠ it) (hai : a ≠ it) (hae : a ≠ e) :
    Turn P w K (.Tuple elts kk tpos) (IteK t K a) [e, it] e (fun i h => (∃ old, IsEnum h e it ((i : Nat) : Int) old) ∧ IsItK t h it a i) where
  mem := by simp
  obj := fun i h st b hb => by
    obtain ⟨⟨old, he⟩, hi⟩ := st
    have e' : b = e ∨ b = it := by simpa using hb
    rcases e' with z | z
    · rw [z]; exact ⟨_, he, fun v q => nomatch q⟩
    · rw [z]; exact hi.cell
  keep := fun i h h' st k => let ⟨⟨old, he⟩, hi⟩ := st; ⟨⟨old, k e (by simp) _ he⟩, hi.at fun o q => k it (by simp) o q⟩
  item := by
    intro X hP hw hK hc i pins s σ H E I hf st hg
    subst hP hw hK
    obtain ⟨⟨old, he⟩, hit⟩ := st
    obtain ⟨xs, x, hq, hx⟩ := hg
    obtain ⟨its, rv, p, hz⟩ := hq.items I
    obtain ⟨u, hu, ru⟩ := rv.get hx
    have hel : e < s.heap.objs.size := Heap.lt_size he
    have hil : it < s.heap.objs.size := hit.lt
    have hlt : i < its.toArray.size := by
      have := (List.getElem?_eq_some_iff.mp hu).1
      simpa using this
    refine wpAny_pyNext_enum_itemD (draws_K t (A := X.A.in1) (I.ok.hd hc) it a hai its.toArray) he ⟨hit, p⟩ hlt hne (by simp; exact ⟨hne, fun z => hae z.symm⟩) fun x' h' tk hP ho hit' hT hsz hk => ?_
    have hx' : x' = u := by
      have : its.toArray[i]? = some u := by simpa using hu
      rw [this] at hP
      exact (Option.some.inj hP).symm
    subst hx'
    refine ⟨_, rfl, wpAny_letOwnedTupleGo_enum (s := { s with heap := h', toks := tk + 1 }) ho fun h'' he' sb => ?_⟩
    have hT2 : h''.get? s.heap.objs.size = some { cls := .type "tuple", data := .seq #[.int i tk, x'] } := (sb.2 _ (Nat.ne_of_gt hel)).trans hT
    have new : ObjOk X.prog X.w (upd H s.heap.objs.size (.tup [.int (i : Nat), x])) h'' s.heap.objs.size (.tup [.int (i : Nat), x]) :=
      ⟨by show 2 ≤ sizeLine; decide, [.int i tk, x'], .cons ⟨_, rfl⟩ (.cons ru .nil), ⟨_, hT2, rfl, _, rfl⟩⟩
    have I1 : Inv X pins σ (upd H s.heap.objs.size (.tup [.int (i : Nat), x])) { s with heap := h'', toks := tk + 1 } :=
      I.turnedNew (ch := [e, it]) (fun b ob hb q => (sb.2 b (fun z => hb (by simp [z]))).trans (hk b ob (fun z => hb (by simp [z])) (fun z => hb (by simp [z])) q)) hf (Nat.le_refl _) new
    refine ⟨.ref s.heap.objs.size, _, I1, rfl, ⟨_, x, rfl, I.hok.fresh (Nat.le_refl _), rfl, fun ys hy => by rw [SqK.inj I hy hq]; exact hx⟩, ⟨⟨x', ?_⟩, hit'.1.at fun o q => (sb.2 it (Ne.symm hne)).trans q⟩, fun b hb => ?_⟩
    · have e1 : ((i + 1 : Nat) : Int) = (i : Int) + 1 := by omega
      rw [e1]; exact he'
    · have hb' : b < s.heap.objs.size := by
        have e' : b = e ∨ b = it := by simpa using hb
        rcases e' with z | z
        · rw [z]; exact hel
        · rw [z]; exact hil
      rw [upd_ne (Nat.ne_of_lt hb')]
      exact (hf b hb).1
  done := by
    intro X hP hw hK hc i pins s σ H E I hf st hg
    subst hP hw hK
    obtain ⟨⟨old, he⟩, hit⟩ := st
    obtain ⟨xs, hq, hx⟩ := hg
    obtain ⟨its, rv, p, hz⟩ := hq.items I
    obtain ⟨f0, f1, f2, f3, f4, f5⟩ := hf it (by simp)
    have hl : its.toArray.size = i := by rw [← hx, rv.length]; simp
    exact enum_overD (draws_K t (A := X.A.in1) (I.ok.hd hc) it a hai its.toArray) he ⟨by rw [hl]; exact hit, p⟩ fun h' eb => ⟨rfl, I.turned (t' := s.toks) (fun b o hb q => eb b o hb q) f0 f1 f3 f4 f5⟩
  self := fun A i s Q E st h => let ⟨⟨_, he⟩, _⟩ := st; wpAny_pyIter_enum he h
def iEnumK (K : PySem.W.Frag) (ta : TA) : TI := fun σ H R => ta σ H fun vs H1 => ∃ t a xs, vs = [.ref a] ∧ SqK t K H1 a xs ∧ R (IteK t K a) H1
theorem IsSqK.lt {t : Bool} {h : Heap} {a : Addr} {its : Array Value} (x : IsSqK t h a its) : a < h.objs.size := by
  cases t with
  | true => obtain ⟨o, e, _⟩ := (show h.IsTuple a its from x); exact Heap.lt_size e
  | false => obtain ⟨o, e, _⟩ := (show h.IsList a its from x); exact Heap.lt_size e
theorem pi_enumK {X : Cx} {e : Expr} {ta : TA} {p pos tpos : Pos} {elts : List Expr} {kk : Nat} (hg : Gl X "enumerate") (hm : X.mg "enumerate" = none) (ha : PA X [e] ta) (hs : starEach [e] X.env = [(false, eval e X.env)] := by rfl) :
    PI X (.Tuple elts kk tpos) (.Call (.Name "enumerate" p) [e] [] pos) (iEnumK X.K ta) := by
  refine ⟨fun pins s σ H R I h => ?_⟩
  refine Call_ (ld_blt I hg hm boot_enumerate (PyProof.Rows.callWith_type1 (thn (ha.run pos pins s σ H _ I h) fun us s1 ⟨vs, H1, I1, r1, q1⟩ => ?_) hs rfl))
  obtain ⟨t, a, xs, ex, hq, q⟩ := q1
  subst ex
  cases r1 with
  | cons r rr =>
    cases rr
    cases r
    obtain ⟨its, rv, p', hz⟩ := hq.items I1
    obtain ⟨o, bg, ob⟩ := begins_K t a its.toArray
    have la := p'.lt
    refine enum_begins1 bg p' fun h' he hit hsz hk => wpAny_pyIter_enum he ?_
    have I2 : Inv X pins σ H1 { s1 with heap := h' } := I1.kept (t' := s1.toks) hk
    refine ⟨s1.heap.objs.size + 1, [s1.heap.objs.size + 1, s1.heap.objs.size], _, _, H1, rfl, I2, turn_enumK t a (s1.heap.objs.size + 1) s1.heap.objs.size (Nat.succ_ne_self _) (Nat.ne_of_lt la) (Nat.ne_of_lt (Nat.lt_succ_of_lt la)), ⟨⟨.none, he⟩, ob _ _ hit⟩, fun b hb => ?_, q⟩
    have e' : b = s1.heap.objs.size + 1 ∨ b = s1.heap.objs.size := by simpa using hb
    have hle : s1.heap.objs.size ≤ b := by
      rcases e' with z | z
      · rw [z]; exact Nat.le_add_right _ _
      · rw [z]; exact Nat.le_refl _
    exact I1.fpOk hle (I1.hok.fresh hle)

def ItzK (t1 t2 : Bool) (K : PySem.W.Frag) (a b : Addr) : It :=
  ⟨fun i H => ∃ (xs ys : List V) (x y : V), SqK t1 K H a xs ∧ SqK t2 K H b ys ∧ xs[i]? = some x ∧ ys[i]? = some y,
    fun i H v H' => ∃ T x y, v = .ref T ∧ H T = none ∧ H' = upd H T (.tup [x, y]) ∧ (∀ xs, SqK t1 K H a xs → xs[i]? = some x) ∧ ∀ ys, SqK t2 K H b ys → ys[i]? = some y,
    fun i H => ∃ xs ys : List V, SqK t1 K H a xs ∧ SqK t2 K H b ys ∧ i ≤ xs.length ∧ i ≤ ys.length ∧ (i = xs.length ∨ i = ys.length)⟩
theorem turn_zipK (t1 t2 : Bool) {P : Program} {w : World} {K : PySem.W.Frag} {elts : List Expr} {kk : Nat} {tpos : Pos} {a b z TI TO i1 i2 : Addr} (S : ZipSep2 z TI TO i1 i2 [i1, a] [i2, b]) (hai : a ≠ i1) (hbi : b ≠ i2) :
    Turn P w K (.Tuple elts kk tpos) (ItzK t1 t2 K a b) [z, TI, TO, i1, i2] z (fun i h => IsZip h z TI TO .none ∧ IsTupOf2 h TI (.ref i1) (.ref i2) ∧ (∃ x y, IsTupOf2 h TO x y) ∧ IsItK t1 h i1 a i ∧ IsItK t2 h i2 b i) where
  mem := by simp
  obj := fun i h st c hc => by
    obtain ⟨hz, hTI, ⟨x, y, hTO⟩, h1, h2⟩ := st
    have e' : c = z ∨ c = TI ∨ c = TO ∨ c = i1 ∨ c = i2 := by simpa using hc
    rcases e' with q | q | q | q | q
    · rw [q]; exact ⟨_, hz, fun v q => nomatch q⟩
    · rw [q]; exact ⟨_, hTI, fun v q => nomatch q⟩
    · rw [q]; exact ⟨_, hTO, fun v q => nomatch q⟩
    · rw [q]; exact h1.cell
    · rw [q]; exact h2.cell
  keep := fun i h h' st k => by
    obtain ⟨hz, hTI, ⟨x, y, hTO⟩, h1, h2⟩ := st
    exact ⟨k z (by simp) _ hz, k TI (by simp) _ hTI, ⟨x, y, k TO (by simp) _ hTO⟩, h1.at fun o q => k i1 (by simp) o q, h2.at fun o q => k i2 (by simp) o q⟩
  item := by
    intro X hP hw hK hc i pins s σ H E I hf st hg
    subst hP hw hK
    obtain ⟨hz, hTI, ⟨x0, y0, hTO⟩, h1, h2⟩ := st
    obtain ⟨xs, ys, x, y, hqx, hqy, hx, hy⟩ := hg
    obtain ⟨its, rv, p, _⟩ := hqx.items I
    obtain ⟨its2, rv2, p2, _⟩ := hqy.items I
    obtain ⟨u, hu, ru⟩ := rv.get hx
    obtain ⟨u2, hu2, ru2⟩ := rv2.get hy
    have hzl : z < s.heap.objs.size := Heap.lt_size hz
    have l1 : i < its.toArray.size := by
      have := (List.getElem?_eq_some_iff.mp hu).1
      simpa using this
    have l2 : i < its2.toArray.size := by
      have := (List.getElem?_eq_some_iff.mp hu2).1
      simpa using this
    refine wpAny_pyNext_zipD2_item S (draws_K t1 (A := X.A.in1) (I.ok.hd hc) i1 a hai its.toArray) (draws_K t2 (A := X.A.in1) (I.ok.hd hc) i2 b hbi its2.toArray) hz hTI hTO ⟨h1, p⟩ ⟨h2, p2⟩ l1 l2 fun x1 x2 h' tk e1 e2 z' TO' h1' h2' hT hsz hk => ?_
    have ex1 : x1 = u := by
      have : its.toArray[i]? = some u := by simpa using hu
      rw [this] at e1
      exact (Option.some.inj e1).symm
    have ex2 : x2 = u2 := by
      have : its2.toArray[i]? = some u2 := by simpa using hu2
      rw [this] at e2
      exact (Option.some.inj e2).symm
    subst ex1 ex2
    refine ⟨_, rfl, wpAny_letOwnedTupleGo_zip (s := { s with heap := h', toks := tk }) z' fun h'' z'' sb => ?_⟩
    have hT2 : h''.get? s.heap.objs.size = some { cls := .type "tuple", data := .seq #[x1, x2] } := (sb.2 _ (Nat.ne_of_gt hzl)).trans hT
    have new : ObjOk X.prog X.w (upd H s.heap.objs.size (.tup [x, y])) h'' s.heap.objs.size (.tup [x, y]) :=
      ⟨by show 2 ≤ sizeLine; decide, [x1, x2], .cons ru (.cons ru2 .nil), ⟨_, hT2, rfl, _, rfl⟩⟩
    have I1 : Inv X pins σ (upd H s.heap.objs.size (.tup [x, y])) { s with heap := h'', toks := tk } :=
      I.turnedNew (ch := [z, TI, TO, i1, i2]) (fun c o hb q => (sb.2 c (fun q' => hb (by simp [q']))).trans (hk c o (fun q' => hb (by simp [q'])) (fun q' => hb (by simp [q'])) (fun q' => hb (by simp [q'])) (fun q' => hb (by simp [q'])) q)) hf (Nat.le_refl _) new
    refine ⟨.ref s.heap.objs.size, _, I1, rfl, ⟨_, x, y, rfl, I.hok.fresh (Nat.le_refl _), rfl, fun l hl => by rw [SqK.inj I hl hqx]; exact hx, fun l hl => by rw [SqK.inj I hl hqy]; exact hy⟩, ⟨z'', ?_, ⟨x1, x2, ?_⟩, ?_, ?_⟩, fun c hcm => ?_⟩
    · exact (sb.2 _ S.TIz).trans (hk _ _ S.TIz S.TITO S.TIi1 S.TIi2 hTI)
    · exact (sb.2 _ S.TOz).trans TO'
    · exact h1'.1.at fun o q => (sb.2 _ (Ne.symm S.zi1)).trans q
    · exact h2'.1.at fun o q => (sb.2 _ (Ne.symm S.zi2)).trans q
    · have hlt : c < s.heap.objs.size := by
        have e' : c = z ∨ c = TI ∨ c = TO ∨ c = i1 ∨ c = i2 := by simpa using hcm
        rcases e' with q | q | q | q | q
        · rw [q]; exact hzl
        · rw [q]; exact Heap.lt_size hTI
        · rw [q]; exact Heap.lt_size hTO
        · rw [q]; exact h1.lt
        · rw [q]; exact h2.lt
      rw [upd_ne (Nat.ne_of_lt hlt)]
      exact (hf c hcm).1
  done := by
    intro X hP hw hK hc i pins s σ H E I hf st hg
    subst hP hw hK
    obtain ⟨hz, hTI, ⟨x0, y0, hTO⟩, h1, h2⟩ := st
    obtain ⟨xs, ys, hqx, hqy, hle1, hle2, hend⟩ := hg
    obtain ⟨its, rv, p, _⟩ := hqx.items I
    obtain ⟨its2, rv2, p2, _⟩ := hqy.items I
    have e1 : its.toArray.size = xs.length := by rw [rv.length]; simp
    have e2 : its2.toArray.size = ys.length := by rw [rv2.length]; simp
    exact wpAny_pyNext_zipD2_end S (draws_K t1 (A := X.A.in1) (I.ok.hd hc) i1 a hai its.toArray) (draws_K t2 (A := X.A.in1) (I.ok.hd hc) i2 b hbi its2.toArray) hz hTI hTO ⟨h1, p⟩ ⟨h2, p2⟩ (by omega) (by omega) (by omega) fun h' tk hk => ⟨rfl, I.turnedL (t' := tk) (ch := [z, TI, TO, i1, i2]) (fun c o hb q =>
      hk c o (fun q' => hb (by simp [q'])) (fun q' => hb (by simp [q'])) (fun q' => hb (by simp [q'])) (fun q' => hb (by simp [q'])) q) hf⟩
  self := fun A i s Q E st h => wpAny_pyIter_zip st.1 h
def iZipK (K : PySem.W.Frag) (ta : TA) : TI := fun σ H R => ta σ H fun vs H1 => ∃ t1 t2 a b xs ys, vs = [.ref a, .ref b] ∧ SqK t1 K H1 a xs ∧ SqK t2 K H1 b ys ∧ R (ItzK t1 t2 K a b) H1
theorem pi_zipK {X : Cx} {e e2 : Expr} {ta : TA} {p pos tpos : Pos} {elts : List Expr} {kk : Nat} (hg : Gl X "zip") (hm : X.mg "zip" = none) (ha : PA X [e, e2] ta)
    (hs : starEach [e, e2] X.env = (false, eval e X.env) :: starEach [e2] X.env := by rfl) (hpl : (backTo pos (starEach [e2] X.env)).any (·.1) = false := by rfl) :
    PI X (.Tuple elts kk tpos) (.Call (.Name "zip" p) [e, e2] [] pos) (iZipK X.K ta) := by
  refine ⟨fun pins s σ H R I h => ?_⟩
  refine Call_ (ld_blt I hg hm PyProof.Rows.boot_zip (PyProof.Rows.callWith_type1 (thn (ha.run pos pins s σ H _ I h) fun us s1 ⟨vs, H1, I1, r1, q1⟩ => ?_) hs hpl))
  obtain ⟨t1, t2, a, b, xs, ys, ex, hqx, hqy, q⟩ := q1
  subst ex
  cases r1 with
  | cons r rr =>
    cases rr with
    | cons r' rr =>
      cases rr
      cases r
      cases r'
      obtain ⟨its, rv, p1, _⟩ := hqx.items I1
      obtain ⟨its2, rv2, p2, _⟩ := hqy.items I1
      have la := p1.lt
      have lb := p2.lt
      obtain ⟨o1, bg1, ob1⟩ := begins_K t1 a its.toArray
      obtain ⟨o2, bg2, ob2⟩ := begins_K t2 b its2.toArray
      refine zip_begins2 bg1 bg2 p1 p2 fun h' hz hTI hTO h1 h2 hsz hk => wpAny_pyIter_zip hz ?_
      have I2 : Inv X pins σ H1 { s1 with heap := h' } := I1.kept (t' := s1.toks) hk
      have sep := zip_sep2 (N := s1.heap.objs.size) (fp1 := [a]) (fp2 := [b]) (fun c hc => by rw [List.mem_singleton.mp hc]; exact la) (fun c hc => by rw [List.mem_singleton.mp hc]; exact lb)
      refine ⟨s1.heap.objs.size + 4, [s1.heap.objs.size + 4, s1.heap.objs.size + 2, s1.heap.objs.size + 3, s1.heap.objs.size, s1.heap.objs.size + 1], _, _, H1, rfl, I2, turn_zipK t1 t2 sep (Nat.ne_of_lt la) (Nat.ne_of_lt (Nat.lt_succ_of_lt lb)), ⟨hz, hTI, ⟨_, _, hTO⟩, ob1 _ _ h1, ob2 _ _ h2⟩, fun c hcm => ?_, q⟩
      have e' : c = s1.heap.objs.size + 4 ∨ c = s1.heap.objs.size + 2 ∨ c = s1.heap.objs.size + 3 ∨ c = s1.heap.objs.size ∨ c = s1.heap.objs.size + 1 := by simpa using hcm
      have hle : s1.heap.objs.size ≤ c := by
        rcases e' with z | z | z | z | z
        · rw [z]; exact Nat.le_add_right _ _
        · rw [z]; exact Nat.le_add_right _ _
        · rw [z]; exact Nat.le_add_right _ _
        · rw [z]; exact Nat.le_refl _
        · rw [z]; exact Nat.le_add_right _ _
      exact I1.fpOk hle (I1.hok.fresh hle)

theorem Rep.sqK {K : PySem.W.Frag} {G H : Hp} {d : D} {v : V} {ds : List D} (le : Le G H) (r : Rep K G d v) (h : seqD d = some ds) : ∃ t a vs, v = .ref a ∧ (∀ H' G', Le G G' → Le G' H' → SqK t K H' a vs) ∧ RepL K G ds vs := by
  cases d with
  | lst es =>
    cases h
    cases r with
    | lst e r => exact ⟨false, _, _, rfl, fun H' G' l1 l2 => SqL.of (l2.get (l1.get e)), r⟩
  | tup es =>
    cases h
    cases r with
    | tup e r => exact ⟨true, _, _, rfl, fun H' G' l1 l2 => l2.sqT (l1.sqT e), r⟩
  | rol es =>
    cases h
    cases r with
    | rol e r => exact ⟨false, _, _, rfl, fun H' G' l1 l2 => .inl (.inr ⟨_, l2.get (l1.get e)⟩), r⟩
  | _ => exact nomatch h
section
variable {K : PySem.W.Frag} {G : Hp}
theorem walkD_enumK {t : Bool} {a : Addr} {vs : List V} {ds : List D} (e : ∀ H' G', Le G G' → Le G' H' → SqK t K H' a vs) (r : RepL K G ds vs) : WalkD K (IteK t K a) G (enumD ds) := by
  have hl := r.length
  have hle : (enumD ds).length = ds.length := by simp [enumD]
  refine ⟨fun i H G' hi l1 l2 => ?_, fun H G' l1 l2 => ?_, fun i H G' x H' hi l1 l2 y => ?_⟩
  · rw [hle, hl] at hi
    exact ⟨vs, vs[i], e _ _ l1 l2, List.getElem?_eq_getElem hi⟩
  · exact ⟨vs, e _ _ l1 l2, by rw [hle, hl]⟩
  · rw [hle] at hi
    obtain ⟨T, v, rfl, nT, rfl, hv⟩ := y
    have e1 := hv vs (e _ _ l1 l2)
    obtain ⟨dd, h1, h2⟩ := r.getV e1
    have s := StepP.made (o := .tup [.int (i : Nat), v]) l2 nT
    refine ⟨.tup [.int i, dd], _, ?_, s, .tup (.inl (.inl upd_same)) (.cons (.int _) (.cons (h2.mono (l1.trans s.le)) .nil))⟩
    rw [List.getElem?_eq_getElem hi] at h1
    injection h1 with h1
    simp [enumD, hi, List.getD, h1]
theorem walkD_zipK {t1 t2 : Bool} {a b : Addr} {vs us : List V} {ds es : List D} (e : ∀ H' G', Le G G' → Le G' H' → SqK t1 K H' a vs) (r : RepL K G ds vs) (e' : ∀ H' G', Le G G' → Le G' H' → SqK t2 K H' b us) (r' : RepL K G es us) : WalkD K (ItzK t1 t2 K a b) G (zipD ds es) := by
  have hl := r.length
  have hl' := r'.length
  have hle : (zipD ds es).length = min ds.length es.length := by simp [zipD]
  refine ⟨fun i H G' hi l1 l2 => ?_, fun H G' l1 l2 => ?_, fun i H G' x H' hi l1 l2 y => ?_⟩
  · rw [hle] at hi
    exact ⟨vs, us, vs[i]'(by omega), us[i]'(by omega), e _ _ l1 l2, e' _ _ l1 l2, List.getElem?_eq_getElem _, List.getElem?_eq_getElem _⟩
  · exact ⟨vs, us, e _ _ l1 l2, e' _ _ l1 l2, by rw [hle]; omega, by rw [hle]; omega, by rw [hle]; omega⟩
  · rw [hle] at hi
    obtain ⟨T, v, u, rfl, nT, rfl, hv, hu⟩ := y
    obtain ⟨dd, h1, h2⟩ := r.getV (hv vs (e _ _ l1 l2))
    obtain ⟨de, h3, h4⟩ := r'.getV (hu us (e' _ _ l1 l2))
    have s := StepP.made (o := .tup [v, u]) l2 nT
    refine ⟨.tup [dd, de], _, ?_, s, .tup (.inl (.inl upd_same)) (.cons (h2.mono (l1.trans s.le)) (.cons (h4.mono (l1.trans s.le)) .nil))⟩
    rw [zipD, List.getElem?_map, (List.getElem?_zip_eq_some (z := (dd, de))).mpr ⟨h1, h3⟩]
    rfl
end
def iEnK (δ : DA) : DI := fun x ρ n q => δ x ρ n fun ds n1 => match ds with
  | [d] => opt (seqD d) fun es => q (enumD es) n1
  | _ => False
def iZpK (δ : DA) : DI := fun x ρ n q => δ x ρ n fun ds n1 => match ds with
  | [d, e] => opt (seqD d) fun es => opt (seqD e) fun fs => q (zipD es fs) n1
  | _ => False
section
variable {X : Cx} {W : WX} {e a b : Expr} {α' : DA} {p pos tpos : Pos} {elts : List Expr} {kk : Nat}
theorem pid_enumK (hg : Gl X "enumerate") (hm : X.mg "enumerate" = none) (ha : PAD X W [e] α') (hs : starEach [e] X.env = [(false, eval e X.env)] := by rfl) : PID X W (.Tuple elts kk tpos) (.Call (.Name "enumerate" p) [e] [] pos) (iEnK α') := by
  obtain ⟨t, pa, h⟩ := ha
  refine ⟨_, pi_enumK hg hm pa hs, fun B σ H ρ n G α R x q hK RB hx hd k => ?_⟩
  refine h B σ H ρ n G α _ x _ hK RB hx hd fun vs H1 G1 ds n1 s1 j1 r1 h1 => ?_
  split at h1
  · obtain ⟨es, ee, h1⟩ := opt_some h1
    cases r1 with
    | cons r t =>
      cases t
      obtain ⟨t, a, vs, rfl, hq, rl⟩ := r.sqK s1.hh ee
      exact ⟨t, a, vs, rfl, hq _ _ (Le.refl _) s1.hh, k _ H1 G1 _ n1 s1 j1 (walkD_enumK hq rl) h1⟩
  · exact h1.elim
theorem pid_zipK (hg : Gl X "zip") (hm : X.mg "zip" = none) (ha : PAD X W [a, b] α') (hs : starEach [a, b] X.env = (false, eval a X.env) :: starEach [b] X.env := by rfl) (hpl : (backTo pos (starEach [b] X.env)).any (·.1) = false := by rfl) : PID X W (.Tuple elts kk tpos) (.Call (.Name "zip" p) [a, b] [] pos) (iZpK α') := by
  obtain ⟨t, pa, h⟩ := ha
  refine ⟨_, pi_zipK hg hm pa hs hpl, fun B σ H ρ n G α R x q hK RB hx hd k => ?_⟩
  refine h B σ H ρ n G α _ x _ hK RB hx hd fun vs H1 G1 ds n1 s1 j1 r1 h1 => ?_
  split at h1
  · obtain ⟨es, ee, h1⟩ := opt_some h1
    obtain ⟨fs, ef, h1⟩ := opt_some h1
    cases r1 with
    | cons r t =>
      cases t with
      | cons r' t =>
        cases t
        obtain ⟨t1, a1, vs, rfl, hq, rl⟩ := r.sqK s1.hh ee
        obtain ⟨t2, a2, us, rfl, hq', rl'⟩ := r'.sqK s1.hh ef
        exact ⟨t1, t2, a1, a2, vs, us, rfl, hq _ _ (Le.refl _) s1.hh, hq' _ _ (Le.refl _) s1.hh, k _ H1 G1 _ n1 s1 j1 (walkD_zipK hq rl hq' rl') h1⟩
  · exact h1.elim
end
def fBoolL : FL := f1 fun d k => match d with
  | .lst es => k (.bl (!es.isEmpty))
  | _ => False
end DL

end

section
set_option autoImplicit false
namespace DL
open PySem PySem.Spec L2
def spWF (K : PySem.W.Frag) (m : Nat) (F : DF) : Sp := fun vs H Q E => ∃ (W : Wd) (n : Nat) (G : Hp) (ds : List D) (q : DQ) (x : Xn → Nat → Prop), Le G H ∧ (∀ a, W.rg a → G a = none) ∧ W.J n H ∧ RepL K G ds vs ∧ ds.length = m ∧ F W ds n q x ∧
  (∀ a H' G' d n', Step W H G H' G' → W.J n' H' → H a = none → G' a = none → ¬ W.rg a → OwnAt K G' H' a d → q d n' → Q (.ref a) H') ∧ (∀ c dd H' G' e n', Step W H G H' G' → W.J n' H' → XRep K W H G' H' e c dd → x e n' → E c dd H')
def ownQ (q : DQ) : Sl → Nat → Prop := fun sl n => match sl with
  | .own d => q d n
  | _ => False
def endsF (W : Wd) (q : DQ) (x : Xn → Nat → Prop) : DEnds := ⟨fun _ _ => False, fun _ _ => False, fun _ _ => False, fun _ _ => False, fun e _ n => x e n, W, ownQ q⟩
theorem ok_defF {P : Program} {w : World} {K : PySem.W.Frag} {mg : Str → Option Value} {base : Heap} {x qual : Str} {params : Arguments} {body : List Stmt} {scope : Scope} {dvs : List V} {kws : List (Str × V)} {f : Addr} {fd : FuncData} {N ps : List Str} {k m : Nat} {F : DF}
    (FD : FunD K x qual params body scope dvs kws f fd) (S : FnScope N ps scope) (hm : ps.length = m)
    (hb : ∀ (X : Cx) (E : XK) (W : Wd) (ds : List D) (n : Nat) (q : DQ) (xx : Xn → Nat → Prop), (∃ cdv A outer s H, X = cxOf (L2.CX P w) P w K mg base N qual scope f cdv A outer s H E) → Room k X.A → Takes X (fun c d _ H => E c d H) → PassesOwn (model X.prog X.w) X.A X.env X.xe → ds.length = m → F W ds n q xx →
      ∃ δ, PSsD X (fun c d _ H => E c d H) body δ ∧ δ (endsF W q xx) (startD N ds) n) : FnOk P w K mg base (L2.CX P w) (k + 1) f fd ps (spWF K m F) := by
  refine FD.ok S (fun vs H Q E h => ?_) (fun cdv A outer s H vs Q E hr h => ?_)
  · obtain ⟨W, n, G, ds, q, x, _, _, _, r, hl, _⟩ := h
    rw [← r.length, hl, hm]
  · obtain ⟨W, n, G, ds, q, xx, le, rg, j, r, hl, hF, kq, kx⟩ := h
    obtain ⟨δ, ⟨t, p, e⟩, hδ⟩ := hb (cxOf (L2.CX P w) P w K mg base N qual scope f cdv A outer s H E) E W ds n q xx ⟨cdv, A, outer, s, H, rfl⟩ hr (takes_of rfl rfl rfl rfl) (passes_of rfl) hl hF
    refine ⟨t, p, ?_⟩
    refine e ⟨W, K, H, G, none⟩ (L2.start N vs) H (startD N ds) n G _ _ _ rfl (RelB.start le rg j r) ?_ hδ
    exact ⟨fun _ _ _ _ _ _ _ h => h.elim, fun _ _ _ _ _ _ _ _ h => h.elim, fun _ _ _ _ _ _ _ h => h.elim, fun _ _ _ _ _ _ _ h => h.elim, fun c dd σ H' ρ n' G' α e R r hq => kx c dd H' G' e n' R.st R.J r hq, rfl, fun v H' sl n' G' s j r hq => by
      cases sl with
      | own d =>
        obtain ⟨a, rfl, h0, g, nr, o⟩ := r
        exact kq a H' G' d n' s j h0 g nr o hq
      | _ => exact hq.elim⟩
structure SgF (P : Program) (w : World) (K : PySem.W.Frag) (mg : Str → Option Value) (base : Heap) (x : Str) (k m : Nat) (F : DF) (dvd : List D) : Prop where
  ex : ∃ (f : Addr) (fd : FuncData) (ps : List Str) (ds : List Value) (dvs : List V), FnOk P w K mg base (L2.CX P w) k f fd ps (spWF K m F) ∧ mg x = some (.ref f) ∧ PySem.W.keepIn K (.ref f) = true ∧ Binds K fd ps ds ∧ Vals dvs ds ∧ ∀ G, RepL K G dvd dvs
structure MgF (P : Program) (w : World) (K : PySem.W.Frag) (mg : Str → Option Value) (base : Heap) (c x : Str) (k m : Nat) (F : DF) (dvd : List D) : Prop where
  cl : Cls K (ca K c)
  ex : ∃ (f : Addr) (fd : FuncData) (ps : List Str) (ds : List Value) (dvs : List V), FnOk P w K mg base (L2.CX P w) k f fd ps (spWF K m F) ∧ Meth K (ca K c) x f ∧ Binds K fd ps ds ∧ Vals dvs ds ∧ ∀ G, RepL K G dvd dvs
section
variable {X : Cx} {W : WX} {k m : Nat} {F : DF} {dvd : List D} {x c y : Str} {p pos apos : Pos} {e o : Expr} {es : List Expr} {a : DA} {δ : DE}
theorem fresh_back {W : Wd} {H G H1 G1 H' G' : Hp} {a : Addr} {n1 : Nat} (s1 : Step W H G H1 G1) (j1 : W.J n1 H1) (np : H1 a = none) : H a = none := by
  have nr : ¬ W.rg a := fun r => W.there n1 H1 a j1 r np
  cases e : H a with
  | none => rfl
  | some o => rw [s1.fr a o e nr] at np; cases np
theorem ef_call {K : PySem.W.Frag} {dvs : List V} {t : TA} (hd : ∀ G, RepL K G dvd dvs) (ha : EA K W t a) : EF K W (tCallSD (spWF K m F) dvs (WE W) t) (dCall m F dvd a) := by
  intro B σ H ρ n G α Q x q hK R hx h k
  refine ha B σ H ρ n G α _ x _ hK R hx h fun vs H1 G1 ds n1 s1 j1 r1 h1 => ?_
  have R1 := R.step s1 j1
  have hx1 := hx.step s1
  obtain ⟨hl, h1⟩ := h1
  rw [hx.1] at h1
  exact ⟨B.W, n1, G1, ds ++ dvd, q, x.ex, s1.hh, R1.rg, j1, r1.append (hd G1), hl, h1, fun a H' G' d n' s j np ng nr o hq => k a H' G' d n' (s1.trans s) j (fresh_back (H' := H') (G' := G') s1 j1 np) ng nr o hq, fun cc dd H' G' e n' s j r hq => hx1.2 cc dd H' G' e n' s j (hK ▸ r) hq⟩
theorem pf_call (S : SgF X.prog X.w X.K X.mg X.base x k m F dvd) (hr : Room k X.A) (tk : Takes X W) (hg : Gl X x) (ha : PAD X W (e :: es) a) (hdb : (x == ("__debug__" : Str)) = false := by decide)
    (he : starEach (e :: es) X.env = (false, eval e X.env) :: starEach es X.env := by rfl) (hpl : (backTo pos (starEach es X.env)).any (·.1) = false := by rfl) : PF X W (.Call (.Name x p) (e :: es) [] pos) (dCall m F dvd a) := by
  obtain ⟨t, pa, ea⟩ := ha
  obtain ⟨f, fd, ps, ds, dvs, hF, hm, hk, hb, hd, hdv⟩ := S.ex
  exact ⟨_, pe_callSD hF hr hg hm hk hb hd (fun σ => passAt tk σ) pa hdb he hpl, ef_call hdv ea⟩
end
def eqKD (ks ls : List (Key × D)) : Bool := ks.all fun q => match getD ls q.1 with
  | some d => eqD q.2 d
  | none => false
def fEqDct (neg : Bool) : F2 := fun x y k => match x, y with
  | .dct ks, .dct ls => (ks.all fun q => flatD q.2) = true ∧ (ls.all fun q => flatD q.2) = true ∧ k (.bl (if neg then !(ks.length == ls.length && eqKD ks ls) else (ks.length == ls.length && eqKD ks ls)))
  | _, _ => False
def eqKV (ks ls : List (Key × V)) : Bool := ks.all fun q => match valV ls q.1 with
  | some v => eqV q.2 v
  | none => false
theorem valV_flat {ls : List (Key × V)} (h : (ls.all fun q => flatV q.2) = true) {k : Key} {v : V} (e : valV ls k = some v) : flatV v = true := by
  unfold valV at e
  cases q : ls.find? (fun kv => decide (kv.1 = k)) with
  | none => rw [q] at e; cases e
  | some kv =>
    rw [q] at e
    cases e
    exact List.all_eq_true.mp h kv (List.mem_of_find?_eq_some q)
def eqKS (ls : List (Key × V)) : List (Key × V) → Bool
  | [] => true
  | q :: r => match valV ls q.1 with
    | some v => eqV q.2 v && eqKS ls r
    | none => false
theorem eqKS_eq (ls : List (Key × V)) : ∀ ks : List (Key × V), eqKS ls ks = eqKV ks ls
  | [] => rfl
  | q :: r => by
    show _ = ((match valV ls q.1 with | some v => eqV q.2 v | none => false) && eqKV r ls)
    rw [← eqKS_eq ls r]
    show (match valV ls q.1 with | some v => eqV q.2 v && eqKS ls r | none => false) = _
    cases valV ls q.1 <;> simp
theorem hitsKV {A : Around} {s : Shared} {ls : List (Key × V)} {vb : List (Key × Value)} (rb : KV ls vb) (fl : (ls.all fun q => flatV q.2) = true) : ∀ {ks : List (Key × V)} {va : List (Key × Value)}, KV ks va → (ks.all fun q => flatV q.2) = true → PySem.W.KeqHits A s vb va (eqKS ls ks)
  | _, _, .nil, _ => .nil
  | _, _, .cons (a := q) (b := u) (l₁ := ks) h t, hf => by
    obtain ⟨k, v⟩ := q
    obtain ⟨k', v'⟩ := u
    obtain ⟨e, r⟩ := h
    dsimp only at e r
    subst e
    rw [List.all_cons, Bool.and_eq_true_iff] at hf
    have rv := rb.val k
    unfold eqKS
    dsimp only
    cases e1 : valV ls k with
    | none =>
      rw [e1] at rv
      cases e2 : valueAt vb k with
      | none => exact .miss e2
      | some z => rw [e2] at rv; exact rv.elim
    | some w =>
      rw [e1] at rv
      cases e2 : valueAt vb k with
      | none => rw [e2] at rv; exact rv.elim
      | some z =>
        rw [e2] at rv
        exact .hit e2 (eqAt_V r rv hf.1 (valV_flat fl e1)) (hitsKV rb fl t hf.2)
theorem RepK.flat {K : PySem.W.Frag} {G : Hp} : ∀ {ks : List (Key × D)} {ws : List (Key × V)}, RepK K G ks ws → (ks.all fun q => flatD q.2) = true → (ws.all fun q => flatV q.2) = true
  | _, _, .nil, _ => rfl
  | _, _, .cons r t, h => by
    rw [List.all_cons, Bool.and_eq_true_iff] at h
    rw [List.all_cons, RepK.flat t h.2]
    dsimp only at h
    rw [r.flat h.1]; rfl
theorem getD_flat {ls : List (Key × D)} (h : (ls.all fun q => flatD q.2) = true) {k : Key} {v : D} (e : getD ls k = some v) : flatD v = true := by
  unfold getD at e
  cases q : ls.find? (fun kv => decide (kv.1 = k)) with
  | none => rw [q] at e; cases e
  | some kv =>
    rw [q] at e
    cases e
    exact List.all_eq_true.mp h kv (List.mem_of_find?_eq_some q)
theorem RepK.eqKV {K : PySem.W.Frag} {G : Hp} {ls : List (Key × D)} {us : List (Key × V)} (rl : RepK K G ls us) (fl : (ls.all fun q => flatD q.2) = true) : ∀ {ks : List (Key × D)} {ws : List (Key × V)}, RepK K G ks ws → (ks.all fun q => flatD q.2) = true → DL.eqKV ws us = eqKD ks ls
  | _, _, .nil, _ => rfl
  | _, _, .cons (k := k) (d := d) (v := v) r t, h => by
    rw [List.all_cons, Bool.and_eq_true_iff] at h
    have ih := RepK.eqKV rl fl t h.2
    unfold DL.eqKV eqKD at ih ⊢
    rw [List.all_cons, List.all_cons, ih]
    congr 1
    dsimp only
    rcases rl.val (k := k) with ⟨d', v', e1, e2, r'⟩ | ⟨e1, e2⟩
    · rw [e1, e2]
      exact r.eqV r' h.1 (getD_flat fl e1)
    · rw [e1, e2]
section
variable {X : Cx} {W : WX} {a b : Expr} {δa δb : DE} {pos : Pos}
end
end DL

end

section
set_option autoImplicit false
namespace DL
open PySem PySem.Spec L2
theorem wpAny_isTrue_cmp {M : Model} {A : Around} {env : PySem.Env} {E : Value → Shared → Prop} {s : Shared} {l r : Expr} {op : CmpOp} {pos : Pos} {whole : Sem Value} {Q : Bool → Shared → Prop}
    (h : wpAny M A (eval (.Compare l [op] [r] pos) env) (fun c s₁ => wpAny M A (truthy c) Q E s₁) E s) : wpAny M A (isTrue (.Compare l [op] [r] pos) env whole) Q E s := fun Γ p hΓ => by
  have z := h Γ p hΓ
  simp only [eval_Compare1, Sem.wp_bind', Sem.wp_holding, Sem.wp_cmd_standAt, Sem.wp_operate] at z
  simp only [isTrue_Compare1, Sem.wp_bind', Sem.wp_holding, Sem.wp_cmd_standAt, Sem.wp_operate]
  exact Sem.wp_mono M Γ _ (fun a p₁ s₁ h₁ => Sem.wp_mono M Γ _ (fun b _ s₂ h₂ => Sem.wp_mono M Γ _ (fun c p₃ s₃ h₃ => h₃ Γ p₃ hΓ)
    (fun _ _ _ h' => h') _ _ h₂) (fun _ _ _ h' => h') _ _ h₁) (fun _ _ _ h' => h') _ _ z
theorem pt_cmpE {X : Cx} {a b : Expr} {op : CmpOp} {pos : Pos} {t : TE} (h : PE X (.Compare a [op] [b] pos) t) : PT X (.Compare a [op] [b] pos) (tTest t) := by
  refine ⟨fun pins s σ H Q I hw => ?_⟩
  refine wpAny_isTrue_cmp (thn (h.run pins s σ H _ I hw) fun v s1 ⟨x, H1, I1, r1, q1⟩ => ?_)
  obtain ⟨d, rfl, q⟩ := q1
  cases r1
  exact wpAny_truthy_bool ⟨H1, I1, q⟩
theorem pt_cmpV {X : Cx} {W : WX} {a b : Expr} {op : CmpOp} {pos : Pos} {δ : DE} (h : PD X W (.Compare a [op] [b] pos) δ) : PTD X W (.Compare a [op] [b] pos) (dTest δ) := by
  obtain ⟨t, p, h⟩ := h
  exact ⟨_, pt_cmpE p, et_of h.eb⟩
end DL

end

section
set_option autoImplicit false
namespace DL
open PySem PySem.Spec PyProof.Rows L2 LamX
def LamTo (P : Addr) (q : Str) (H H1 : Hp) : Prop := H1 = H ∨ ∃ (ps more : Array Value) (c' : Addr), H P = some (.tbl ps) ∧ H c' = none ∧ H1 = upd (upd H P (.tbl (ps ++ more))) c' (CodeO c' q)
section
variable {X : Cx} {pins : List (Addr × Obj)} {σ : L2.St} {H : Hp} {s : Shared}
end
def CatchV (K : PySem.W.Frag) (cls : Value) : List (Str × V) → (V → Prop) → Prop
  | [], _ => False
  | (c, v) :: l, k => ∃ b, PySem.W.exmOne K cls (.ref (ca K c)) = some b ∧ (b = true → k v) ∧ (b = false → CatchV K cls l k)
inductive HdsC : List ExceptHandler → List (Str × V) → Prop
  | nil : HdsC [] []
  | cons {c : Str} {e : Expr} {v : V} {np p6 p7 : Pos} {hds : List ExceptHandler} {l : List (Str × V)} (he : ∀ Y : Cx, PE Y e (tC v)) (r : HdsC hds l) : HdsC (.ExceptHandler (some (.Name c np)) none [.Return (some e) p6] p7 :: hds) ((c, v) :: l)
theorem HdsC.ok {X : Cx} {hds : List ExceptHandler} {l : List (Str × V)} (h : HdsC hds l) (hn : ∀ q ∈ l, Names X q.1 (.ref (ca X.K q.1))) : HdsOk X hds (l.map fun q => (.ref (ca X.K q.1), fun _ _ _ => tRet (tC q.2))) := by
  induction h with
  | nil => exact .nil
  | cons he r ih => exact .cons (hn _ (List.mem_cons_self ..)) (fun a oe cls d pn _ _ => pss_one (ps_ret (he _))) (ih fun q hq => hn q (List.mem_cons_of_mem _ hq))
def eOf (K : PySem.W.Frag) (W : WX) (δ : DE) : TE := fun σ H Q => ∃ (B : Bs) (ρ : Env) (n : Nat) (G : Hp) (α : Nat → Addr) (x : DX) (q : DQ), B.K = K ∧ RelB B σ H ρ n G α ∧ XL B W σ H G x ∧ δ x ρ n q ∧
  ∀ v H' G' d n', Step B.W H G H' G' → B.W.J n' H' → Rep K G' d v → q d n' → Q v H'
theorem PD.eOf {X : Cx} {W : WX} {e : Expr} {δ : DE} (h : PD X W e δ) : PE X e (eOf X.K W δ) := by
  obtain ⟨t, p, h⟩ := h
  refine ⟨fun pins s σ H Q I hw => ?_⟩
  obtain ⟨B, ρ, n, G, α, x, q, hK, R, hx, hd, k⟩ := hw
  exact p.run pins s σ H Q I (h B σ H ρ n G α Q x q hK R hx hd k)
structure LamW (W : Wd) (P : Addr) (q : Str) : Prop where
  rg : W.rg P
  tab : ∀ n H, W.J n H → TabS H P q
  st : ∀ n H H1, W.J n H → LamTo P q H H1 → TabS H1 P q → W.J n H1
theorem LamW.step {W : Wd} {P : Addr} {q : Str} {H G H1 : Hp} (l : LamW W P q) (rg : ∀ a, W.rg a → G a = none) (le : Le G H) (t : LamTo P q H H1) : Step W H G H1 G := by
  rcases t with rfl | ⟨ps, more, c', e, nc, rfl⟩
  · exact .refl _ le
  have st : ∀ a o, H a = some o → a ≠ P → upd (upd H P (.tbl (ps ++ more))) c' (CodeO c' q) a = some o := fun a o h n => by
    rw [upd_ne (ne_of_none h nc), upd_ne n]; exact h
  refine ⟨fun a o h r => st a o h fun z => r (z ▸ l.rg), Le.refl G, fun a o h => ?_, fun a h => .inl h⟩
  obtain ⟨o', h', z⟩ := le a o h
  exact ⟨o', st a o' h' (fun w => by rw [w, rg P l.rg] at h; cases h), z⟩
def catchD (sub : Str → Str → Bool) (c : Str) : List (Str × D) → (D → Prop) → Prop
  | [], _ => False
  | (c', d) :: l, k => if sub c c' = true then k d else catchD sub c l k
def dLam (LW : Wd → Prop) (XS : List Str) (sub : Str → Str → Bool) (hs : List (Str × D)) (d0 : D) (δ : DE) : DE := fun x ρ n q => LW x.w ∧ δ { x with ex := fun e n' => e.1 ∈ XS ∧ catchD sub e.1 hs fun d => q d n' } ρ n fun _ n' => q d0 n'
section
variable {X : Cx} {W : WX}
end
theorem okC {P : Program} {w : World} {K : PySem.W.Frag} {mg : Str → Option Value} {base : Heap} {x qual : Str} {params : Arguments} {body : List Stmt} {scope : Scope} {dvs : List V} {kws : List (Str × V)} {p : Str × Option Str} {fd : FuncData} {CX : CXT} {N ps : List Str} {k : Nat} {sp : Sp}
    (F : FunD K x qual params body scope dvs kws (He.fAd K p) fd) (S : FnScope N ps scope) (len : ∀ vs H Q E, sp vs H Q E → vs.length = ps.length)
    (hb : ∀ (cdv : Value) (A : Around) (outer : List PySem.Env) (s : Shared) (H : Hp) (vs : List V) (Q : VK) (E : XK), cdv = .ref (He.cT K p).1 → Room k (A.deeper (envOfC qual scope s.heap.objs.size (He.fAd K p) cdv)) → sp vs H Q E →
      ∃ t, PSs (cxOf CX P w K mg base N qual scope (He.fAd K p) cdv A outer s H E) body t ∧ t { nx := fun _ H' => Q .non H', rt := Q } (L2.start N vs) H) : FnOk P w K mg base CX (k + 1) (He.fAd K p) fd ps sp := by
  obtain ⟨oc, od, dV, kV, doc, pm, an, cdv, ct, osl, rfl, lk, hcd, _, _⟩ := F.ex
  obtain ⟨c, rfl⟩ := He.codeIn_ref hcd
  have e : (He.cT K p).1 = c := He.codeOf_eq lk rfl
  exact fn_of lk hcd S len fun A outer s H vs Q E hr hsp => hb (.ref c) A outer s H vs Q E (by rw [e]) hr hsp
abbrev LW (K : PySem.W.Frag) (x : Str) (W : Wd) : Prop := LamW W (He.cT K (x, none)).2 (x ++ ".<locals>.<lambda>")
abbrev AlL : Type := He.AlD × Bool
structure SaysL (fa : List He.Fa) (fn : List He.DefD) (tf : List He.Defn) (ex : PySem.W.Frag → Bool) (h : Heap) (K : PySem.W.Frag) : Prop where
  d : He.SaysD fa fn K
  more : ex K = true
  tabs : ∀ p ∈ tf, PySem.W.codeHdIn K (He.cT K p).1 (He.cT K p).2 = true ∧ K.lookup (He.cT K p).2 = none ∧ h.get? (He.cT K p).2 = some { cls := .none, data := .fields #[] }
end DL

end

section
set_option autoImplicit false
namespace DL
open PySem PySem.Spec L2
theorem RepL.dropLast {K : PySem.W.Frag} {G : Hp} {ds : List D} {vs : List V} (r : RepL K G ds vs) : RepL K G ds.dropLast vs.dropLast := by
  rw [List.dropLast_eq_take, List.dropLast_eq_take, ← r.length]
  exact r.take _
def dPop (i : Nat) : DS := fun E ρ n => match ρ[i]? with
  | some (some (.own (.lst ds))) => ds ≠ [] ∧ E.nx (ρ.set i (some (.own (.lst ds.dropLast)))) n
  | _ => False
def dPop0 (i : Nat) : DS := fun E ρ n => match ρ[i]? with
  | some (some (.own (.lst ds))) => ds ≠ [] ∧ E.nx (ρ.set i (some (.own (.lst ds.tail)))) n
  | _ => False
section
variable {X : Cx} {W : WX} {pos pos' apos cpos p0 : Pos} {x : Str} {j : Nat}
theorem pf_list {e : Expr} {α' : DA} {p : Pos} (hg : Gl X "list") (hm : X.mg "list" = none) (ha : PAB X W [e] α') (hst : starEach [e] X.env = (false, eval e X.env) :: starEach [] X.env := by rfl) (hpl : (backTo pos (starEach [] X.env)).any (·.1) = false := by rfl) :
    PF X W (.Call (.Name "list" p) [e] [] pos) (dCB fList α') := by
  obtain ⟨t, pa, ea⟩ := ha
  refine ⟨_, pe_callTy call_list_of hg hm (by decide +kernel) pa (by decide) (by decide) hst hpl, fun B σ H ρ n G α Q x q hK R hx hd k => ?_⟩
  refine ea B σ H ρ n G α _ x _ hK R hx hd fun vs H1 G1 ds n1 s1 j1 r hf => ?_
  unfold fList f1 at hf
  split at hf
  · rename_i d
    obtain ⟨v, rfl, r0⟩ := r.one
    split at hf
    · rename_i es e
      obtain ⟨a, us, e1, hs, r1⟩ := r0.seq s1.hh e
      subst e1
      refine ⟨a, us, rfl, hs, fun l np => ?_⟩
      have s := StepP.laid (o := .lst us) s1.hh np
      have nr : ¬ B.W.rg l := fun r => B.W.there n1 H1 l j1 r np
      have h0 : H l = none := by
        cases e : H l with
        | none => rfl
        | some o => rw [s1.fr l o e nr] at np; cases np
      have g0 : G1 l = none := by
        cases e : G1 l with
        | none => rfl
        | some o =>
          obtain ⟨o', e', _⟩ := s1.hh l o e
          rw [np] at e'; cases e'
      exact k l _ _ (.lst es) n1 (s1.trans (s.step j1)) (s.J j1) h0 g0 nr ⟨us, upd_same, r1⟩ hf
    · exact hf.elim
  · exact hf.elim
end
end DL

end

section
set_option autoImplicit false
namespace DL
open PySem PySem.Spec L2

section
variable {X : Cx} {CX : CXT} {k : Nat} {C p g : Addr} {mc : Value} {sp : Sp} {fd : FuncData} {ps : List Str} {dvs : List V} {ds : List Value} {E : St → XK} {o e : Expr} {es : List Expr} {m : Str} {pos apos : Pos} {ta : TE} {t : TA} {pl : Sem Bool}
end
def cF (K : PySem.W.Frag) (c : Str) (F : DF) : DF := fun W ds n q x => ∃ r, ds = .hnd (ca K c) :: r ∧ F W r n q x
structure Cg (P : Program) (w : World) (K : PySem.W.Frag) (mg : Str → Option Value) (base : Heap) (c x : Str) (k m : Nat) (F : DF) (dvd : List D) : Prop where
  gl : mg c = some (.ref (ca K c))
  rd : ClX.CRead K (ca K c) (.type "type")
  ex : ∃ (p g : Addr) (fd : FuncData) (ps : List Str) (ds : List Value) (dvs : List V), FnOk P w K mg base (L2.CX P w) k g fd ps (spW K m (cF K c F)) ∧ ClX.CMet K (ca K c) (.type "type") x p g ∧ Binds K fd ps ds ∧ Vals dvs ds ∧ ∀ G, RepL K G dvd dvs
def dCMeth (m : Nat) (F : DF) (dvd : List D) (a : DA) : DE := fun x ρ n q => a x ρ n fun ds n1 => (ds ++ dvd).length + 1 = m ∧ F x.w (ds ++ dvd) n1 q x.ex
section
variable {X : Cx} {W : WX} {k m : Nat} {F : DF} {FI : DFI} {dvd : List D} {x c y : Str} {p pos apos : Pos} {e o : Expr} {es : List Expr} {a : DA} {δ : DE}
def dMakeV (i : Nat) (C : Addr) (c : Str) (m : Nat) (F : DFI) (dvd : List D) (a : DA) : DE := fun x ρ n q => ρ[i]? = some (some (.val (.hnd C))) ∧ dMake c m F dvd a x ρ n q
end
abbrev AlN : Type := He.AlD × He.AlD × Bool
structure SaysN (fa : List He.Fa) (fn : List He.DefD) (cf : List He5.DefA) (tf : List He.Defn) (ex : PySem.W.Frag → Bool) (h : Heap) (K : PySem.W.Frag) : Prop where
  d : He.SaysD fa fn K
  cm : He5.SaysA [] cf K
  more : ex K = true
  tabs : ∀ p ∈ tf, PySem.W.codeHdIn K (He.cT K p).1 (He.cT K p).2 = true ∧ K.lookup (He.cT K p).2 = none ∧ h.get? (He.cT K p).2 = some { cls := .none, data := .fields #[] }
def tblOf (K : PySem.W.Frag) (tf : List Str) : List (Addr × Str) := tf.map fun x => ((He.cT K (x, none)).2, x ++ ".<locals>.<lambda>")
def tblB (tf : List Str) (K : PySem.W.Frag) : Bool := decide (((tblOf K tf).map (·.1)).Nodup)
theorem nodup_at {α β : Type} : ∀ {l : List (α × β)}, (l.map (·.1)).Nodup → ∀ {a : α} {b : β}, (a, b) ∈ l → ∀ p ∈ l, p.1 = a → p.2 = b
  | [], _, _, _, h, _, _, _ => nomatch h
  | q :: l, hn, a, b, h, p, hp, e => by
    rw [List.map_cons, List.nodup_cons] at hn
    rcases List.mem_cons.mp h with h | h
    · rcases List.mem_cons.mp hp with hp | hp
      · rw [hp, ← h]
      · exact (hn.1 (by rw [← h]; exact List.mem_map.mpr ⟨p, hp, e⟩)).elim
    · rcases List.mem_cons.mp hp with hp | hp
      · exact (hn.1 (by rw [← hp, e]; exact List.mem_map.mpr ⟨_, h, rfl⟩)).elim
      · exact nodup_at hn.2 h p hp e
end DL

end

section
set_option autoImplicit false
namespace DL
open PySem PySem.Spec L2
section
variable {K : PySem.W.Frag}
def fMin2 : FL := fun ds k => match ds with
  | [.int i, .int j] => k (.int (if j < i then j else i))
  | _ => False
def fMax2 : FL := fun ds k => match ds with
  | [.int i, .int j] => k (.int (if i < j then j else i))
  | _ => False
end
end DL

end

section
set_option autoImplicit false
namespace DL
open PySem PySem.Spec L2
section
variable {M : Model} {A : Around} {E : Value → Shared → Prop} {s : Shared} {env : PySem.Env} {pos : Pos} {first : List Value} {Q : Value → Shared → Prop} {a C dx : Addr}
end
section
variable {X : Cx} {pins : List (Addr × Obj)} {σ : L2.St} {H : Hp} {s : Shared} {CX : CXT} {k : Nat} {f C dx a : Addr} {fd : FuncData} {ps : List Str} {sp : Sp} {E : L2.St → XK} {Q : VK} {us : List Value} {vs : List V} {fs : List (Str × V)}
end
section
variable {X : Cx} {W : WX} {k m : Nat} {F : DF} {x c : Str} {p pos : Pos} {e : Expr} {es : List Expr} {a : DA}
def dCallO (i : Nat) (c : Str) (m : Nat) (F : DF) (a : DA) : DE := fun x ρ n q => match ρ[i]? with
  | some (some (.val (.obj c' fs))) => c' = c ∧ a x ρ n fun ds n1 => ds.length + 1 = m ∧ F x.w (.obj c' fs :: ds) n1 q x.ex
  | _ => False
end
end DL

end

section
set_option autoImplicit false
namespace DL
open PySem PySem.Spec L2
section
variable {X : Cx} {W : WX} {a b c : Expr} {δa δb : DE} {τa : DT} {pos : Pos}
def fRepL : F2 := fun x y k => match x, y with
  | .lst a, .int j => (-(2 ^ 63) ≤ j ∧ j < 2 ^ 63 ∧ a.length * j.toNat ≤ 16777216) ∧ k (.lst (List.replicate j.toNat a).flatten)
  | _, _ => False
end
end DL

end

section
set_option autoImplicit false
namespace DL
open PySem PySem.Spec L2
section
variable {X : Cx} {K : PySem.W.Frag} {W : WX} {a b c : Expr} {δa δb : DE} {pos : Pos}
def fMulS : F2 := fun x y k => match x, y with
  | .str a, .int j => (0 ≤ j ∧ j < 2 ^ 62 ∧ a.length * j.toNat ≤ 16777216) ∧ ∀ z, k (.str z)
  | _, _ => False
end
end DL

end

section
set_option autoImplicit false
namespace DL
open PySem PySem.Spec L2
section
variable {X : Cx} {W : WX} {k m : Nat} {F : DF} {c : Str} {pos : Pos} {o e : Expr} {es : List Expr} {a : DA} {δ : DE}
def dCallX (c : Str) (m : Nat) (F : DF) (δ : DE) (a : DA) : DE := fun x ρ n q => δ x ρ n fun d n1 => match d with
  | .obj c' fs => c' = c ∧ a x ρ n1 fun ds n2 => ds.length + 1 = m ∧ F x.w (.obj c' fs :: ds) n2 q x.ex
  | _ => False
end
end DL

end

section
set_option autoImplicit false
namespace DL
open PySem PySem.Spec L2
section
variable {prog : Program} {w : World} {A : Around} {E : Value → Shared → Prop} {s : Shared} {x : Addr}
end
section
variable {X : Cx} {pins : List (Addr × Obj)} {σ : L2.St} {H : Hp} {s : Shared} {CX : CXT} {k : Nat} {f : Addr} {fd : FuncData} {ps : List Str} {sp : Sp} {E : L2.St → XK} {Q : VK} {us : List Value} {vs : List V} {A : Around}
theorem run_in (F : FnOk X.prog X.w X.K X.mg X.base CX k f fd ps sp) (hr : Room k A) (e0 : Env0 X.prog X.w X.K X.mg X.base A X.stack s H) (hb : Binds X.K fd ps []) (hx : PassesAt CX X σ (E σ)) (I : Inv X pins σ H s) (r : Vals vs us) (h : sp vs H Q (E σ)) :
    wpAny (model X.prog X.w) A (call (.ref f) us) (EP X pins σ Q) X.xe s := by
  have hl : (us ++ []).length = ps.length := by
    have e := r.length
    rw [F.len _ _ _ _ h] at e
    rw [List.append_nil]
    exact e.symm
  have hbb := hb _ us I.kIn hl
  rw [List.append_nil] at hbb
  refine wpAny_call (codeAny_mono (F.run _ X.stack _ _ ⟨us, []⟩ us _ _ (E σ) hr e0 hbb r h) fun r s' hq' => ?_)
  cases r with
  | error e => exact hx pins _ _ e s' I hq'
  | ok fl =>
    cases fl with
    | ret u => exact I.after hq'
    | next => exact False.elim hq'
    | brk => exact False.elim hq'
    | cont => exact False.elim hq'
end
section
variable {X : Cx} {W : WX} {k : Nat} {f C : Addr} {fd : FuncData} {ps : List Str} {sp : Sp} {E : L2.St → XK} {a b e : Expr} {es : List Expr} {ta tb : TE} {t : TA} {x : Str} {p pos : Pos} {c : Str} {F : DF} {δa δb : DE} {α' : DA} {CS : List Str}
def tLenO (C : Addr) (sp : Sp) (E : L2.St → XK) (t : TA) : TE := fun σ H Q => t σ H fun vs H1 => ∃ a dx fs, vs = [.ref a] ∧ H1 a = some (.ins C dx fs) ∧ sp [.ref a] H1 (fun v H2 => ∃ i : Int, v = .int i ∧ (0 ≤ i ∧ i < 2 ^ 63) ∧ Q (.int i) H2) (E σ)
theorem pe_lenO {CX : CXT} (hm : Meth X.K C "__len__" f) (F : FnOk X.prog X.w X.K X.mg X.base CX k f fd ps sp) (hr : Room (k + 1) X.A) (hb : Binds X.K fd ps []) (hx : ∀ σ, PassesAt CX X σ (E σ)) (hg : Gl X x) (hmg : X.mg x = none) (hv : bootBuiltins x = some (.builtin "len")) (ha : PA X (e :: es) t) (hn : x ≠ "__name__" := by decide) (hdb : (x == ("__debug__" : Str)) = false := by decide)
    (he : starEach (e :: es) X.env = (false, eval e X.env) :: starEach es X.env := by rfl) (hpl : (backTo pos (starEach es X.env)).any (·.1) = false := by rfl) : PE X (.Call (.Name x p) (e :: es) [] pos) (tLenO C sp E t) := by
  refine ⟨fun pins s σ H Q I hw => ?_⟩
  refine wpAny_Call_Name_kw (ld_blt I hg hmg hv ?_ hn hdb)
  refine PyProof.Rows.callWith_builtin1 (thn (ha.run pos pins s σ H _ I hw) fun us s1 ⟨vs, H1, I1, r1, p, dx, fs, ev, ea, hsp⟩ => ?_) he hpl
  subst ev
  have r0 := r1
  obtain rfl := Vals.ref1 r1
  obtain ⟨mA, J, _⟩ := ins_get I1.hok ea
  obtain ⟨od, J, _⟩ := J.look
  obtain ⟨mm, hF⟩ := I1.fr
  have hr2 : Room k X.A.in1 := Room.in1 hr
  refine PySem.W.len_K hF I1.ok.mod.kin J hm.at_ hm.fn ?_
  refine wpAny_mono (run_in F hr2 I1.env0.in1 hb (hx σ) I1 r0 hsp) (fun w s' z => ?_) fun _ _ h => h
  obtain ⟨z', H', I', rz, i, ez, hi, qz⟩ := z
  subst ez
  obtain ⟨t, rfl⟩ : ∃ t, w = Value.int i t := rz
  exact ⟨hi, .int i, H', I'.tok _, ⟨_, rfl⟩, qz⟩
def dBoolO (c : Str) (F : DF) (α' : DA) : DE := fun x ρ n q => α' x ρ n fun us n1 => ∃ fs, us = [.obj c fs] ∧ F x.w us n1 (fun d n2 => match d with
  | .bl b => q (.bl b) n2
  | _ => False) x.ex
def dLenO (c : Str) (F : DF) (α' : DA) : DE := fun x ρ n q => α' x ρ n fun us n1 => ∃ fs, us = [.obj c fs] ∧ F x.w us n1 (fun d n2 => match d with
  | .int i => (0 ≤ i ∧ i < 2 ^ 63) ∧ q (.int i) n2
  | _ => False) x.ex
def dInO (ng : Bool) (c : Str) (F : DF) (a b : DE) : DE := fun x ρ n q => a x ρ n fun u n1 => b x ρ n1 fun v n2 => (∃ fs, v = .obj c fs) ∧ F x.w [v, u] n2 (fun d n3 => match d with
  | .bl b => q (.bl (b != ng)) n3
  | _ => False) x.ex
theorem pd_lenO (S : Mg X.prog X.w X.K X.mg X.base c "__len__" k 1 F []) (hr : Room (k + 1) X.A) (tk : Takes X W) (ha : PAD X W (e :: es) α') (hg : Gl X x) (hmg : X.mg x = none) (hv : bootBuiltins x = some (.builtin "len") := by decide +kernel) (hn : x ≠ "__name__" := by decide) (hdb : (x == ("__debug__" : Str)) = false := by decide)
    (he : starEach (e :: es) X.env = (false, eval e X.env) :: starEach es X.env := by rfl) (hpl : (backTo pos (starEach es X.env)).any (·.1) = false := by rfl) : PD X W (.Call (.Name x p) (e :: es) [] pos) (dLenO c F α') := by
  obtain ⟨t, pa, ea⟩ := ha
  obtain ⟨f, fd, ps, ds, dvs, hF, hm, hbd, hd, hdv⟩ := S.ex
  have ev : dvs = [] := by
    have z := (hdv (fun _ => none)).length
    exact List.length_eq_zero_iff.mp z.symm
  subst ev
  cases hd
  refine ⟨_, pe_lenO hm hF hr hbd (fun σ => passAt tk σ) hg hmg hv pa hn hdb he hpl, fun B σ H ρ n G α Q x q hK R hx h kk => ?_⟩
  refine ea B σ H ρ n G α _ x _ hK R hx h fun vs H1 G1 ds n1 s1 j1 r1 h1 => ?_
  have R1 := R.step s1 j1
  obtain ⟨fs, rfl, h1⟩ := h1
  rw [hx.1] at h1
  have rr := r1
  cases rr with
  | cons ro rt =>
    cases rt
    cases ro with
    | obj e r =>
      refine ⟨_, _, _, rfl, s1.hh.get e, B.W, n1, G1, _, _, x.ex, s1.hh, R1.rg, j1, r1, rfl, h1, fun v H' G' d n' s j r hq => ?_, fun cc dd H' G' e n' s j r hq => (hx.step s1).2 cc dd H' G' e n' s j (hK ▸ r) hq⟩
      cases d with
      | int i => cases r; exact ⟨i, rfl, hq.1, kk (.int i) H' G' (.int i) n' (s1.trans s) j (.int i) hq.2⟩
      | _ => exact hq.elim
end
end DL

end

section
set_option autoImplicit false
namespace DL
open PySem PySem.Spec PySem.SeqAt L2
open AutoSeq1 (wpAny_loadPart')
open MeetsSeq MeetsSeq2 MeetsSeq3 SeqRoads2
section
variable {prog : Program} {w : World} {A : Around} {R : Result → Shared → Prop}
def opN (neg : Bool) : Int := if neg = true then 3 else 2
def LsT (prog : Program) (w : World) (A : Around) (E : Value → Shared → Prop) (l m : Addr) (N : Nat) (b : Nat → Bool) (J : Shared → Prop) : Prop :=
  ∀ s, J s → ∃ (xs ys : Array Value) (k k' : Nat), s.heap.get? l = some { cls := .type "list", data := .seq xs k } ∧ s.heap.get? m = some { cls := .type "list", data := .seq ys k' } ∧ xs.size = N ∧ ys.size = N ∧
    ∀ (i : Nat) (h1 : i < xs.size) (h2 : i < ys.size), wpAny (model prog w) A.in1 (eqBool xs[i] ys[i]) (fun r s' => r = b i ∧ J s') E s
def allB (b : Nat → Bool) (i : Nat) : Nat → Bool
  | 0 => true
  | k + 1 => b i && allB b (i + 1) k
theorem loop_eqB (neg : Bool) (l m : Addr) (N : Nat) (b : Nat → Bool) (J : Shared → Prop) (hl : LsT prog w A (fun e s' => R (.error e) s') l m N b J) (k : Nat) :
    ∀ i : Nat, N - i = k → i ≤ N → (∀ s, J s → R (.ok (.ret (.bool (allB b i k != neg)))) s) → ∀ s, J s →
      wpAny (model prog w) A.in1 (Builtin.«list.__eq__.loop» ⟨[.ref l, .ref m, rawInt i, rawInt (opN neg)], []⟩) (GQ.FinOf prog w A R) (fun e s' => R (.error e) s') s := by
  induction k with
  | zero =>
    intro i hk hi fin s hJ
    obtain ⟨xs, ys, n, n2, hx, hy, sx, sy, _⟩ := hl _ hJ
    have hR := fin s hJ
    obtain ⟨hp, g, d, tk, os⟩ := s
    have nx : xs[((i : Nat) : Int).toNat]? = none := by simp; omega
    have ny : ys[((i : Nat) : Int).toNat]? = none := by simp; omega
    cases neg
    · wp_walk using wpAny_loadPart' hx, wpAny_loadPart' hy
      rw [nx, ny]
      wp_walk using wpAny_loadPart' hx, wpAny_loadPart' hy
      show R (.ok (.ret (.bool (xs.size == ys.size)))) _
      rw [sx, sy, beq_self_eq_true]
      exact hR
    · wp_walk using wpAny_loadPart' hx, wpAny_loadPart' hy
      rw [nx, ny]
      wp_walk using wpAny_loadPart' hx, wpAny_loadPart' hy
      show R (.ok (.ret (.bool (xs.size != ys.size)))) _
      rw [sx, sy, bne_self_eq_false]
      exact hR
  | succ k ih =>
    intro i hk hi fin s hJ
    obtain ⟨xs, ys, n, n2, hx, hy, sx, sy, turn⟩ := hl _ hJ
    have ix : i < xs.size := by omega
    have iy : i < ys.size := by omega
    have ht := turn i ix iy
    have gx : xs[((i : Nat) : Int).toNat]? = some xs[i] := by simp [ix]
    have gy : ys[((i : Nat) : Int).toNat]? = some ys[i] := by simp [iy]
    have go : ∀ (s2 : Shared), J s2 → b i = true → wpAny (model prog w) A.in1 (Builtin.«list.__eq__.loop» ⟨[.ref l, .ref m, rawInt (i + 1 : Nat), rawInt (opN neg)], []⟩) (GQ.FinOf prog w A R) (fun e s' => R (.error e) s') s2 := fun s2 j2 hb =>
      ih (i + 1) (by omega) (by omega) (fun s' j' => by
        have := fin s' j'
        rwa [allB, hb, Bool.true_and] at this) s2 j2
    have stop : ∀ (s2 : Shared), J s2 → b i = false → R (.ok (.ret (.bool neg))) s2 := fun s2 j2 hb => by
      have := fin s2 j2
      rw [allB, hb, Bool.false_and] at this
      cases neg <;> exact this
    obtain ⟨hp, g, d, tk, os⟩ := s
    cases neg
    · wp_walk using wpAny_loadPart' hx, wpAny_loadPart' hy
      rw [gx, gy]
      refine wpAny_bind (wpAny_mono ht (fun r s2 h2 => ?_) fun _ _ z => z)
      obtain ⟨hr, j2⟩ := h2
      cases hb : b i with
      | true =>
        rw [hb] at hr
        subst hr
        have nxt := go s2 j2 hb
        obtain ⟨hp2, g2, d2, tk2, os2⟩ := s2
        wp_walk
        rw [show ((i : Int) + 1) = ((i + 1 : Nat) : Int) by omega]
        refine ⟨plainId_quiet plain_eq_loop _, codeAny_builtin entry_eq_loop ?_⟩
        rw [Around.under_plainId plain_eq_loop _]
        exact nxt
      | false =>
        rw [hb] at hr
        subst hr
        have hR := stop s2 j2 hb
        obtain ⟨xs2, ys2, n3, n4, hx2, hy2, sx2, sy2, _⟩ := hl _ j2
        obtain ⟨hp2, g2, d2, tk2, os2⟩ := s2
        have hx3 : i < xs2.size := by omega
        have hy3 : i < ys2.size := by omega
        wp_walk using wpAny_loadPart' hx2, wpAny_loadPart' hy2
        rw [show xs2[((i : Nat) : Int).toNat]? = some xs2[i] by simp [hx3], show ys2[((i : Nat) : Int).toNat]? = some ys2[i] by simp [hy3]]
        wp_walk
        exact hR
    · wp_walk using wpAny_loadPart' hx, wpAny_loadPart' hy
      rw [gx, gy]
      refine wpAny_bind (wpAny_mono ht (fun r s2 h2 => ?_) fun _ _ z => z)
      obtain ⟨hr, j2⟩ := h2
      cases hb : b i with
      | true =>
        rw [hb] at hr
        subst hr
        have nxt := go s2 j2 hb
        obtain ⟨hp2, g2, d2, tk2, os2⟩ := s2
        wp_walk
        rw [show ((i : Int) + 1) = ((i + 1 : Nat) : Int) by omega]
        refine ⟨plainId_quiet plain_eq_loop _, codeAny_builtin entry_eq_loop ?_⟩
        rw [Around.under_plainId plain_eq_loop _]
        exact nxt
      | false =>
        rw [hb] at hr
        subst hr
        have hR := stop s2 j2 hb
        obtain ⟨xs2, ys2, n3, n4, hx2, hy2, sx2, sy2, _⟩ := hl _ j2
        obtain ⟨hp2, g2, d2, tk2, os2⟩ := s2
        have hx3 : i < xs2.size := by omega
        have hy3 : i < ys2.size := by omega
        wp_walk using wpAny_loadPart' hx2, wpAny_loadPart' hy2
        rw [show xs2[((i : Nat) : Int).toNat]? = some xs2[i] by simp [hx3], show ys2[((i : Nat) : Int).toNat]? = some ys2[i] by simp [hy3]]
        show wpAny _ _ (ret (.bool true)) _ _ _
        exact wpAny_pure hR
theorem list_eqB (l m : Addr) (N : Nat) (b : Nat → Bool) (J : Shared → Prop) (hl : LsT prog w A (fun e s' => R (.error e) s') l m N b J) (fin : ∀ s, J s → R (.ok (.ret (.bool (allB b 0 N)))) s) {s : Shared} (h : J s) :
    wpAny (model prog w) A.in1 (Builtin.«list.__eq__» ⟨[.ref l, .ref m], []⟩) (GQ.FinOf prog w A R) (fun e s' => R (.error e) s') s := by
  obtain ⟨xs, ys, n, n2, hx, hy, sx, sy, _⟩ := hl _ h
  have nxt := loop_eqB (A := A) (R := R) false l m N b J hl N 0 rfl (Nat.zero_le _) (fun s' j' => by
    have := fin s' j'
    rwa [show (allB b 0 N != false) = allB b 0 N by cases allB b 0 N <;> rfl]) s h
  obtain ⟨hp, g, d, tk, os⟩ := s
  have f3 := AutoSeq1.sub_list_list
  have hne : ¬ (xs.size != ys.size) = true := by simp [sx, sy]
  wp_walk using wpAny_loadPart' hx, wpAny_loadPart' hy
  refine ⟨plainId_quiet plain_eq_loop _, codeAny_builtin entry_eq_loop ?_⟩
  rw [Around.under_plainId plain_eq_loop _]
  exact nxt
theorem list_eqD (l m : Addr) (xs ys : Array Value) (n n2 : Nat) {s : Shared} (hx : s.heap.get? l = some { cls := .type "list", data := .seq xs n }) (hy : s.heap.get? m = some { cls := .type "list", data := .seq ys n2 }) (ne : xs.size ≠ ys.size) (fin : R (.ok (.ret (.bool false))) s) :
    wpAny (model prog w) A.in1 (Builtin.«list.__eq__» ⟨[.ref l, .ref m], []⟩) (GQ.FinOf prog w A R) (fun e s' => R (.error e) s') s := by
  obtain ⟨hp, g, d, tk, os⟩ := s
  have f3 := AutoSeq1.sub_list_list
  have hne : (xs.size != ys.size) = true := by simpa using ne
  wp_walk using wpAny_loadPart' hx, wpAny_loadPart' hy
  exact fin
theorem list_neB (l m : Addr) (N : Nat) (b : Nat → Bool) (J : Shared → Prop) (hl : LsT prog w A (fun e s' => R (.error e) s') l m N b J) (fin : ∀ s, J s → R (.ok (.ret (.bool (!allB b 0 N)))) s) {s : Shared} (h : J s) :
    wpAny (model prog w) A.in1 (Builtin.«list.__ne__» ⟨[.ref l, .ref m], []⟩) (GQ.FinOf prog w A R) (fun e s' => R (.error e) s') s := by
  obtain ⟨xs, ys, n, n2, hx, hy, sx, sy, _⟩ := hl _ h
  have nxt := loop_eqB (A := A) (R := R) true l m N b J hl N 0 rfl (Nat.zero_le _) (fun s' j' => by
    have := fin s' j'
    rwa [show (allB b 0 N != true) = !allB b 0 N by cases allB b 0 N <;> rfl]) s h
  obtain ⟨hp, g, d, tk, os⟩ := s
  have f3 := AutoSeq1.sub_list_list
  have hne : ¬ (xs.size != ys.size) = true := by simp [sx, sy]
  wp_walk using wpAny_loadPart' hx, wpAny_loadPart' hy
  refine ⟨plainId_quiet plain_eq_loop _, codeAny_builtin entry_eq_loop ?_⟩
  rw [Around.under_plainId plain_eq_loop _]
  exact nxt
theorem list_neD (l m : Addr) (xs ys : Array Value) (n n2 : Nat) {s : Shared} (hx : s.heap.get? l = some { cls := .type "list", data := .seq xs n }) (hy : s.heap.get? m = some { cls := .type "list", data := .seq ys n2 }) (ne : xs.size ≠ ys.size) (fin : R (.ok (.ret (.bool true))) s) :
    wpAny (model prog w) A.in1 (Builtin.«list.__ne__» ⟨[.ref l, .ref m], []⟩) (GQ.FinOf prog w A R) (fun e s' => R (.error e) s') s := by
  obtain ⟨hp, g, d, tk, os⟩ := s
  have f3 := AutoSeq1.sub_list_list
  have hne : (xs.size != ys.size) = true := by simpa using ne
  wp_walk using wpAny_loadPart' hx, wpAny_loadPart' hy
  exact fin
end
end DL

end

section
set_option autoImplicit false
namespace DL
open PySem PySem.Spec PySem.SeqAt L2
open AutoSeq1 (wpAny_loadPart')
open MeetsSeq MeetsSeq2 MeetsSeq3 SeqRoads2
section
variable {prog : Program} {w : World} {A : Around} {R : Result → Shared → Prop}
theorem tuple_eqB (l m : Addr) (xs ys : Array Value) (n n2 : Nat) (dd dd2 : Option Addr) (sl sl2 : Array (Option Value)) (hsz : xs.size = ys.size) (b : Nat → Bool) (J : Shared → Prop)
    (turn : ∀ i (h1 : i < xs.size) (h2 : i < ys.size) s, J s → wpAny (model prog w) A.in1 (eqBool xs[i] ys[i]) (fun r s' => r = b i ∧ J s') (fun e s' => R (.error e) s') s)
    (fin : ∀ s, J s → R (.ok (.ret (.bool (allB b 0 xs.size)))) s) {s : Shared} (hx : s.heap.get? l = some { cls := .type "tuple", dict := dd, data := .seq xs n, slots := sl }) (hy : s.heap.get? m = some { cls := .type "tuple", dict := dd2, data := .seq ys n2, slots := sl2 }) (h : J s) :
    wpAny (model prog w) A.in1 (Builtin.«tuple.__eq__» ⟨[.ref l, .ref m], []⟩) (GQ.FinOf prog w A R) (fun e s' => R (.error e) s') s := by
  have f2 := AutoSeq1.sub_tuple_tuple
  have hZ : (xs.toList.zip ys.toList).length = xs.size := by simp [hsz]
  have h0 := h
  obtain ⟨hp, g, d, tk, os⟩ := s
  wp_walk using wpAny_loadPart' hx, wpAny_loadPart' hy, wpAny_forIn_list _ (fun rest c s' => J s' ∧ c.1 = none ∧ ∃ i, rest = (xs.toList.zip ys.toList).drop i ∧ i ≤ xs.size ∧ allB b 0 xs.size = allB b i (xs.size - i)) _
  case turn =>
    rintro ⟨x, y⟩ rest c s' ⟨hJ, hc, i, hz, hi, ha⟩
    have hlt : i < (xs.toList.zip ys.toList).length := by
      rcases Nat.lt_or_ge i (xs.toList.zip ys.toList).length with z | z
      · exact z
      · rw [List.drop_of_length_le z] at hz; cases hz
    have h1 : i < xs.size := hZ ▸ hlt
    have h2 : i < ys.size := hsz ▸ h1
    rw [List.drop_eq_getElem_cons hlt] at hz
    injection hz with hyx hrest
    have ex : x = xs[i] := by have := congrArg Prod.fst hyx; simpa using this
    have ey : y = ys[i] := by have := congrArg Prod.snd hyx; simpa using this
    subst ex ey
    have ha' : allB b 0 xs.size = (b i && allB b (i + 1) (xs.size - (i + 1))) := by
      rw [ha, show xs.size - i = (xs.size - (i + 1)) + 1 by omega, allB]
    refine wpAny_bind (wpAny_mono (turn i h1 h2 s' hJ) (fun r s2 q2 => ?_) fun _ _ z => z)
    obtain ⟨hr, j2⟩ := q2
    cases hb : b i with
    | true =>
      rw [hb] at hr
      subst hr
      rw [hb, Bool.true_and] at ha'
      exact wpAny_pure ⟨j2, rfl, i + 1, hrest, h1, ha'⟩
    | false =>
      rw [hb] at hr
      subst hr
      rw [hb, Bool.false_and] at ha'
      have hR := fin s2 j2
      rw [ha'] at hR
      show wpAny _ _ (do let z ← ret (.bool false); pure (ForInStep.done (some z, ()))) _ _ _
      exact wpAny_bind (wpAny_pure (wpAny_pure (wpAny_pure hR)))
  case fin =>
    rintro ⟨c1, c2⟩ s' ⟨hJ, hc, i, hz, hi, ha⟩
    simp only at hc
    subst hc
    have hge : xs.size ≤ i := by
      rcases Nat.lt_or_ge i (xs.toList.zip ys.toList).length with z | z
      · rw [List.drop_eq_getElem_cons z] at hz; cases hz
      · exact hZ ▸ z
    have hR := fin s' hJ
    rw [ha, show xs.size - i = 0 by omega] at hR
    refine wpAny_pure ?_
    show R (.ok (.ret (.bool (xs.size == ys.size)))) s'
    rw [hsz, beq_self_eq_true]
    exact hR
  case h => exact ⟨h0, rfl, 0, rfl, Nat.zero_le _, rfl⟩
end
end DL

end

section
set_option autoImplicit false
namespace DL
open PySem PySem.Spec L2
mutual
def Sh : D → D → Prop
  | .lst a, .lst b => ShL a b
  | .tup a, .tup b => ShL a b
  | .dct a, .dct b => ShK a b
  | .obj c a, .obj c' b => c = c' ∧ ShF a b
  | .int _, .int _ => True
  | .str _, .str _ => True
  | .bl _, .bl _ => True
  | .non, .non => True
  | _, _ => False
def ShL : List D → List D → Prop
  | a :: as, b :: bs => Sh a b ∧ ShL as bs
  | _, _ => True
def ShK : List (Key × D) → List (Key × D) → Prop
  | (_, a) :: as, (_, b) :: bs => Sh a b ∧ ShK as bs
  | _, _ => True
def ShF : List (Str × D) → List (Str × D) → Prop
  | (_, a) :: as, (_, b) :: bs => Sh a b ∧ ShF as bs
  | _, _ => True
end
section
variable {X : Cx} {pins : List (Addr × Obj)} {σ : L2.St} {H G : Hp} {s : Shared}
mutual
theorem Rep.inj (I : Inv X pins σ H s) (le : Le G H) : ∀ {u v : D} {x : V}, Rep X.K G u x → Rep X.K G v x → Sh u v → u = v
  | _, _, _, .non, r, h => by cases r <;> first | rfl | exact h.elim
  | _, _, _, .bl b, r, h => by cases r <;> first | rfl | exact h.elim
  | _, _, _, .int i, r, h => by cases r <;> first | rfl | exact h.elim
  | _, _, _, .str x, r, h => by cases r <;> first | rfl | exact h.elim
  | _, _, _, .lst e t, r, h => by
    cases r with
    | lst e' t' =>
      rw [e] at e'
      cases e'
      unfold Sh at h
      rw [RepL.inj I le t t' h]
    | _ => unfold Sh at h; exact h.elim
  | _, _, _, .tup e t, r, h => by
    cases r with
    | tup e' t' =>
      have z := I.tuple_inj (le.sqT e) (le.sqT e')
      subst z
      unfold Sh at h
      rw [RepL.inj I le t t' h]
    | _ => unfold Sh at h; exact h.elim
  | _, _, _, .dct e t, r, h => by
    cases r with
    | dct e' t' =>
      rw [e] at e'
      cases e'
      unfold Sh at h
      rw [RepK.inj I le t t' h]
    | _ => unfold Sh at h; exact h.elim
  | _, _, _, .obj e t, r, h => by
    cases r with
    | obj e' t' =>
      unfold Sh at h
      obtain ⟨rfl, h⟩ := h
      rw [e] at e'
      cases e'
      rw [RepF.inj I le t t' h]
    | _ => unfold Sh at h; exact h.elim
  | _, _, _, .hnd a, r, h => by unfold Sh at h; exact h.elim
  | _, _, _, .exc _ _, r, h => by unfold Sh at h; exact h.elim
  | _, _, _, .rol _ _, r, h => by unfold Sh at h; exact h.elim
theorem RepL.inj (I : Inv X pins σ H s) (le : Le G H) : ∀ {u v : List D} {x : List V}, RepL X.K G u x → RepL X.K G v x → ShL u v → u = v
  | _, _, _, .nil, r, _ => by
    cases r
    rfl
  | _, _, _, .cons r t, q, h => by
    cases q with
    | cons r' t' =>
      unfold ShL at h
      rw [Rep.inj I le r r' h.1, RepL.inj I le t t' h.2]
theorem RepK.inj (I : Inv X pins σ H s) (le : Le G H) : ∀ {u v : List (Key × D)} {x : List (Key × V)}, RepK X.K G u x → RepK X.K G v x → ShK u v → u = v
  | _, _, _, .nil, r, _ => by
    cases r
    rfl
  | _, _, _, .cons r t, q, h => by
    cases q with
    | cons r' t' =>
      unfold ShK at h
      rw [Rep.inj I le r r' h.1, RepK.inj I le t t' h.2]
theorem RepF.inj (I : Inv X pins σ H s) (le : Le G H) : ∀ {u v : List (Str × D)} {x : List (Str × V)}, RepF X.K G u x → RepF X.K G v x → ShF u v → u = v
  | _, _, _, .nil, r, _ => by
    cases r
    rfl
  | _, _, _, .cons r t, q, h => by
    cases q with
    | cons r' t' =>
      unfold ShF at h
      rw [Rep.inj I le r r' h.1, RepF.inj I le t t' h.2]
end
end
def Pure2 (F : DF) (u v : D) (r : Bool) : Prop := ∀ (W : Wd) (n : Nat) (q : DQ) (xx : Xn → Nat → Prop), q (.bl r) n → F W [u, v] n q xx
def EqX (Q : Str → D → D → Bool → Prop) : Nat → D → D → Bool → Prop
  | 0, u, v, r => flatD u = true ∧ flatD v = true ∧ r = eqD u v
  | k + 1, u, v, r => (flatD u = true ∧ flatD v = true ∧ r = eqD u v) ∨
      (∃ us vs, ((u = .lst us ∧ v = .lst vs) ∨ (u = .tup us ∧ v = .tup vs)) ∧ us.length = vs.length ∧ ∃ b : Nat → Bool, r = allB b 0 us.length ∧ ∀ i x y, us[i]? = some x → vs[i]? = some y → EqX Q k x y (b i)) ∨
      (∃ us vs, u = .lst us ∧ v = .lst vs ∧ us.length ≠ vs.length ∧ r = false) ∨
      (∃ c fs gs, u = .obj c fs ∧ v = .obj c gs ∧ Q c u v r ∧ Sh u v ∧ (u = v → r = true)) ∨
      (∃ ks ls, u = .dct ks ∧ v = .dct ls ∧ (ks.all fun q => flatD q.2) = true ∧ (ls.all fun q => flatD q.2) = true ∧ r = (ks.length == ls.length && eqKD ks ls) ∧ Sh u v ∧ (u = v → r = true))
theorem allB_true {b : Nat → Bool} : ∀ (k i : Nat), (∀ j, i ≤ j → j < i + k → b j = true) → allB b i k = true
  | 0, i, _ => rfl
  | k + 1, i, h => by rw [allB, h i (Nat.le_refl i) (by omega), allB_true k (i + 1) fun j h1 h2 => h j (by omega) (by omega)]; rfl
section
variable {X : Cx} {pins : List (Addr × Obj)} {σ : L2.St} {H G : Hp} {s : Shared} {Q : Str → D → D → Bool → Prop}
theorem RepL.both {K : PySem.W.Frag} {us vs : List D} {xs : List V} (h : RepL K G us xs) (h' : RepL K G vs xs) {i : Nat} {a b : D} (ha : us[i]? = some a) (hb : vs[i]? = some b) : ∃ x, Rep K G a x ∧ Rep K G b x := by
  obtain ⟨x, e, r⟩ := h.get ha
  obtain ⟨y, e', r'⟩ := h'.get hb
  rw [e] at e'
  cases e'
  exact ⟨x, r, r'⟩
theorem eqX_same (I : Inv X pins σ H s) (le : Le G H) : ∀ (k : Nat) {u v : D} {x : V} {r : Bool}, Rep X.K G u x → Rep X.K G v x → EqX Q k u v r → r = true := by
  have fl : ∀ {u v : D} {x : V} {r : Bool}, Rep X.K G u x → Rep X.K G v x → flatD u = true ∧ flatD v = true ∧ r = eqD u v → r = true := fun {u v x r} ru rv h => by
    obtain ⟨h1, h2, rfl⟩ := h
    rw [← ru.eqV rv h1 h2]
    cases ru <;> first | rfl | (simp [flatD] at h1; done) | simp [eqV]
  intro k
  induction k with
  | zero => exact fun ru rv h => fl ru rv h
  | succ k ih =>
    intro u v x r ru rv h
    rcases h with h | ⟨us, vs, hs, hl, b, rfl, hb⟩ | ⟨us, vs, rfl, rfl, hl, _⟩ | ⟨c, fs, gs, _, _, _, lk, h⟩ | ⟨ks, ls, _, _, _, _, _, lk, h⟩
    · exact fl ru rv h
    · refine allB_true _ _ fun j _ hj => ?_
      have hj1 : j < us.length := by omega
      have hj2 : j < vs.length := by omega
      have e1 := List.getElem?_eq_getElem hj1
      have e2 := List.getElem?_eq_getElem hj2
      rcases hs with ⟨rfl, rfl⟩ | ⟨rfl, rfl⟩
      · cases ru with
        | lst e t =>
          cases rv with
          | lst e' t' =>
            rw [e] at e'
            cases e'
            obtain ⟨y, r1, r2⟩ := t.both t' e1 e2
            exact ih r1 r2 (hb j _ _ e1 e2)
      · cases ru with
        | tup e t =>
          cases rv with
          | tup e' t' =>
            have z := I.tuple_inj (le.sqT e) (le.sqT e')
            subst z
            obtain ⟨y, r1, r2⟩ := t.both t' e1 e2
            exact ih r1 r2 (hb j _ _ e1 e2)
    · cases ru with
      | lst e t =>
        cases rv with
        | lst e' t' =>
          rw [e] at e'
          cases e'
          exact absurd (t.length.trans t'.length.symm) hl
    · exact h (Rep.inj I le ru rv lk)
    · exact h (Rep.inj I le ru rv lk)
end
end DL

end

section
set_option autoImplicit false
namespace DL
open PySem PySem.Spec PySem.SeqAt L2
section
variable {prog : Program} {w : World} {A : Around} {E : Value → Shared → Prop} {s : Shared} {l m : Addr} {N : Nat} {b : Nat → Bool} {Q : Value → Shared → Prop} {xs ys : Array Value} {n n2 : Nat}
theorem rc_lsB (hu : A.units < cLine) (J : Shared → Prop) (hl : LsT prog w A E l m N b J) (fin : ∀ s, J s → Q (.bool (allB b 0 N)) s) (h : J s) : wpAny (model prog w) A (richCompare .Eq (.ref l) (.ref m)) Q E s := by
  obtain ⟨xs, ys, n, n2, hx, hy, _⟩ := hl _ h
  exact wpAny_richCompare_same_room (op := .Eq) ⟨_, hx, rfl⟩ ⟨_, hy, rfl⟩ F.slot_list_eq (GQ.call_here F.slot_list_eq ⟨_, hx, rfl⟩ F.entry_list_eq (F.args_list_eq_2 _ _)
    (list_eqB (R := wants (fun v s' => v ≠ .notImplemented ∧ Q v s') E) l m N b J hl (fun s' q => ⟨(fun z => nomatch z), fin s' q⟩) h)) hu
theorem rc_lsD (hu : A.units < cLine) (hx : s.heap.get? l = some { cls := .type "list", data := .seq xs n }) (hy : s.heap.get? m = some { cls := .type "list", data := .seq ys n2 }) (ne : xs.size ≠ ys.size) (fin : Q (.bool false) s) : wpAny (model prog w) A (richCompare .Eq (.ref l) (.ref m)) Q E s :=
  wpAny_richCompare_same_room (op := .Eq) ⟨_, hx, rfl⟩ ⟨_, hy, rfl⟩ F.slot_list_eq (GQ.call_here F.slot_list_eq ⟨_, hx, rfl⟩ F.entry_list_eq (F.args_list_eq_2 _ _)
    (list_eqD (R := wants (fun v s' => v ≠ .notImplemented ∧ Q v s') E) l m xs ys n n2 hx hy ne ⟨(fun z => nomatch z), fin⟩)) hu
theorem rc_neB (hu : A.units < cLine) (J : Shared → Prop) (hl : LsT prog w A E l m N b J) (fin : ∀ s, J s → Q (.bool (!allB b 0 N)) s) (h : J s) : wpAny (model prog w) A (richCompare .NotEq (.ref l) (.ref m)) Q E s := by
  obtain ⟨xs, ys, n, n2, hx, hy, _⟩ := hl _ h
  exact wpAny_richCompare_same_room (op := .NotEq) ⟨_, hx, rfl⟩ ⟨_, hy, rfl⟩ F.slot_list_ne (GQ.call_here F.slot_list_ne ⟨_, hx, rfl⟩ F.entry_list_ne (F.args_list_ne_2 _ _)
    (list_neB (R := wants (fun v s' => v ≠ .notImplemented ∧ Q v s') E) l m N b J hl (fun s' q => ⟨(fun z => nomatch z), fin s' q⟩) h)) hu
theorem rc_neD (hu : A.units < cLine) (hx : s.heap.get? l = some { cls := .type "list", data := .seq xs n }) (hy : s.heap.get? m = some { cls := .type "list", data := .seq ys n2 }) (ne : xs.size ≠ ys.size) (fin : Q (.bool true) s) : wpAny (model prog w) A (richCompare .NotEq (.ref l) (.ref m)) Q E s :=
  wpAny_richCompare_same_room (op := .NotEq) ⟨_, hx, rfl⟩ ⟨_, hy, rfl⟩ F.slot_list_ne (GQ.call_here F.slot_list_ne ⟨_, hx, rfl⟩ F.entry_list_ne (F.args_list_ne_2 _ _)
    (list_neD (R := wants (fun v s' => v ≠ .notImplemented ∧ Q v s') E) l m xs ys n n2 hx hy ne ⟨(fun z => nomatch z), fin⟩)) hu
theorem rc_tpB (hu : A.units < cLine) (J : Shared → Prop) (hsz : xs.size = ys.size) (hx : s.heap.IsTuple l xs) (hy : s.heap.IsTuple m ys)
    (turn : ∀ i (h1 : i < xs.size) (h2 : i < ys.size) s, J s → wpAny (model prog w) A.in1 (eqBool xs[i] ys[i]) (fun r s' => r = b i ∧ J s') E s)
    (fin : ∀ s, J s → Q (.bool (allB b 0 xs.size)) s) (h : J s) : wpAny (model prog w) A (richCompare .Eq (.ref l) (.ref m)) Q E s := by
  obtain ⟨⟨c1, d1, t1, s1⟩, o1, e1, k1, f1⟩ := id hx
  obtain ⟨⟨c2, d2, t2, s2⟩, o2, e2, k2, f2⟩ := id hy
  simp only at e1 f1 e2 f2
  subst e1 f1 e2 f2
  exact wpAny_richCompare_same_room (op := .Eq) ⟨_, o1, rfl⟩ ⟨_, o2, rfl⟩ F.slot_tuple_eq (GQ.call_here F.slot_tuple_eq ⟨_, o1, rfl⟩ F.entry_tuple_eq (F.args_tuple_eq_2 _ _)
    (tuple_eqB (R := wants (fun v s' => v ≠ .notImplemented ∧ Q v s') E) l m xs ys k1 k2 d1 d2 s1 s2 hsz b J turn (fun s' q => ⟨(fun z => nomatch z), fin s' q⟩) o1 o2 h)) hu
end
section
variable {X : Cx} {W : WX} {Q : Str → D → D → Bool → Prop} {n0 : Nat}
def Kp (X : Cx) (pins : List (Addr × Obj)) (σ : L2.St) (H : Hp) (s' : Shared) : Prop := ∃ H', Inv X pins σ H' s' ∧ Ext H H'
theorem Le.ext {G H H' : Hp} (h : Le G H) (e : Ext H H') : Le G H' := .of_same fun a o z => e a o (h.get z)
def ClsQ (X : Cx) (n0 : Nat) (Q : Str → D → D → Bool → Prop) : Prop := ∀ c u v r, Q c u v r → ∃ j F, j ≤ n0 ∧ Mg X.prog X.w X.K X.mg X.base c "__eq__" j 2 F [] ∧ Pure2 F u v r
theorem turnX {A : Around} {pins : List (Addr × Obj)} {σ : L2.St} {H G : Hp} {us vs : List D} {as bs : List V} {is js : List Value} {b : Nat → Bool} {k : Nat}
    (ih : ∀ (A : Around) (s : Shared) (H' : Hp) {u v : D} {x y : V} {U V' : Value} {r : Bool}, Sub X (n0 + k) A → Inv X pins σ H' s → Le G H' → RelV x U → RelV y V' → Rep X.K G u x → Rep X.K G v y → EqX Q k u v r → wpAny (model X.prog X.w) A (eqBool U V') (fun z s' => z = r ∧ Kp X pins σ H' s') X.xe s)
    (sb : Sub X (n0 + k + 1) A) (le : Le G H) (ru : RepL X.K G us as) (rv : RepL X.K G vs bs) (ra : Vals as is) (rb : Vals bs js) (hb : ∀ i x y, us[i]? = some x → vs[i]? = some y → EqX Q k x y (b i)) (i : Nat) (h1 : i < is.toArray.size) (h2 : i < js.toArray.size) (s' : Shared) (h : Kp X pins σ H s') :
    wpAny (model X.prog X.w) A.in1 (eqBool is.toArray[i] js.toArray[i]) (fun z s2 => z = b i ∧ Kp X pins σ H s2) X.xe s' := by
  obtain ⟨H1, I1, e1⟩ := h
  have k1 : i < is.length := by simpa using h1
  have k2 : i < js.length := by simpa using h2
  have lu := ru.length
  have lv := rv.length
  have la := ra.length
  have lb := rb.length
  have gu : us[i]? = some us[i] := List.getElem?_eq_getElem (by omega)
  have gv : vs[i]? = some vs[i] := List.getElem?_eq_getElem (by omega)
  obtain ⟨x, ex, rx⟩ := ru.get gu
  obtain ⟨y, ey, ry⟩ := rv.get gv
  obtain ⟨u1, eu1, rel1⟩ := ra.get ex
  obtain ⟨v1, ev1, rel2⟩ := rb.get ey
  have q1 : is.toArray[i] = u1 := by
    rw [List.getElem?_eq_getElem k1] at eu1
    simpa using eu1
  have q2 : js.toArray[i] = v1 := by
    rw [List.getElem?_eq_getElem k2] at ev1
    simpa using ev1
  rw [q1, q2]
  refine wpAny_mono (ih A.in1 s' H1 sb.in1 I1 (le.ext e1) rel1 rel2 rx ry (hb i _ _ gu gv)) (fun z s2 q => ?_) fun _ _ z => z
  obtain ⟨hz, H2, I2, e2⟩ := q
  exact ⟨hz, H2, I2, e1.trans e2⟩
theorem eqX_run (hq : ClsQ X n0 Q) (tk : Takes X W) (pins : List (Addr × Obj)) (σ : L2.St) (G : Hp) : ∀ (k : Nat) (A : Around) (s : Shared) (H : Hp) {u v : D} {x y : V} {U V' : Value} {r : Bool}, Sub X (n0 + k) A → Inv X pins σ H s → Le G H → RelV x U → RelV y V' → Rep X.K G u x → Rep X.K G v y → EqX Q k u v r →
    wpAny (model X.prog X.w) A (eqBool U V') (fun z s' => z = r ∧ Kp X pins σ H s') X.xe s := by
  have fl : ∀ (A : Around) (s : Shared) (H : Hp) {u v : D} {x y : V} {U V' : Value} {r : Bool}, Inv X pins σ H s → RelV x U → RelV y V' → Rep X.K G u x → Rep X.K G v y → flatD u = true ∧ flatD v = true ∧ r = eqD u v → wpAny (model X.prog X.w) A (eqBool U V') (fun z s' => z = r ∧ Kp X pins σ H s') X.xe s := fun A s H {u v x y U V' r} I rx ry ru rv h => by
    obtain ⟨h1, h2, rfl⟩ := h
    rw [← ru.eqV rv h1 h2]
    exact eqAt_V (A := A) (s := s) rx ry (ru.flat h1) (rv.flat h2) X.prog X.w X.xe _ ⟨rfl, H, I, Ext.rfl'⟩
  intro k
  induction k with
  | zero => exact fun A s H {u v x y U V' r} _ I _ rx ry ru rv h => fl A s H I rx ry ru rv h
  | succ k ih =>
    intro A s H u v x y U V' r sb I le rx ry ru rv h
    have same : ∀ a, x = .ref a → y = .ref a → wpAny (model X.prog X.w) A (eqBool U V') (fun z s' => z = r ∧ Kp X pins σ H s') X.xe s := fun a e1 e2 => by
      subst e1
      subst e2
      have := eqX_same I le (k + 1) ru rv h
      subst this
      obtain rfl : U = Value.ref a := rx
      obtain rfl : V' = Value.ref a := ry
      exact SeqAt.EqAt.same (A := A) (s := s) (.ref a) X.prog X.w X.xe _ ⟨rfl, H, I, Ext.rfl'⟩
    have refs : ∀ a a', x = .ref a → y = .ref a' → (a ≠ a' → wpAny (model X.prog X.w) A (richCompare .Eq (.ref a) (.ref a')) (fun z s' => z = .bool r ∧ Kp X pins σ H s') X.xe s) → wpAny (model X.prog X.w) A (eqBool U V') (fun z s' => z = r ∧ Kp X pins σ H s') X.xe s := fun a a' e1 e2 hr => by
      by_cases e : a = a'
      · subst e; exact same a e1 e2
      · subst e1
        subst e2
        obtain rfl : U = Value.ref a := rx
        obtain rfl : V' = Value.ref a' := ry
        refine GQ.eqBool_refG e (wpAny_mono (hr e) (fun z s' q => ?_) fun _ _ z => z)
        exact ⟨r, q.1, rfl, q.2⟩
    rcases id h with h | ⟨us, vs, hs, hl, b, rfl, hb⟩ | ⟨us, vs, rfl, rfl, hl, rfl⟩ | ⟨c, fs, gs, rfl, rfl, hQ, lk, _⟩ | ⟨ks, ls, rfl, rfl, f1, f2, rfl, lk, _⟩
    · exact fl A s H I rx ry ru rv h
    · rcases hs with ⟨rfl, rfl⟩ | ⟨rfl, rfl⟩
      · cases ru with
        | @lst a _ as e t =>
          cases rv with
          | @lst a' _ bs e' t' =>
            refine refs _ _ rfl rfl fun _ => rc_lsB (N := us.length) (b := b) sb.room.units0 (Kp X pins σ H) (fun s1 hK => ?_) (fun s1 hK => ⟨rfl, hK⟩) ⟨H, I, Ext.rfl'⟩
            obtain ⟨H1, I1, x1⟩ := id hK
            obtain ⟨z, is, n1, r1, o1⟩ := I1.hok _ _ (x1 _ _ (le.get e))
            obtain ⟨z2, js, n2, r2, o2⟩ := I1.hok _ _ (x1 _ _ (le.get e'))
            refine ⟨is.toArray, js.toArray, n1, n2, o1, o2, by rw [List.size_toArray, ← r1.length, ← t.length], by rw [List.size_toArray, ← r2.length, ← t'.length, hl], fun i h1 h2 => ?_⟩
            exact turnX (fun A s H' => ih A s H') sb le t t' r1 r2 hb i h1 h2 s1 hK
      · cases ru with
        | @tup a _ as e t =>
          cases rv with
          | @tup a' _ bs e' t' =>
            refine refs _ _ rfl rfl fun _ => ?_
            obtain ⟨is, r1, o1, _⟩ := I.tuple (le.sqT e)
            obtain ⟨js, r2, o2, _⟩ := I.tuple (le.sqT e')
            have z1 : is.toArray.size = us.length := by rw [List.size_toArray, ← r1.length, ← t.length]
            have z2 : js.toArray.size = us.length := by rw [List.size_toArray, ← r2.length, ← t'.length, hl]
            refine rc_tpB (b := b) sb.room.units0 (Kp X pins σ H) (z1.trans z2.symm) o1 o2 (fun i h1 h2 s1 hK => turnX (fun A s H' => ih A s H') sb le t t' r1 r2 hb i h1 h2 s1 hK) (fun s1 hK => ⟨by rw [z1], hK⟩) ⟨H, I, Ext.rfl'⟩
    · cases ru with
      | @lst a _ as e t =>
        cases rv with
        | @lst a' _ bs e' t' =>
          refine refs _ _ rfl rfl fun _ => ?_
          obtain ⟨z, is, n1, r1, o1⟩ := I.hok _ _ (le.get e)
          obtain ⟨z2, js, n2, r2, o2⟩ := I.hok _ _ (le.get e')
          exact rc_lsD sb.room.units0 o1 o2 (by rw [List.size_toArray, List.size_toArray, ← r1.length, ← r2.length, ← t.length, ← t'.length]; exact hl) ⟨rfl, H, I, Ext.rfl'⟩
    · obtain ⟨j, F, hj, S, hP⟩ := hQ |> hq c _ _ r
      cases id ru with
      | @obj a dx _ _ ws e t =>
        cases id rv with
        | @obj a' dx' _ _ ws' e' t' =>
          refine refs _ _ rfl rfl fun _ => ?_
          obtain ⟨f, fd, ps, ds, dvs, hF, hm, hbd, hd, hdv⟩ := S.ex
          have ev : dvs = [] := by
            have z := (hdv (fun _ => none)).length
            exact List.length_eq_zero_iff.mp z.symm
          subst ev
          cases hd
          obtain ⟨mA, J1, _⟩ := ins_get I.hok (le.get e)
          obtain ⟨mB, J2, _⟩ := ins_get I.hok (le.get e')
          obtain ⟨od, J1, _⟩ := J1.look
          obtain ⟨od', J2, _⟩ := J2.look
          obtain ⟨mm, hFr⟩ := I.fr
          refine PySem.W.cmp_K (op := .Eq) (tb := .ref (ca X.K c)) sb.room.units0 hFr I.ok.mod.kin J1 J2.type (by simp [PySem.W.notFirst]) hm.at_ hm.fn ?_
          have e0 : Env0 X.prog X.w X.K X.mg X.base A X.stack s H := by
            have e := I.env0
            exact ⟨by rw [sb.fr]; exact e.frames, e.mod, e.bs, e.bsz, e.funs, e.frf, e.hok, e.bare⟩
          have hsp : spW X.K 2 F [.ref a, .ref a'] H (fun z H' => z = .bl r ∧ Ext H H') (WE W σ) := by
            refine ⟨Wd.none, 0, G, _, fun d _ => d = .bl r, fun _ _ => False, le, (fun _ h => h.elim), trivial, .cons ru (.cons rv .nil), rfl, hP _ _ _ _ rfl, fun z H' G' d n' st _ rz hd => ?_, fun _ _ _ _ _ _ _ _ _ h => h.elim⟩
            subst hd
            cases rz
            exact ⟨rfl, fun a o z => st.fr a o z fun h => h⟩
          refine wpAny_mono (run_in hF (sb.room.mono (by omega)) e0 hbd (passAt tk σ) I (show Vals [V.ref a, V.ref a'] [Value.ref a, Value.ref a'] from .cons rfl (.cons rfl .nil)) hsp) (fun z s' q => ?_) fun _ _ z => z
          obtain ⟨z', H', I', rz, ez, ex⟩ := q
          subst ez
          exact SlX.cmpback (z := .bl r) rz ⟨rz, H', I', ex⟩
    · cases ru with
      | @dct a _ _ ws e t =>
        cases rv with
        | @dct a' _ _ ws' e' t' =>
          refine refs _ _ rfl rfl fun _ => ?_
          obtain ⟨_, ya, va, ra, da⟩ := dk_rd I.hok (show L2.Rd H a (.dK ws) from .inr ⟨_, le.get e⟩)
          obtain ⟨_, yb, vb, rb, db⟩ := dk_rd I.hok (show L2.Rd H a' (.dK ws') from .inr ⟨_, le.get e'⟩)
          refine PySem.W.keq_eq (knd := mixKind X.prog X.w) (r := eqKS ws' ws) ya yb da db sb.room.units0 (fun _ => hitsKV rb (t'.flat f2) ra (t.flat f1)) ⟨?_, H, I, Ext.rfl'⟩
          rw [eqKS_eq, ← ra.length, ← rb.length, RepK.eqKV t' f2 t f1, ← t.length, ← t'.length]
variable {a b : Expr} {δa δb : DE} {pos : Pos}
def dEqX (Q : Str → D → D → Bool → Prop) (neg : Bool) (a b : DE) : DE := fun x ρ n q => a x ρ n fun u n1 => b x ρ n1 fun v n2 => ∃ us vs r, u = .lst us ∧ v = .lst vs ∧ EqX Q 4 u v r ∧ q (.bl (r != neg)) n2
def rEqX (K : PySem.W.Frag) (Q : Str → D → D → Bool → Prop) (neg : Bool) : V → V → Hp → VK → Prop := fun x y H Qk => ∃ G us vs r, Le G H ∧ Rep K G (.lst us) x ∧ Rep K G (.lst vs) y ∧ EqX Q 4 (.lst us) (.lst vs) r ∧ ∀ H', Ext H H' → Qk (.bl (r != neg)) H'
theorem op_eqX (hq : ClsQ X n0 Q) (tk : Takes X W) (hr : Room (n0 + 4) X.A) : OpR X (compareOp .Eq) (rEqX X.K Q false) := by
  intro pins s σ H x y v u Qk I rx ry h
  obtain ⟨G, us, vs, r, le, ru, rv, hX, hk⟩ := h
  have sb : Sub X (n0 + 3 + 1) X.A := ⟨hr, rfl⟩
  have fin : ∀ (c : Bool) (s' : Shared), c = r → Kp X pins σ H s' → EP X pins σ Qk (.bool c) s' := fun c s' e hK => by
    obtain ⟨H', I', ex⟩ := hK
    subst e
    refine ⟨.bl (c != false), H', I', ?_, hk H' ex⟩
    show Value.bool c = Value.bool (c != false)
    cases c <;> rfl
  cases ru with
  | @lst p _ as e t =>
    cases rv with
    | @lst p' _ bs e' t' =>
      obtain rfl : v = Value.ref p := rx
      obtain rfl : u = Value.ref p' := ry
      show wpAny _ _ (richCompare .Eq (.ref p) (.ref p')) _ _ _
      rcases hX with h | ⟨us2, vs2, hs, hl, b, rfl, hb⟩ | ⟨us2, vs2, e1, e2, hl, rfl⟩ | ⟨c, fs, gs, z, _⟩ | ⟨ks, ls, z, _⟩
      · exact absurd h.1 (by simp [flatD])
      · rcases hs with ⟨e1, e2⟩ | ⟨e1, _⟩
        · cases e1
          cases e2
          refine rc_lsB (N := us.length) (b := b) hr.units0 (Kp X pins σ H) (fun s1 hK => ?_) (fun s1 hK => fin _ s1 rfl hK) ⟨H, I, Ext.rfl'⟩
          obtain ⟨H1, I1, x1⟩ := id hK
          obtain ⟨z, is, n1, r1, o1⟩ := I1.hok _ _ (x1 _ _ (le.get e))
          obtain ⟨z2, js, n2, r2, o2⟩ := I1.hok _ _ (x1 _ _ (le.get e'))
          refine ⟨is.toArray, js.toArray, n1, n2, o1, o2, by rw [List.size_toArray, ← r1.length, ← t.length], by rw [List.size_toArray, ← r2.length, ← t'.length, hl], fun i h1 h2 => ?_⟩
          exact turnX (k := 3) (fun A s H' => eqX_run hq tk pins σ G 3 A s H') sb le t t' r1 r2 hb i h1 h2 s1 hK
        · cases e1
      · cases e1
        cases e2
        obtain ⟨z, is, n1, r1, o1⟩ := I.hok _ _ (le.get e)
        obtain ⟨z2, js, n2, r2, o2⟩ := I.hok _ _ (le.get e')
        exact rc_lsD hr.units0 o1 o2 (by rw [List.size_toArray, List.size_toArray, ← r1.length, ← r2.length, ← t.length, ← t'.length]; exact hl) (fin _ s rfl ⟨H, I, Ext.rfl'⟩)
      · cases z
      · cases z
theorem op_neX (hq : ClsQ X n0 Q) (tk : Takes X W) (hr : Room (n0 + 4) X.A) : OpR X (compareOp .NotEq) (rEqX X.K Q true) := by
  intro pins s σ H x y v u Qk I rx ry h
  obtain ⟨G, us, vs, r, le, ru, rv, hX, hk⟩ := h
  have sb : Sub X (n0 + 3 + 1) X.A := ⟨hr, rfl⟩
  have fin : ∀ (c : Bool) (s' : Shared), c = (!r) → Kp X pins σ H s' → EP X pins σ Qk (.bool c) s' := fun c s' e hK => by
    obtain ⟨H', I', ex⟩ := hK
    subst e
    refine ⟨.bl (r != true), H', I', ?_, hk H' ex⟩
    show Value.bool (!r) = Value.bool (r != true)
    cases r <;> rfl
  cases ru with
  | @lst p _ as e t =>
    cases rv with
    | @lst p' _ bs e' t' =>
      obtain rfl : v = Value.ref p := rx
      obtain rfl : u = Value.ref p' := ry
      show wpAny _ _ (richCompare .NotEq (.ref p) (.ref p')) _ _ _
      rcases hX with h | ⟨us2, vs2, hs, hl, b, rfl, hb⟩ | ⟨us2, vs2, e1, e2, hl, rfl⟩ | ⟨c, fs, gs, z, _⟩ | ⟨ks, ls, z, _⟩
      · exact absurd h.1 (by simp [flatD])
      · rcases hs with ⟨e1, e2⟩ | ⟨e1, _⟩
        · cases e1
          cases e2
          refine rc_neB (N := us.length) (b := b) hr.units0 (Kp X pins σ H) (fun s1 hK => ?_) (fun s1 hK => fin _ s1 rfl hK) ⟨H, I, Ext.rfl'⟩
          obtain ⟨H1, I1, x1⟩ := id hK
          obtain ⟨z, is, n1, r1, o1⟩ := I1.hok _ _ (x1 _ _ (le.get e))
          obtain ⟨z2, js, n2, r2, o2⟩ := I1.hok _ _ (x1 _ _ (le.get e'))
          refine ⟨is.toArray, js.toArray, n1, n2, o1, o2, by rw [List.size_toArray, ← r1.length, ← t.length], by rw [List.size_toArray, ← r2.length, ← t'.length, hl], fun i h1 h2 => ?_⟩
          exact turnX (k := 3) (fun A s H' => eqX_run hq tk pins σ G 3 A s H') sb le t t' r1 r2 hb i h1 h2 s1 hK
        · cases e1
      · cases e1
        cases e2
        obtain ⟨z, is, n1, r1, o1⟩ := I.hok _ _ (le.get e)
        obtain ⟨z2, js, n2, r2, o2⟩ := I.hok _ _ (le.get e')
        exact rc_neD hr.units0 o1 o2 (by rw [List.size_toArray, List.size_toArray, ← r1.length, ← r2.length, ← t.length, ← t'.length]; exact hl) (fin _ s rfl ⟨H, I, Ext.rfl'⟩)
      · cases z
      · cases z
theorem ed_eqX {ta tb : TE} {neg : Bool} (ea : ED X.K W ta δa) (eb : ED X.K W tb δb) : ED X.K W (tOp (rEqX X.K Q neg) ta tb) (dEqX Q neg δa δb) := by
  intro B σ H ρ n G α Qk x q hK R hx h kk
  refine ea B σ H ρ n G α _ x _ hK R hx h fun v1 H1 G1 d1 n1 s1 j1 r1 h1 => ?_
  have R1 := R.step s1 j1
  refine eb B σ H1 ρ n1 G1 α _ x _ hK R1 (hx.step s1) h1 fun v2 H2 G2 d2 n2 s2 j2 r2 h2 => ?_
  obtain ⟨us, vs, r, rfl, rfl, hX, hq⟩ := h2
  refine ⟨G2, us, vs, r, s2.hh, r1.mono s2.le, r2, hX, fun H' ex => ?_⟩
  have st : StepP H2 G2 H' G2 := ⟨ex, Le.refl G2, s2.hh.ext ex, fun _ e => .inl e⟩
  exact kk _ H' G2 _ n2 ((s1.trans s2).trans (st.step j2)) (st.J j2) (.bl _) hq
theorem pd_eqX (hq : ClsQ X n0 Q) (hr : Room (n0 + 4) X.A) (tk : Takes X W) (ha : PD X W a δa) (hb : PD X W b δb) : PD X W (.Compare a [.Eq] [b] pos) (dEqX Q false δa δb) := by
  obtain ⟨ta, pa, ea⟩ := ha
  obtain ⟨tb, pb, eb⟩ := hb
  exact ⟨_, pe_cmpR (op_eqX hq tk hr) pa pb (nomark _), ed_eqX ea eb⟩
theorem pd_neX (hq : ClsQ X n0 Q) (hr : Room (n0 + 4) X.A) (tk : Takes X W) (ha : PD X W a δa) (hb : PD X W b δb) : PD X W (.Compare a [.NotEq] [b] pos) (dEqX Q true δa δb) := by
  obtain ⟨ta, pa, ea⟩ := ha
  obtain ⟨tb, pb, eb⟩ := hb
  exact ⟨_, pe_cmpR (op_neX hq tk hr) pa pb (nomark _), ed_eqX ea eb⟩
theorem clsq0 : ClsQ X n0 (fun _ _ _ _ => False) := fun _ _ _ _ h => h.elim
theorem clsq1 {c : Str} {j : Nat} {F : DF} (S : Mg X.prog X.w X.K X.mg X.base c "__eq__" j 2 F []) (hj : j ≤ n0) : ClsQ X n0 (fun c' u v r => c' = c ∧ Pure2 F u v r) := fun c' u v r h => by
  obtain ⟨rfl, h⟩ := h
  exact ⟨j, F, hj, S, h⟩
end
end DL

end

section
set_option autoImplicit false
namespace DL
open PySem PySem.Spec PyProof.Rows L2
section
variable {X : Cx} {tg : Expr}
end
def iRB (a : DA) : DI := fun x ρ n q => a x ρ n fun ds n1 => match ds with
  | [.int i, .int j] => q (rngD i (j - i).toNat) n1
  | _ => False
section
variable {X : Cx} {W : WX} {tg a b : Expr} {α' : DA} {p pos : Pos}
end
end DL

end

section
set_option autoImplicit false
namespace DL
open PySem PySem.Spec L2
def obsP (as : List Addr) (fa : List He.Fa) (fn : List He.DefD) (cf : List He5.DefA) (tf : List He.Defn) (ex : PySem.W.Frag → Bool) (g : Addr → Option Obj) : AlN := (fun K => (He.obsD fa fn K, He5.obsA [] cf K, ex K && He.tabsB g tf K)) (He.frT g as)
theorem saysP_of {as : List Addr} {fa : List He.Fa} {fn : List He.DefD} {cf : List He5.DefA} {tf : List He.Defn} {ex : PySem.W.Frag → Bool} {h : Heap} (e : obsP as fa fn cf tf ex h.get? = (He.valD fn, He5.valA cf, true)) : SaysN fa fn cf tf ex h (He.frT h.get? as) := by
  have e2 : He5.obsA [] cf (He.frT h.get? as) = He5.valA cf := congrArg (fun z : AlN => z.2.1) e
  obtain ⟨m, t⟩ := He.ba (congrArg (fun z : AlN => z.2.2) e)
  refine ⟨congrArg Prod.fst e, e2, m, fun p hp => ?_⟩
  obtain ⟨t1, t2⟩ := He.ba (List.all_eq_true.mp t p hp)
  cases q : h.get? (He.cT (He.frT h.get? as) p).2 with
  | none => rw [q] at t2; cases t2
  | some o =>
    rw [q] at t2
    exact ⟨t1, He.frT_none q t2, by rw [He.emptyTab_eq t2]⟩
def hookP (as : List Addr) (fa : List He.Fa) (fn : List He.DefD) (cf : List He5.DefA) (tf : List He.Defn) (ex : PySem.W.Frag → Bool) : PySem.W.Hook where
  α := AlN
  obs := fun s => obsP as fa fn cf tf ex s.heap.get?
  val := fun _ => (He.valD fn, He5.valA cf, true)
  says := fun _ h => ∃ K : PySem.W.Frag, K.In h ∧ SaysN fa fn cf tf ex h K
  of := fun _ _ e => ⟨_, He.frT_in, saysP_of e⟩
  keeps := fun _ _ _ ⟨K, hK, c⟩ k => ⟨K, PySem.W.Frag.In.keeps hK k, c.d, c.cm, c.more, fun p hp => ⟨(c.tabs p hp).1, (c.tabs p hp).2.1, k _ _ (c.tabs p hp).2.2⟩⟩
theorem obsP_eq {as : List Addr} {fa : List He.Fa} {fn : List He.DefD} {cf : List He5.DefA} {tf : List He.Defn} {ex : PySem.W.Frag → Bool} {g : Addr → Option Obj} {s : Shared} (h : ∀ a, g a = s.heap.get? a) : obsP as fa fn cf tf ex g = (hookP as fa fn cf tf ex).obs s := by
  obtain rfl : g = s.heap.get? := funext h
  rfl
theorem obsP_join {as : List Addr} {fa : List He.Fa} {fn : List He.DefD} {cf : List He5.DefA} {tf : List He.Defn} {ex : PySem.W.Frag → Bool} {g : Addr → Option Obj} (m : Nat) (h1 : He.obsD fa (fn.take m) (He.frT g as) = He.valD (fn.take m)) (h2 : He.obsD [] (fn.drop m) (He.frT g as) = He.valD (fn.drop m))
    (h3 : (He5.obsA [] cf (He.frT g as), ex (He.frT g as) && He.tabsB g tf (He.frT g as)) = (He5.valA cf, true)) : obsP as fa fn cf tf ex g = (He.valD fn, He5.valA cf, true) := by
  have e : He.obsD fa fn (He.frT g as) = He.valD fn := by
    have t1 := congrArg Prod.fst h1
    have t2 := congrArg Prod.snd h1
    have t3 := congrArg Prod.fst h2
    have t4 := congrArg Prod.snd h2
    simp only [He.obsD, He.valD, List.all_nil, Bool.true_and, Bool.and_eq_true] at t1 t2 t3 t4
    unfold He.obsD He.valD
    have e1 : (fn.all fun d => d.ok (He.frT g as)) = true := by
      rw [← List.take_append_drop m fn, List.all_append, t1.2, t3]; rfl
    have e2 : (fn.map fun d => He.fnW (He.frT g as) d.at_) = fn.map He.DefD.val := by
      rw [← List.take_append_drop m fn, List.map_append, List.map_append, t2, t4]
    rw [e1, e2, t1.1]; rfl
  have e2 := congrArg Prod.fst h3
  have e3 := congrArg Prod.snd h3
  dsimp only at e2 e3
  unfold obsP
  dsimp only
  rw [e, e2, e3]
theorem mapP {α β γ δ ε : Type} {o : Option α} {f : α → β} {g : α → γ} {h : α → δ} {k : α → ε} {a : β} {b : γ} {c : δ} {e : ε} (h1 : o.map f = some a) (h2 : o.map g = some b) (h3 : o.map h = some c) (hk : ∀ s, f s = a → g s = b → h s = c → k s = e) : o.map k = some e := by
  cases o with
  | none => exact nomatch h1
  | some s => exact congrArg some (hk s (Option.some.inj h1) (Option.some.inj h2) (Option.some.inj h3))
end DL

end

section
set_option autoImplicit false
namespace DL
open PySem PySem.Spec L2
def dIns (i : Nat) (δk δv : DE) : DS := fun E ρ n => match ρ[i]? with
  | some (some (.own (.lst ds))) => δk (E.xx ρ) ρ n fun k n1 => δv (E.xx ρ) ρ n1 fun d n2 => (match k with
    | .int z => ds.length < 16777216 ∧ 0 ≤ z ∧ z < 2 ^ 63 ∧ E.nx (ρ.set i (some (.own (.lst (ds.take z.toNat ++ [d] ++ ds.drop z.toNat))))) n2
    | _ => False)
  | _ => False
def dSwap (i : Nat) (δj δk δ : DE) : DS := fun E ρ n => match ρ[i]? with
  | some (some (.own (.lst ds))) => δ (E.xx ρ) ρ n fun d n1 => (match d with
    | .tup [u, v] => δj (E.xx ρ) ρ n1 fun a n2 => (match a with
      | .int z => opt (ixN ds.length z) fun j => δk (E.xx (ρ.set i (some (.own (.lst (ds.set j u)))))) (ρ.set i (some (.own (.lst (ds.set j u))))) n2 fun b n3 => (match b with
        | .int z2 => opt (ixN ds.length z2) fun j2 => E.nx (ρ.set i (some (.own (.lst ((ds.set j u).set j2 v))))) n3
        | _ => False)
      | _ => False)
    | _ => False)
  | _ => False
section
variable {X : Cx} {W : WX} {e k k2 : Expr} {δ δk δj δv : DE} {pos pos' apos cpos p1 p2 a1 a2 pt : Pos} {x : Str}
end
end DL

end

section
set_option autoImplicit false
namespace DL
open PySem PySem.Spec L2
def isLL (ds : List D) : Prop := ∀ e ∈ ds, ∃ l, e = .lst l
def rowLike : D → Prop
  | .lst (x :: xs) => ∀ y ∈ x :: xs, ∃ kvs, y = .dct kvs ∧ (kvs.all fun q => flatD q.2) = true
  | _ => False
def delG (G : Hp) (a : Addr) : Hp := fun b => if b = a then none else G b
theorem delG_ne {G : Hp} {a b : Addr} (h : b ≠ a) : delG G a b = G b := if_neg h
theorem delG_same {G : Hp} {a : Addr} : delG G a a = none := if_pos rfl
section
variable {K : PySem.W.Frag} {G G' : Hp}
theorem Rep.flatG {d : D} {v : V} (h : flatD d = true) (r : Rep K G d v) : Rep K G' d v := by
  cases r with
  | non => exact .non
  | bl b => exact .bl b
  | int i => exact .int i
  | str x => exact .str x
  | _ => cases h
theorem RepK.flatG : ∀ {ks : List (Key × D)} {ws : List (Key × V)}, RepK K G ks ws → (ks.all fun q => flatD q.2) = true → RepK K G' ks ws
  | _, _, .nil, _ => .nil
  | _, _, .cons r t, h => by
    rw [List.all_cons, Bool.and_eq_true_iff] at h
    exact .cons (r.flatG h.1) (RepK.flatG t h.2)
end
theorem RelB.freezeL {B : Bs} {σ : St} {H : Hp} {ρ : Env} {n : Nat} {G : Hp} {α : Nat → Addr} (R : RelB B σ H ρ n G α) {i : Nat} {ds : List D} (h : ρ[i]? = some (some (.own (.lst ds)))) :
    ∃ vs, H (α i) = some (.lst vs) ∧ RepL B.K G ds vs ∧ RelB B σ H (ρ.set i (some (.val (.lst ds)))) n (upd G (α i) (.lst vs)) α := by
  obtain ⟨e1, hg, h0, nr, vs, hH, rl⟩ := R.own i _ h
  have il : i < ρ.length := (List.getElem?_eq_some_iff.mp h).1
  have l2 : Le G (upd G (α i) (.lst vs)) := .of_same fun b u q => by rw [upd_ne (ne_of_none q hg)]; exact q
  have l1 : Le (upd G (α i) (.lst vs)) H := fun b u q => by
    by_cases z : b = α i
    · subst z
      rw [upd_same] at q
      cases q
      exact ⟨_, hH, rfl⟩
    · rw [upd_ne z] at q
      exact R.le b u q
  refine ⟨vs, hH, rl, R.st.frozen h0 nr (fun _ _ => rfl) l1 l2, fun a q => ?_, R.J, by rw [List.length_set, R.len], fun j e hj => ?_, fun j e hj => ?_, fun j k e f hj hk => R.inj j k e f (set_val_own hj) (set_val_own hk), fun a e h h' => R.p0 a e h (set_val_own h'), R.gh.frz h (fun _ _ => rfl) (fun b ne => upd_ne ne) l2⟩
  · rw [upd_ne (fun z : a = α i => nr (z ▸ q))]
    exact R.rg a q
  · rw [List.getElem?_set] at hj
    by_cases z : i = j
    · subst z
      rw [if_pos rfl, if_pos il] at hj
      injection hj with hj; injection hj with hj; injection hj with hj
      subst hj
      exact ⟨_, e1, .lst upd_same (rl.mono l2)⟩
    · rw [if_neg z] at hj
      obtain ⟨v, h1, h2⟩ := R.val j e hj
      exact ⟨v, h1, h2.mono l2⟩
  · rw [List.getElem?_set] at hj
    by_cases z : i = j
    · subst z
      rw [if_pos rfl, if_pos il] at hj
      injection hj with hj; injection hj with hj; cases hj
    · rw [if_neg z] at hj
      obtain ⟨h1, h2, h3, h4, h5⟩ := R.own j e hj
      have ne : α j ≠ α i := fun q => z (R.inj i j _ e h hj q.symm)
      exact ⟨h1, by rw [upd_ne ne]; exact h2, h3, h4, h5.mono l2 fun _ q => q⟩
def dSetT (k i : Nat) (δ : DE) : DS := fun E ρ n => match ρ[i]? with
  | some (some (.own (.lst ds))) => isLL ds ∧ δ (x0 E.w) (ρ.set i (some (.val (.lst ds)))) n fun d n1 => rowLike d ∧ E.nx (ρ.set k (some (.val d))) n1
  | _ => False
section
variable {X : Cx} {W : WX} {e : Expr} {δ : DE} {pos pos' : Pos} {x : Str}
end
end DL

end

section
set_option autoImplicit false
namespace DL
open PySem PySem.Spec L2 PyProof.Rows
section
variable {X : Cx} {W : WX} {a : Addr} {oe : Obj} {cls : Value} {d : Option Addr} {pn : List (Addr × Obj)} {e : Expr} {δ : DE} {C f : Str} {pos : Pos}
end
abbrev Cl3 : Type := Value × Option Nat × (Addr → Value → Option Addr → TS)
def endA (D : Ends) : Option Nat → Ends
  | none => D
  | some i => { nx := fun τ Z => D.nx (τ.set i none) Z, rt := D.rt, bk := fun τ Z => D.bk (τ.set i none) Z, ct := fun τ Z => D.ct (τ.set i none) Z }
inductive ClsA (X : Cx) : List ExceptHandler → List Cl3 → Prop
  | nil : ClsA X [] []
  | plain {x : Str} {c : Value} {ts : Addr → Value → Option Addr → TS} {s0 : Stmt} {su : List Stmt} {p1 p2 : Pos} {hs : List ExceptHandler} {l : List Cl3} (hc : Names X x c)
      (hsu : ∀ (a : Addr) (ob : Obj) (cl : Value) (d : Option Addr) (pn : List (Addr × Obj)), Zc cl d ob → (∃ us, ob.data = .fields us) → PSs (X.suite a ((a, ob) :: pn)) (s0 :: su) (ts a cl d)) (r : ClsA X hs l) :
      ClsA X (.ExceptHandler (some (.Name x p1)) none (s0 :: su) p2 :: hs) ((c, none, ts) :: l)
  | named {x y : Str} {i : Nat} {c : Value} {ts : Addr → Value → Option Addr → TS} {s0 : Stmt} {su : List Stmt} {p1 p2 : Pos} {hs : List ExceptHandler} {l : List Cl3} (hN : X.N.Nodup) (hi : X.N[i]? = some y) (hy : X.env.kindOf y = some .local) (hc : Names X x c)
      (hsu : ∀ (a : Addr) (ob : Obj) (cl : Value) (d : Option Addr) (pn : List (Addr × Obj)), Zc cl d ob → (∃ us, ob.data = .fields us) → PSs (X.suite a ((a, ob) :: pn)) (s0 :: su) (ts a cl d)) (r : ClsA X hs l) :
      ClsA X (.ExceptHandler (some (.Name x p1)) (some y) (s0 :: su) p2 :: hs) ((c, some i, ts) :: l)
section
variable {X : Cx} {bd : List Stmt} {k0 : ExceptHandler} {ks : List ExceptHandler} {l : List Cl3} {pos : Pos} {tb : WX → TS} {Wo : WX}
end
end DL

end

section
set_option autoImplicit false
namespace DL
open PySem PySem.Spec L2
abbrev Cl4 : Type := Str × Option Nat × (Addr → Value → Option Addr → DS)
def noX (E : DEnds) : DEnds := { E with ex := fun _ _ _ => False }
def ends1 (E : DEnds) (i : Nat) : DEnds := { noX E with nx := fun ρ n => E.nx (ρ.set i none) n, bk := fun ρ n => E.bk (ρ.set i none) n, ct := fun ρ n => E.ct (ρ.set i none) n }
inductive ClsD (X : Cx) : List ExceptHandler → List Cl4 → Prop
  | nil : ClsD X [] []
  | plain {c : Str} {s : Addr → Value → Option Addr → DS} {s0 : Stmt} {su : List Stmt} {p1 p2 : Pos} {hs : List ExceptHandler} {l : List Cl4} (hc : Names X c (.ref (ca X.K c)))
      (hsu : ∀ (a : Addr) (oe : Obj) (cls : Value) (d : Option Addr) (pn : List (Addr × Obj)), Zc cls d oe → (∃ us, oe.data = .fields us) → PSsD (X.suite a ((a, oe) :: pn)) W0 (s0 :: su) (s a cls d)) (r : ClsD X hs l) :
      ClsD X (.ExceptHandler (some (.Name c p1)) none (s0 :: su) p2 :: hs) ((c, none, s) :: l)
  | named {c y : Str} {i : Nat} {s : Addr → Value → Option Addr → DS} {s0 : Stmt} {su : List Stmt} {p1 p2 : Pos} {hs : List ExceptHandler} {l : List Cl4} (hi : X.N[i]? = some y) (hy : X.env.kindOf y = some .local) (hc : Names X c (.ref (ca X.K c)))
      (hsu : ∀ (a : Addr) (oe : Obj) (cls : Value) (d : Option Addr) (pn : List (Addr × Obj)), Zc cls d oe → (∃ us, oe.data = .fields us) → PSsD (X.suite a ((a, oe) :: pn)) W0 (s0 :: su) (s a cls d)) (r : ClsD X hs l) :
      ClsD X (.ExceptHandler (some (.Name c p1)) (some y) (s0 :: su) p2 :: hs) ((c, some i, s) :: l)
theorem RelB.gone {B : Bs} {σ : L2.St} {H : Hp} {ρ : Env} {n : Nat} {G : Hp} {α : Nat → Addr} (R : RelB B σ H ρ n G α) (i : Nat) : RelB B (σ.set i none) H (ρ.set i none) n G α := R.wipe [i]
theorem Lk.one {B : Bs} {W : WX} {D : Ends} {E : DEnds} (L : Lk B W D E) (i : Nat) : Lk B W0 (endA D (some i)) (ends1 E i) :=
  ⟨fun _ _ _ _ _ _ R h => L.nx _ _ _ _ _ _ (R.gone i) h, L.rt, fun _ _ _ _ _ _ R h => L.bk _ _ _ _ _ _ (R.gone i) h, fun _ _ _ _ _ _ R h => L.ct _ _ _ _ _ _ (R.gone i) h, fun _ _ _ _ _ _ _ _ _ _ _ z => z, L.w, L.ro⟩
section
variable {X : Cx} {W : WX} {body : List Stmt} {k0 : ExceptHandler} {ks : List ExceptHandler} {pos : Pos} {b : DS} {XS : List Str} {sub : Str → Str → Bool} {l : List Cl4}
end
end DL

end

section
set_option autoImplicit false
namespace DL
open PySem PySem.Spec L2
def dPar4 (i j k l : Nat) (a b c d : DSl) : DS := fun E ρ n => a (E.xx ρ) ρ n fun u1 n1 => b (E.xx ρ) ρ n1 fun u2 n2 => c (E.xx ρ) ρ n2 fun u3 n3 => d (E.xx ρ) ρ n3 fun u4 n4 => E.nx ((((ρ.set i (some u1)).set j (some u2)).set k (some u3)).set l (some u4)) n4
section
variable {X : Cx} {W : WX} {a b c d : Expr} {δ1 δ2 δ3 δ4 : DSl} {pos : Pos} {x y z u : Str}
end
end DL

end

section
set_option autoImplicit false
namespace DL
open PySem PySem.Spec L2
def gTl (m : Nat) (a : DGs) : DG := fun d ρ q => match d with
  | .lst ds => ds.length = m ∧ a ds ρ q
  | _ => False
section
variable {X : Cx} {pos : Pos}
end
def dPar3 (i1 i2 i3 : Nat) (a1 a2 a3 : DSl) : DS := fun E ρ n => a1 (E.xx ρ) ρ n fun u1 n1 => a2 (E.xx ρ) ρ n1 fun u2 n2 => a3 (E.xx ρ) ρ n2 fun u3 n3 => E.nx (((ρ.set i1 (some u1)).set i2 (some u2)).set i3 (some u3)) n3
section
variable {X : Cx} {W : WX} {a1 a2 a3 : Expr} {δ1 δ2 δ3 : DSl} {pos : Pos} {x1 x2 x3 : Str}
end
def dPar5 (i1 i2 i3 i4 i5 : Nat) (a1 a2 a3 a4 a5 : DSl) : DS := fun E ρ n => a1 (E.xx ρ) ρ n fun u1 n1 => a2 (E.xx ρ) ρ n1 fun u2 n2 => a3 (E.xx ρ) ρ n2 fun u3 n3 => a4 (E.xx ρ) ρ n3 fun u4 n4 => a5 (E.xx ρ) ρ n4 fun u5 n5 => E.nx (((((ρ.set i1 (some u1)).set i2 (some u2)).set i3 (some u3)).set i4 (some u4)).set i5 (some u5)) n5
section
variable {X : Cx} {W : WX} {a1 a2 a3 a4 a5 : Expr} {δ1 δ2 δ3 δ4 δ5 : DSl} {pos : Pos} {x1 x2 x3 x4 x5 : Str}
end
end DL

end

section
set_option autoImplicit false
namespace DL
open PySem PySem.Spec PyProof.Rows L2
def sel {α : Type} (is : List Nat) (l : List α) : List α := is.flatMap fun i => (l.drop i).take 1
theorem sel_nil {α : Type} (l : List α) : sel [] l = [] := rfl
theorem sel_cons {α : Type} (i : Nat) (is : List Nat) (l : List α) : sel (i :: is) l = (l.drop i).take 1 ++ sel is l := rfl
def KBs (K : PySem.W.Frag) (fd : FuncData) (ps : List Str) (n : Nat) (ks : List Str) (is : List Nat) (dvs : List V) : Prop := ∃ its : List Value, KBn K fd ps n ks (fun us ws => sel is (us ++ (ws ++ its))) (fun vs zs => sel is (vs ++ (zs ++ dvs)))
section
variable {K : PySem.W.Frag} {x qual : Str} {params : Arguments} {body : List Stmt} {scope : Scope} {dvs : List V} {kws : List (Str × V)} {f : Addr} {fd : FuncData} {ps : List Str}
end
section
variable {X : Cx} {CX : CXT} {k n : Nat} {f C : Addr} {fd : FuncData} {ps ks : List Str} {sp : Sp} {E : L2.St → XK} {x m : Str} {p pos apos : Pos} {e o : Expr} {es : List Expr} {kws : List Keyword} {ta : TE} {t tk : TA} {is : List Nat} {dvs : List V}
end
section
variable {X : Cx} {CX : CXT} {k n : Nat} {C p g : Addr} {mc : Value} {sp : Sp} {fd : FuncData} {ps ks : List Str} {dvs : List V} {E : L2.St → XK} {o e : Expr} {es : List Expr} {m : Str} {pos apos : Pos} {ta : TE} {t tk : TA} {pl : Sem Bool} {kws : List Keyword} {is : List Nat}
end

structure SgK (P : Program) (w : World) (K : PySem.W.Frag) (mg : Str → Option Value) (base : Heap) (x : Str) (k m : Nat) (F : DF) (ks : List Str) (is : List Nat) (dvd : List D) : Prop where
  ex : ∃ (f : Addr) (fd : FuncData) (ps : List Str) (dvs : List V), FnOk P w K mg base (L2.CX P w) k f fd ps (spW K m F) ∧ mg x = some (.ref f) ∧ PySem.W.keepIn K (.ref f) = true ∧ KBs K fd ps 0 ks is dvs ∧ ∀ G, RepL K G dvd dvs
structure MgK (P : Program) (w : World) (K : PySem.W.Frag) (mg : Str → Option Value) (base : Heap) (c x : Str) (k m : Nat) (F : DF) (n : Nat) (ks : List Str) (is : List Nat) (dvd : List D) : Prop where
  cl : Cls K (ca K c)
  ex : ∃ (f : Addr) (fd : FuncData) (ps : List Str) (dvs : List V), FnOk P w K mg base (L2.CX P w) k f fd ps (spW K m F) ∧ Meth K (ca K c) x f ∧ KBs K fd ps n ks is dvs ∧ ∀ G, RepL K G dvd dvs
structure IgK (P : Program) (w : World) (K : PySem.W.Frag) (mg : Str → Option Value) (base : Heap) (c : Str) (k m : Nat) (F : DFI) (ks : List Str) (js : List Nat) (dvd : List D) : Prop where
  gl : mg c = some (.ref (ca K c))
  ex : ∃ (f : Addr) (fd : FuncData) (ps : List Str) (dvs : List V), FnOk P w K mg base (L2.CX P w) k f fd ps (spI K c m F) ∧ Mk K (ca K c) f ∧ KBs K fd ps 1 ks (0 :: js.map (· + 1)) dvs ∧ ∀ G, RepL K G dvd dvs
structure CgK (P : Program) (w : World) (K : PySem.W.Frag) (mg : Str → Option Value) (base : Heap) (c x : Str) (k m : Nat) (F : DF) (ks : List Str) (js : List Nat) (dvd : List D) : Prop where
  gl : mg c = some (.ref (ca K c))
  rd : ClX.CRead K (ca K c) (.type "type")
  ex : ∃ (p g : Addr) (fd : FuncData) (ps : List Str) (dvs : List V), FnOk P w K mg base (L2.CX P w) k g fd ps (spW K m (cF K c F)) ∧ ClX.CMet K (ca K c) (.type "type") x p g ∧ KBs K fd ps 1 ks (0 :: js.map (· + 1)) dvs ∧ ∀ G, RepL K G dvd dvs
def dCallK (m : Nat) (F : DF) (l : Nat) (is : List Nat) (dvd : List D) (a : DA) : DE := fun x ρ n q => a x ρ n fun es n1 => es.length = l ∧ (sel is (es ++ dvd)).length = m ∧ F x.w (sel is (es ++ dvd)) n1 q x.ex
def dMethK0 (c y : Str) (m : Nat) (F : DF) (l : Nat) (is : List Nat) (dvd : List D) (δ : DE) (a : DA) : DE := fun x ρ n q => δ x ρ n fun d n1 => match d with
  | .obj c' fs => c' = c ∧ fs.lookup y = none ∧ a x ρ n1 fun es n2 => es.length = l ∧ (sel is (.obj c' fs :: (es ++ dvd))).length = m ∧ F x.w (sel is (.obj c' fs :: (es ++ dvd))) n2 q x.ex
  | _ => False
def dMethK (c y : Str) (m : Nat) (F : DF) (np l : Nat) (is : List Nat) (dvd : List D) (δ : DE) (b a : DA) : DE := fun x ρ n q => δ x ρ n fun d n1 => match d with
  | .obj c' fs => c' = c ∧ fs.lookup y = none ∧ b x ρ n1 fun us n2 => a x ρ n2 fun es n3 => us.length + 1 = np ∧ es.length = l ∧ (sel is (.obj c' fs :: us ++ (es ++ dvd))).length = m ∧ F x.w (sel is (.obj c' fs :: us ++ (es ++ dvd))) n3 q x.ex
  | _ => False
def dMakeK (c : Str) (m : Nat) (F : DFI) (l : Nat) (js : List Nat) (dvd : List D) (a : DA) : DE := fun x ρ n q => a x ρ n fun es n1 => es.length = l ∧ (sel js (es ++ dvd)).length + 1 = m ∧ F x.w (sel js (es ++ dvd)) n1 (fun fs n2 => q (.obj c fs) n2) x.ex
def dCMethK (m : Nat) (F : DF) (l : Nat) (js : List Nat) (dvd : List D) (a : DA) : DE := fun x ρ n q => a x ρ n fun es n1 => es.length = l ∧ (sel js (es ++ dvd)).length + 1 = m ∧ F x.w (sel js (es ++ dvd)) n1 q x.ex
section
variable {X : Cx} {W : WX} {k m : Nat} {F : DF} {FI : DFI} {dvd : List D} {x c y nm : Str} {p pos apos kpos : Pos} {e o : Expr} {es : List Expr} {a b : DA} {δ : DE} {kws : List Keyword} {ks : List Str} {is js : List Nat}
end
end DL

end

section
set_option autoImplicit false
namespace DL
open PySem PySem.Spec PyProof.Rows L2
def fInX (neg : Bool) : F2 := fun x y k => match y with
  | .lst ds => SeqAt.shaped (pyD x) = true ∧ SeqAt.shaped (pyD (.lst ds)) = true ∧ k (.bl (if neg then !ds.any (fun z => PyData.eqv (pyD z) (pyD x)) else ds.any fun z => PyData.eqv (pyD z) (pyD x)))
  | _ => False
section
variable {K : PySem.W.Frag}
end
section
variable {X : Cx} {W : WX} {a b : Expr} {δa δb : DE} {pos : Pos}
end
end DL

end

section
set_option autoImplicit false
namespace DL
open PySem PySem.Spec L2
mutual
def nrD : D → Bool
  | .lst ds => nrL ds
  | .tup ds => nrL ds
  | .dct ks => nrK ks
  | .obj _ fs => nrF fs
  | .exc _ _ _ fs => nrF fs
  | .rol _ => false
  | _ => true
def nrL : List D → Bool
  | [] => true
  | d :: ds => nrD d && nrL ds
def nrK : List (Key × D) → Bool
  | [] => true
  | (_, d) :: ds => nrD d && nrK ds
def nrF : List (Str × D) → Bool
  | [] => true
  | (_, d) :: ds => nrD d && nrF ds
end
section
variable {K : PySem.W.Frag} {G : Hp} {a : Addr} {o : Obj} {xs : List V}
theorem SqT.off {b : Addr} {vs : List V} (hm : G a = some (.frz o (.lst xs))) (e : SqT K G b vs) : SqT K (delG G a) b vs := by
  rcases e with (e | ⟨x, e⟩) | e
  · exact .inl (.inl ((delG_ne fun z => by rw [z, hm] at e; cases e).trans e))
  · exact .inl (.inr ⟨x, (delG_ne fun z => by rw [z, hm] at e; cases e).trans e⟩)
  · exact .inr e
mutual
theorem Rep.nr (hm : G a = some (.frz o (.lst xs))) : ∀ {d : D} {v : V}, nrD d = true → Rep K G d v → Rep K (delG G a) d v
  | _, _, _, .non => .non
  | _, _, _, .bl b => .bl b
  | _, _, _, .int i => .int i
  | _, _, _, .str x => .str x
  | _, _, h, .lst e r => .lst ((delG_ne fun z => by rw [z, hm] at e; cases e).trans e) (RepL.nr hm (by simpa [nrD] using h) r)
  | _, _, h, .tup e r => .tup (SqT.off hm e) (RepL.nr hm (by simpa [nrD] using h) r)
  | _, _, h, .dct e r => .dct ((delG_ne fun z => by rw [z, hm] at e; cases e).trans e) (RepK.nr hm (by simpa [nrD] using h) r)
  | _, _, h, .obj e r => .obj ((delG_ne fun z => by rw [z, hm] at e; cases e).trans e) (RepF.nr hm (by simpa [nrD] using h) r)
  | _, _, _, .hnd a => .hnd a
  | _, _, h, .exc e r => .exc ((delG_ne fun z => by rw [z, hm] at e; cases e).trans e) (RepF.nr hm (by simpa [nrD] using h) r)
  | _, _, h, .rol _ _ => by simp [nrD] at h
theorem RepL.nr (hm : G a = some (.frz o (.lst xs))) : ∀ {d : List D} {v : List V}, nrL d = true → RepL K G d v → RepL K (delG G a) d v
  | _, _, _, .nil => .nil
  | _, _, h, .cons r t => by
    rw [nrL, Bool.and_eq_true_iff] at h
    exact .cons (Rep.nr hm h.1 r) (RepL.nr hm h.2 t)
theorem RepK.nr (hm : G a = some (.frz o (.lst xs))) : ∀ {d : List (Key × D)} {v : List (Key × V)}, nrK d = true → RepK K G d v → RepK K (delG G a) d v
  | _, _, _, .nil => .nil
  | _, _, h, .cons r t => by
    rw [nrK, Bool.and_eq_true_iff] at h
    exact .cons (Rep.nr hm h.1 r) (RepK.nr hm h.2 t)
theorem RepF.nr (hm : G a = some (.frz o (.lst xs))) : ∀ {d : List (Str × D)} {v : List (Str × V)}, nrF d = true → RepF K G d v → RepF K (delG G a) d v
  | _, _, _, .nil => .nil
  | _, _, h, .cons r t => by
    rw [nrF, Bool.and_eq_true_iff] at h
    exact .cons (Rep.nr hm h.1 r) (RepF.nr hm h.2 t)
end
end
def dSetR (k i : Nat) (δ : DE) : DS := fun E ρ n => match ρ[i]? with
  | some (some (.own (.lst ds))) => δ (x0 E.w) (ρ.set i (some (.val (.rol ds)))) n fun d n1 => nrD d = true ∧ E.nx (ρ.set k (some (.val d))) n1
  | _ => False
section
variable {X : Cx} {W : WX} {e : Expr} {δ : DE} {pos pos' : Pos} {x : Str}
end
section
variable {X : Cx} {W : WX} {k m : Nat} {F : DF} {dvd : List D} {c y : Str} {pos apos : Pos} {e o : Expr} {es : List Expr} {a : DA} {δ : DE}
end
end DL

end

section
set_option autoImplicit false
namespace DL
open PySem PySem.Spec PyProof PyProof.Rows L2
def dAugIx (i : Nat) (f : Int → Int → Int) (δk δv : DE) : DS := fun E ρ n => match ρ[i]? with
  | some (some (.own (.lst ds))) => δk (E.xx ρ) ρ n fun k n1 => (match k with
    | .int z => opt (ixN ds.length z) fun j => 0 ≤ z ∧ z < 2 ^ 62 ∧ δv (E.xx ρ) ρ n1 fun v n2 => (match ds[j]?, v with
      | some (.int a), .int b => E.nx (ρ.set i (some (.own (.lst (ds.set j (.int (f a b))))))) n2
      | _, _ => False)
    | _ => False)
  | _ => False
section
variable {X : Cx} {W : WX} {e k : Expr} {δ δk δv : DE} {pos pos' apos cpos : Pos} {x : Str}
end
end DL

end

section
set_option autoImplicit false
namespace DL
open PySem PySem.Spec PyProof PyProof.Rows L2
def fIsB (neg : Bool) : F2 := fun x y k => match x, y with
  | .bl a, .bl b => k (.bl (decide (a = b) != neg))
  | _, _ => False
section
variable {K : PySem.W.Frag}
end
section
variable {X : Cx} {W : WX} {a b : Expr} {δa δb : DE} {pos : Pos}
end
section
variable {X : Cx} {W : WX} {k : Nat} {f C : Addr} {fd : FuncData} {ps : List Str} {sp : Sp} {E : L2.St → XK} {a b e : Expr} {es : List Expr} {ta tb : TE} {t : TA} {x : Str} {p pos : Pos} {c : Str} {F : DF} {δa δb : DE} {α' : DA} {CS : List Str}
end
end DL

end

section
set_option autoImplicit false
namespace DL
open PySem PySem.Spec PyProof PyProof.Rows L2
section
variable {X : Cx} {W : WX} {a1 a2 a3 : Expr} {δ1 δ2 δ3 : DSl} {pos : Pos} {x1 x2 x3 : Str}
end
end DL

end

section
set_option autoImplicit false
namespace DL
open PySem PySem.Spec PyProof PyProof.Rows L2
def ItT (t it : Addr) : HO := .ext fun h => h.IsTupleIter it t 0
theorem itT_ok {P : Program} {w : World} {H : Hp} {h : Heap} {t it : Addr} (e : h.IsTupleIter it t 0) : ObjOk P w H h it (ItT t it) := by
  obtain ⟨o, ho, hc, hd⟩ := id e
  exact ⟨e, ⟨_, ho⟩, fun h1 h2 q k => q.at fun o e => k o e⟩
def rIterT (K : PySem.W.Frag) (n : Nat) : List V → Hp → VK → Prop := fun xs H Q => ∃ (t : Addr) (zs : List V), xs = [.ref t] ∧ SqT K H t zs ∧ ∀ it, H it = none → n ≤ it → Q (.ref it) (upd H it (ItT t it))
section
variable {X : Cx}
theorem call_iterT : CallR X (.builtin "iter") (rIterT X.K X.s_0.heap.objs.size) := by
  intro pins s σ H xs us Q I r h
  obtain ⟨t, zs, rfl, hz, q⟩ := h
  obtain ⟨u, rfl, ru⟩ := r.one
  cases ru
  obtain ⟨its, rv, p, _⟩ := I.tuple hz
  refine Calls.call_function_entry (by decide +kernel) (by decide +kernel) PySem.W.kdk_entry_iter (PySem.W.kdk_args_iter _) ?_
  unfold Builtin.«iter»
  refine wpAny_bind (m := someArgs "iter" 1 2 _) (wpAny_of_eq (a := [Value.ref t]) (by first | rfl | kernel_rfl!) ?_)
  show wpAny _ _ (pyIter (.ref t) >>= fun _ => _) _ _ _
  refine wpAny_bind (wpAny_pyIter_tuple (show s.heap.IsTuple t its.toArray from p) ?_)
  have st : ({ s with heap := s.heap.push { cls := .type "tuple_iterator", data := .fields #[.ref t, .int 0 0] } } : Shared).heap.IsTupleIter s.heap.objs.size t 0 := ⟨_, Heap.get?_push_size _ rfl, rfl, rfl⟩
  exact wpAny_pure ⟨_, rfl, .ref s.heap.objs.size, _, I.laid (t' := s.toks) (fun b u e => Heap.get?_push_of_some _ e) (Nat.le_refl _) (itT_ok st), rfl, q _ (I.hok.fresh (Nat.le_refl _)) I.sz⟩
end
def SqO (K : PySem.W.Frag) (H : Hp) (t : Addr) (o : Addr → HO) : Prop := (∃ zs, SqT K H t zs ∧ o = fun it => ItT t it) ∨ ∃ zs, SqL K H t zs ∧ o = fun it => ItO t it 0
def rIterS (K : PySem.W.Frag) (n : Nat) : List V → Hp → VK → Prop := fun xs H Q => ∃ (t : Addr) (o : Addr → HO), xs = [.ref t] ∧ SqO K H t o ∧ ∀ it, H it = none → n ≤ it → Q (.ref it) (upd H it (o it))
theorem call_iterS {X : Cx} : CallR X (.builtin "iter") (rIterS X.K X.s_0.heap.objs.size) := by
  intro pins s σ H xs us Q I r h
  obtain ⟨t, o, ex, hz, q⟩ := h
  rcases hz with ⟨zs, hz, e⟩ | ⟨zs, hz, e⟩
  · subst e
    exact call_iterT pins s σ H xs us Q I r ⟨t, zs, ex, hz, q⟩
  · subst e
    exact ItX.call_iterN pins s σ H xs us Q I r ⟨t, zs, ex, hz, q⟩
theorem entry_of {CY : CXT} {P : Program} {w : World} {K : PySem.W.Frag} {mg : Str → Option Value} {base : Heap} {N ps : List Str} {j : Nat} {x qual : Str} {params : Arguments} {body : List Stmt} {scope : Scope} {f : Addr} {fd : FuncData} {dvs : List V} {kws : List (Str × V)}
    {A : Around} {outer : List PySem.Env} {s : Shared} {H : Hp} {args : Args} {us : List Value} {vs : List V} {Q : VK} {E : XK} (FD : FunD K x qual params body scope dvs kws f fd) (S : FnScope N ps scope) (hr : Room (j + 1) A) (e0 : Env0 P w K mg base A outer s H) (hb : BindsTo s fd args (ps.zip us)) (rv : Vals vs us) (hl : vs.length = ps.length)
    (hbody : ∀ cv : Value, Room j (A.deeper (envOfC qual scope s.heap.objs.size f cv)) → ∃ t, PSs (cxOf CY P w K mg base N qual scope f cv A outer s H E) body t ∧ t { nx := fun _ H1 => Q .non H1, rt := Q } (L2.start N vs) H) :
    codeAny (model P w) A (.call (.ref f) args) (CR CY outer P w H s Q E) s := by
  obtain ⟨o1, o2, d1, k1, dc, p1, a1, cv, ct, sl, e1, lk, hcd, _, _⟩ := FD.ex
  subst e1
  have kin : K.In s.heap := e0.mod.kin.keeps fun b o z => (e0.bs b o z).1
  have nol : s.heap.NoLimit := e0.mod.nolimit.keeps fun b o z => (e0.bs b o z).1
  have knd : ∀ y ∈ ps.zip us, scope.names.lookup y.1 = some .local ∨ (scope.names.lookup y.1 = some .cell ∧ ((cellsFrom (s.heap.objs.size + 1) scope.names []).lookup y.1).isSome = true) := by
    rintro ⟨m, u⟩ hy
    rcases S.par m (List.of_mem_zip hy).1 with z | z
    · exact .inl z
    · exact .inr ⟨z, PySem.W.cellsFrom_some _ _ _ (.inl z)⟩
  refine codeAny_call_function hr.depth (kin _ _ lk) rfl S.co S.gen rfl (PySem.W.codeRec_of kin hcd) (hb _ _ _ _ ?_)
  refine wpAny_newFunctionEnv_cells S.kind knd fun en en1 s1 y => ?_
  subst en1
  refine ⟨nol.keeps y.toInCall.keep, codeAny_func ?_⟩
  obtain ⟨t, ht, hq⟩ := hbody cv (hr.deeper _)
  have I := inv_start (CX := CY) (E := E) S hr.hd e0 hl rv y
  refine wpAny_mono (ht.run [] s1 (L2.start N vs) H _ I hq) (fun fl s2 hs => ?_) fun _ _ z => z
  cases fl with
  | ret u =>
    obtain ⟨v, _, H1, J, r1, q⟩ := hs
    exact ⟨v, H1, J.os, J.bare, J.base, J.hok, r1, q⟩
  | next =>
    obtain ⟨_, H1, J, q⟩ := hs
    exact ⟨V.non, H1, J.os, J.bare, J.base, J.hok, rfl, q⟩
  | brk =>
    obtain ⟨_, _, _, z⟩ := hs
    exact False.elim z
  | cont =>
    obtain ⟨_, _, _, z⟩ := hs
    exact False.elim z
structure FnIt (P : Program) (w : World) (K : PySem.W.Frag) (mg : Str → Option Value) (base : Heap) (k : Nat) (C f : Addr) (fd : FuncData) (p : Str) (fld : Str) : Prop where
  run : ∀ (A : Around) (outer : List PySem.Env) (s : Shared) (H : Hp) (args : Args) (a t dx : Addr) (fs : List (Str × V)) (o : Addr → HO), Room k A → Env0 P w K mg base A outer s H → BindsTo s fd args ([p].zip [Value.ref a]) → H a = some (.ins C dx fs) → fs.lookup fld = some (.ref t) → SqO K H t o →
    codeAny (model P w) A (.call (.ref f) args) (CR (L2.CX P w) outer P w H s (fun v H1 => ∃ it, v = .ref it ∧ s.heap.objs.size ≤ it ∧ H1 = upd H it (o it)) fun _ _ _ => False) s
theorem fnIt_of {P : Program} {w : World} {K : PySem.W.Frag} {mg : Str → Option Value} {base : Heap} {N : List Str} {x qual p fld : Str} {params : Arguments} {scope : Scope} {f C : Addr} {fd : FuncData} {dvs : List V} {kws : List (Str × V)} {p1 p2 p3 p4 p5 : Pos}
    (FD : FunD K x qual params [.Return (some (.Call (.Name "iter" p1) [.Attribute (.Name p p2) fld p3] [] p4)) p5] scope dvs kws f fd) (S : FnScope N [p] scope) (hC : Cls K C) (hA : NoAttr K C fld) (h0 : N[0]? = some p) (hg : ∀ (n : Addr) (cv : Value), (envOfC qual scope n f cv).kindOf (Str.ofString "iter") = some .globalImplicit) (hm : mg "iter" = none) (hv : scope.names.lookup p = some .local)
    (hd : (p == ("__debug__" : Str)) = false) (hcd : (p == ("__classdict__" : Str)) = false) : FnIt P w K mg base 1 C f fd p fld := by
  refine ⟨fun A outer s H args a t dx fs o hr e0 hb ha hf hz => ?_⟩
  refine entry_of (vs := [V.ref a]) FD S hr e0 hb (.cons rfl .nil) rfl fun cv _ => ?_
  refine ⟨_, pss_one (ps_ret (pe_callB call_iterS (hg _ _) hm (by rfl) (pa_cons (pe_fld (pe_var (i := 0) h0 (.inl hv) hd hcd) rfl) pa_nil))), ?_⟩
  exact ⟨V.ref a, rfl, a, C, dx, fs, .ref t, rfl, ha, hC, hA, hf, t, o, rfl, hz, fun it _ hl => ⟨it, rfl, hl, rfl⟩⟩
def iIter (K : PySem.W.Frag) (C : Addr) (fld : Str) (t : TE) : TI := fun σ H R => t σ H fun x H1 => ∃ a dx fs u, x = .ref a ∧ H1 a = some (.ins C dx fs) ∧ fs.lookup fld = some (.ref u) ∧ ((∃ zs, SqT K H1 u zs) ∧ R (Itt K u) H1 ∨ (∃ zs, SqL K H1 u zs) ∧ R (Itl K u) H1)
section
variable {X : Cx} {tg e : Expr} {t : TE} {k : Nat} {C f : Addr} {fd : FuncData} {p fld : Str}
theorem it_val (hm : Meth X.K C "__iter__" f) (F : FnIt X.prog X.w X.K X.mg X.base k C f fd p fld) (hr : Room k X.A) (hb : Binds X.K fd [p] []) {pins : List (Addr × Obj)} {σ : L2.St} {H1 : Hp} {s1 : Shared} {R : It → Hp → Prop} {a dx u : Addr} {fs : List (Str × V)} (I1 : Inv X pins σ H1 s1) (ea : H1 a = some (.ins C dx fs)) (ek : fs.lookup fld = some (.ref u))
    (hz : (∃ zs, SqT X.K H1 u zs) ∧ R (Itt X.K u) H1 ∨ (∃ zs, SqL X.K H1 u zs) ∧ R (Itl X.K u) H1) : wpAny (model X.prog X.w) X.A (pyIter (.ref a)) (PIE X pins σ tg R) X.xe s1 := by
  obtain ⟨mA, J, _⟩ := ins_get I1.hok ea
  obtain ⟨od, J, _⟩ := J.look
  obtain ⟨m, hF⟩ := I1.fr
  refine PySem.W.owit_iter hF I1.ok.mod.kin J hm.at_ hm.fn ?_
  have run : ∀ o : Addr → HO, SqO X.K H1 u o → (∀ it s2, Inv X pins σ (upd H1 it (o it)) s2 → H1 it = none → X.s_0.heap.objs.size ≤ it → PySem.W.OwitIt (model X.prog X.w) X.A (PIE X pins σ tg R) X.xe (.ref it) s2) → wpAny (model X.prog X.w) X.A (call (.ref f) [.ref a]) (PySem.W.OwitIt (model X.prog X.w) X.A (PIE X pins σ tg R) X.xe) X.xe s1 := fun o ho k2 => by
    refine wpAny_call (codeAny_mono (F.run X.A X.stack s1 H1 ⟨[.ref a], []⟩ a u dx fs o hr I1.env0 (by
      have := hb s1 [.ref a] I1.kIn rfl
      simpa using this) ea ek ho) fun r s2 hq => ?_)
    cases r with
    | error e =>
      obtain ⟨_, _, _, _, _, _, _, _, _, _, _, _, hE⟩ := hq
      exact False.elim hE
    | ok fl =>
      cases fl with
      | next => exact False.elim hq
      | brk => exact False.elim hq
      | cont => exact False.elim hq
      | ret y =>
        obtain ⟨v', H', I2, rv, it, ev, hsz, eH⟩ := I1.after hq
        subst ev
        subst eH
        obtain rfl : y = Value.ref it := rv
        exact k2 it s2 I2 (I1.hok.fresh hsz) (Nat.le_trans I1.sz hsz)
  rcases hz with ⟨⟨zs, hz⟩, hR⟩ | ⟨⟨zs, hz⟩, hR⟩
  · refine run _ (.inl ⟨zs, hz, rfl⟩) fun it s2 I2 fr sz => ?_
    have st : s2.heap.IsTupleIter it u 0 := (I2.hok it _ upd_same).1
    have d := ItX.inv_drop I2 (show _ = some (.ext _) from upd_same)
    have q := ItX.inv_fp I2 upd_same sz
    rw [ItX.dropH_upd fr] at d q
    unfold PySem.W.OwitIt
    refine wpAny_specialOf (T := "tuple_iterator") st.typeIs slot_tupleiter_next.lookup ?_
    exact ⟨it, [it], _, _, H1, rfl, d, turn_tuple u it, st, fun b hb => by
      rw [List.mem_singleton.mp hb]; exact q, hR⟩
  · refine run _ (.inr ⟨zs, hz, rfl⟩) fun it s2 I2 fr sz => ?_
    have st : s2.heap.IsListIter it u 0 := ⟨_, itO_get I2 upd_same, rfl, rfl⟩
    have d := ItX.inv_drop I2 (show _ = some (.ext _) from upd_same)
    have q := ItX.inv_fp I2 upd_same sz
    rw [ItX.dropH_upd fr] at d q
    unfold PySem.W.OwitIt
    refine wpAny_specialOf (T := "list_iterator") st.typeIs slot_listiter_next.lookup ?_
    exact ⟨it, [it], _, _, H1, rfl, d, turn_list u it, st, fun b hb => by
      rw [List.mem_singleton.mp hb]; exact q, hR⟩
theorem pi_iter (he : PE X e t) (hm : Meth X.K C "__iter__" f) (F : FnIt X.prog X.w X.K X.mg X.base k C f fd p fld) (hr : Room k X.A) (hb : Binds X.K fd [p] []) : PI X tg e (iIter X.K C fld t) := by
  refine ⟨fun pins s σ H R I h => ?_⟩
  refine thn (he.run pins s σ H _ I h) fun v s1 ⟨x, H1, I1, r1, a, dx, fs, u, ex, ea, ek, hz⟩ => ?_
  subst ex
  obtain rfl : v = Value.ref a := r1
  exact it_val hm F hr hb I1 ea ek hz
def iIterO (c fld : Str) (δ : DE) : DI := fun x ρ n q => δ x ρ n fun d n1 => match d with
  | .obj c' fs => c' = c ∧ (match fs.lookup fld with
    | some (.tup ds) => q ds n1
    | some (.lst ds) => q ds n1
    | _ => False)
  | _ => False
structure MgIt (P : Program) (w : World) (K : PySem.W.Frag) (mg : Str → Option Value) (base : Heap) (c fld : Str) (k : Nat) : Prop where
  ex : ∃ (f : Addr) (fd : FuncData) (p : Str), FnIt P w K mg base k (ca K c) f fd p fld ∧ Meth K (ca K c) "__iter__" f ∧ Binds K fd [p] []
variable {W : WX} {δ : DE} {c : Str}
theorem pid_iterO (S : MgIt X.prog X.w X.K X.mg X.base c fld k) (hr : Room k X.A) (h : PD X W e δ) : PID X W tg e (iIterO c fld δ) := by
  obtain ⟨f, fd, p, F, hm, hb⟩ := S.ex
  obtain ⟨t, pe, h⟩ := h
  refine ⟨_, pi_iter pe hm F hr hb, fun B σ H ρ n G α R x q hK RB hx hd k => ?_⟩
  refine h B σ H ρ n G α _ x _ hK RB hx hd fun v H1 G1 d n1 s1 j1 r1 h1 => ?_
  cases d with
  | obj c' fs =>
    obtain ⟨rfl, h1⟩ := h1
    cases r1 with
    | obj e r =>
      cases el : fs.lookup fld with
      | none => rw [el] at h1; exact h1.elim
      | some d =>
        rw [el] at h1
        obtain ⟨u, l, rr⟩ := r.lookup el
        cases d with
        | tup ds =>
          cases rr with
          | tup e2 r2 => exact ⟨_, _, _, _, rfl, s1.hh.get e, l, .inl ⟨⟨_, s1.hh.sqT e2⟩, k _ H1 G1 ds n1 s1 j1 (walkD_tup e2 r2) h1⟩⟩
        | lst ds =>
          cases rr with
          | lst e2 r2 => exact ⟨_, _, _, _, rfl, s1.hh.get e, l, .inr ⟨⟨_, SqL.of (s1.hh.get e2)⟩, k _ H1 G1 ds n1 s1 j1 (walkD_list e2 r2) h1⟩⟩
        | _ => exact h1.elim
  | _ => exact h1.elim
def iMixO (cs : List (Str × Str)) (δ : DE) : DI := fun x ρ n q => δ x ρ n fun d n1 => match d with
  | .obj c fs => ∃ f, (c, f) ∈ cs ∧ (match fs.lookup f with
    | some (.tup ds) => q ds n1
    | some (.lst ds) => q ds n1
    | _ => False)
  | .lst ds => q ds n1
  | .tup ds => q ds n1
  | .rol ds => q ds n1
  | _ => False
end
end DL

end

section
set_option autoImplicit false
namespace DL
open PySem PySem.Spec PyProof PyProof.Rows L2
def dPut2 (i : Nat) (key : Str) (δl δe δk : DE) (r : DS) : DS := fun E ρ n => match ρ[i]? with
  | some (some (.own (.dct kvs))) => δl (E.xx ρ) ρ n fun l n1 => (match l with
    | .lst ds => kvs.length < 16777216 ∧ δe (E.xx (ρ.set i none)) (ρ.set i none) n1 fun d n2 => δk (E.xx (ρ.set i none)) (ρ.set i none) n2 fun k n3 => (match k with
      | .int z => opt (ixN ds.length z) fun j => r E (ρ.set i (some (.own (.dct (putD kvs (.inr key) (.lst (ds.set j d))))))) n3
      | _ => False)
    | _ => False)
  | _ => False
section
variable {X : Cx} {W : WX} {e k el : Expr} {δl δe δk : DE} {δr : DS} {x key : Str} {p1 p2 p3 p4 p5 pc pd pos pos2 : Pos} {rest : List Stmt}
theorem pf_dictP {α' : DA} {p pos : Pos} {e : Expr} (hc : X.calm = true) (hg : Gl X "dict") (hm : X.mg "dict" = none) (ha : PAD X W [e] α') (hst : starEach [e] X.env = (false, eval e X.env) :: starEach [] X.env := by rfl) (hpl : (backTo pos (starEach [] X.env)).any (·.1) = false := by rfl) :
    PF X W (.Call (.Name "dict" p) [e] [] pos) (dCB fDict α') := by
  obtain ⟨t, pa, ea⟩ := ha
  refine ⟨_, pe_callTy (call_dictP hc) hg hm (by decide +kernel) pa (by decide) (by decide) hst hpl, fun B σ H ρ n G α Q x q hK R hx hd k => ?_⟩
  refine ea B σ H ρ n G α _ x _ hK R hx hd fun vs H1 G1 ds n1 s1 j1 r hf => ?_
  unfold fDict f1 at hf
  split at hf
  · rename_i d
    obtain ⟨v, rfl, r0⟩ : ∃ v, vs = [v] ∧ Rep X.K G1 d v := by
      cases r with
      | cons r0 rn => cases rn; exact ⟨_, rfl, r0⟩
    cases d with
    | lst es =>
      obtain ⟨kvs, ek, hf⟩ := opt_some hf
      obtain ⟨a, us, e1, h1, rl⟩ : ∃ a us, v = .ref a ∧ H1 a = some (.lst us) ∧ RepL X.K G1 es us := by
        cases r0 with
        | lst e1 rl => exact ⟨_, _, rfl, s1.hh.get e1, rl⟩
      obtain ⟨ps, ws, e2, e3, e4⟩ := pairs_rep rl ek
      subst e1
      subst e2
      refine ⟨a, ps, ws, rfl, SqL.of h1, paired_mono (fun _ _ h => s1.hh.sqT h) e3, fun l np => ?_⟩
      have s := StepP.laid (o := .dK (mergeK [] ws)) s1.hh np
      have nr : ¬ B.W.rg l := fun z => B.W.there n1 H1 l j1 z np
      have h0 : H l = none := by
        cases q : H l with
        | none => rfl
        | some o => rw [s1.fr l o q nr] at np; cases np
      have g0 : G1 l = none := by
        cases q : G1 l with
        | none => rfl
        | some o =>
          obtain ⟨o', q', _⟩ := s1.hh l o q
          rw [np] at q'; cases q'
      exact k l _ _ (.dct (mergeD [] kvs)) n1 (s1.trans (s.step j1)) (s.J j1) h0 g0 nr ⟨mergeK [] ws, upd_same, e4.merge .nil⟩ hf
    | _ => exact hf.elim
  · exact hf.elim
end
end DL

end

section
set_option autoImplicit false
namespace DL
open PySem PySem.Spec PyProof PyProof.Rows L2 LamX
theorem Takes.len {X : Cx} {W : WX} (t : Takes X W) : Takes X (fun c d σ H => σ.length = X.N.length → W c d σ H) := fun u s' ⟨a, B, sI, pins, σ, H, cls, d, e, I, nb, up, sky, na, os, ag, w⟩ =>
  t u s' ⟨a, B, sI, pins, σ, H, cls, d, e, I, nb, up, sky, na, os, ag, w I.len⟩
inductive HdsA (z : Str) : List ExceptHandler → List (Str × V) → Prop
  | nil : HdsA z [] []
  | cons {c : Str} {e : Expr} {v : V} {np p5 p6 p7 : Pos} {hds : List ExceptHandler} {l : List (Str × V)} (he : ∀ Y : Cx, PE Y e (tC v)) (hs : ∀ Y : Cx, swapsWith e (some (.Name z p5)) p6.line Y.env = pure false) (r : HdsA z hds l) : HdsA z (.ExceptHandler (some (.Name c np)) none [.Assign [.Name z p5] e p6] p7 :: hds) ((c, v) :: l)
theorem HdsA.ok {X : Cx} {z : Str} {i : Nat} {hds : List ExceptHandler} {l : List (Str × V)} (h : HdsA z hds l) (hN : X.N.Nodup) (hi : X.N[i]? = some z) (hx : X.env.scope.names.lookup z = some .local) (hn : ∀ q ∈ l, Names X q.1 (.ref (ca X.K q.1))) : HdsOk X hds (l.map fun q => (.ref (ca X.K q.1), fun _ _ _ => tAsg (tC q.2) (gName i))) := by
  induction h with
  | nil => exact .nil
  | cons he hs r ih => exact .cons (hn _ List.mem_cons_self) (fun a oe cls d pn _ _ => pss_one (ps_set hN hi (.inl hx) (he _) (hs _) (.inr hx))) (ih fun q hq => hn q (List.mem_cons_of_mem _ hq))
theorem CatchV.imp {K : PySem.W.Frag} {cls : Value} {k k' : V → Prop} (h : ∀ v, k v → k' v) : ∀ {l : List (Str × V)}, CatchV K cls l k → CatchV K cls l k'
  | [], z => z.elim
  | (c, v) :: l, ⟨b, e, h1, h2⟩ => ⟨b, e, fun hb => h _ (h1 hb), fun hb => CatchV.imp h (h2 hb)⟩
end DL

end

section
set_option autoImplicit false
namespace DL
open PySem PySem.Spec PyProof PyProof.Rows L2
structure FnLn (P : Program) (w : World) (K : PySem.W.Frag) (mg : Str → Option Value) (base : Heap) (k : Nat) (C f : Addr) (fd : FuncData) (p : Str) (fld : Str) : Prop where
  run : ∀ (A : Around) (outer : List PySem.Env) (s : Shared) (H : Hp) (args : Args) (a t dx : Addr) (fs : List (Str × V)) (zs : List V), Room k A → Env0 P w K mg base A outer s H → BindsTo s fd args ([p].zip [Value.ref a]) → H a = some (.ins C dx fs) → fs.lookup fld = some (.ref t) → (SqL K H t zs ∨ SqT K H t zs) →
    codeAny (model P w) A (.call (.ref f) args) (CR (L2.CX P w) outer P w H s (fun v H1 => v = .int zs.length ∧ H1 = H) fun _ _ _ => False) s
section
variable {X : Cx} {k : Nat} {C f f2 : Addr} {fd fd2 : FuncData} {p p2 fld : Str}
def dListO (c fld : Str) (δ : DE) : DE := fun x ρ n q => δ x ρ n fun d n1 => match d with
  | .obj c' fs => c' = c ∧ (match fs.lookup fld with
    | some (.tup ds) => q (.lst ds) n1
    | _ => False)
  | _ => False
structure MgLs (P : Program) (w : World) (K : PySem.W.Frag) (mg : Str → Option Value) (base : Heap) (c fld : Str) (k : Nat) : Prop where
  it : MgIt P w K mg base c fld k
  ln : ∃ (f : Addr) (fd : FuncData) (p : Str), FnLn P w K mg base k (ca K c) f fd p fld ∧ Meth K (ca K c) "__len__" f ∧ Binds K fd [p] []
variable {W : WX} {δ : DE} {c : Str} {e : Expr} {pos p0 : Pos}
end
end DL

end

section
set_option autoImplicit false
namespace DL
open PySem PySem.Spec L2
def dLend (i : Nat) (δ : DE) : DE := fun x ρ n q => match ρ[i]? with
  | some (some (.own (.lst ds))) => δ (x0 x.w) (ρ.set i (some (.val (.rol ds)))) n fun d n1 => nrD d = true ∧ q d n1
  | _ => False
section
variable {X : Cx} {W : WX} {e : Expr} {δ : DE}
end
def dClr (i : Nat) : DS := fun E ρ n => match ρ[i]? with
  | some (some (.own (.lst ds))) => E.nx (ρ.set i (some (.own (.lst [])))) n
  | _ => False
def dAppT (δ δa : DE) : DS := fun E ρ n => δ (E.xx ρ) ρ n fun d n1 => match d with
  | .lst ds => ds.length < 16777216 ∧ δa (E.xx ρ) ρ n1 fun _ n2 => E.nx ρ n2
  | _ => False
section
variable {X : Cx} {W : WX} {o e : Expr} {δ δa : DE} {pos pos' apos cpos : Pos} {x : Str}
end
section
variable {X : Cx} {W : WX} {k m : Nat} {F : DF} {dvd : List D} {c y : Str} {pos apos : Pos} {o : Expr} {δ : DE}
end
section
variable {X : Cx} {W : WX} {k m : Nat} {F : DF} {c fld : Str} {pos apos : Pos} {o e : Expr} {es : List Expr} {a : DA} {δ : DE}
end
end DL

end

section
set_option autoImplicit false
namespace DL
open PySem PySem.Spec PyProof PyProof.Rows L2
def dSlT (δ : DE) (l h : DO) : DE := fun x ρ n q => δ x ρ n fun d n1 => l x ρ n1 fun lo n2 => h x ρ n2 fun hi n3 => match d with
  | .tup ds => q (.tup (cutD ds lo hi)) n3
  | _ => False
section
variable {X : Cx} {W : WX} {e : Expr} {lo hi : Option Expr} {δ : DE} {l h : DO} {p2 pos : Pos}
end
end DL

end

section
set_option autoImplicit false
namespace DL
open PySem PySem.Spec L2
abbrev DFE := Wd → List D → Nat → (Sl → Nat → Prop) → (Xn → Nat → Prop) → Prop
def spWE (K : PySem.W.Frag) (m : Nat) (F : DFE) : Sp := fun vs H Q E => ∃ (W : Wd) (n : Nat) (G : Hp) (ds : List D) (q : Sl → Nat → Prop) (x : Xn → Nat → Prop), Le G H ∧ (∀ a, W.rg a → G a = none) ∧ W.J n H ∧ RepL K G ds vs ∧ ds.length = m ∧ F W ds n q x ∧
  (∀ v H' G' sl n', Step W H G H' G' → W.J n' H' → SlRep K W H G' H' sl v → q sl n' → Q v H') ∧ (∀ c dd H' G' e n', Step W H G H' G' → W.J n' H' → XRep K W H G' H' e c dd → x e n' → E c dd H')
def endsE (W : Wd) (q : Sl → Nat → Prop) (x : Xn → Nat → Prop) : DEnds := ⟨fun _ n => q (.val .non) n, fun d n => q (.val d) n, fun _ _ => False, fun _ _ => False, fun e _ n => x e n, W, q⟩
theorem ok_defE {P : Program} {w : World} {K : PySem.W.Frag} {mg : Str → Option Value} {base : Heap} {x qual : Str} {params : Arguments} {body : List Stmt} {scope : Scope} {dvs : List V} {kws : List (Str × V)} {f : Addr} {fd : FuncData} {N ps : List Str} {k m : Nat} {F : DFE}
    (FD : FunD K x qual params body scope dvs kws f fd) (S : FnScope N ps scope) (hm : ps.length = m)
    (hb : ∀ (X : Cx) (E : XK) (W : Wd) (ds : List D) (n : Nat) (q : Sl → Nat → Prop) (xx : Xn → Nat → Prop), (∃ cdv A outer s H, X = cxOf (L2.CX P w) P w K mg base N qual scope f cdv A outer s H E) → Room k X.A → Takes X (fun c d _ H => E c d H) → PassesOwn (model X.prog X.w) X.A X.env X.xe → ds.length = m → F W ds n q xx →
      ∃ δ, PSsD X (fun c d _ H => E c d H) body δ ∧ δ (endsE W q xx) (startD N ds) n) : FnOk P w K mg base (L2.CX P w) (k + 1) f fd ps (spWE K m F) := by
  refine FD.ok S (fun vs H Q E h => ?_) (fun cdv A outer s H vs Q E hr h => ?_)
  · obtain ⟨W, n, G, ds, q, x, _, _, _, r, hl, _⟩ := h
    rw [← r.length, hl, hm]
  · obtain ⟨W, n, G, ds, q, xx, le, rg, j, r, hl, hF, kq, kx⟩ := h
    obtain ⟨δ, ⟨t, p, e⟩, hδ⟩ := hb (cxOf (L2.CX P w) P w K mg base N qual scope f cdv A outer s H E) E W ds n q xx ⟨cdv, A, outer, s, H, rfl⟩ hr (takes_of rfl rfl rfl rfl) (passes_of rfl) hl hF
    refine ⟨t, p, ?_⟩
    refine e ⟨W, K, H, G, none⟩ (L2.start N vs) H (startD N ds) n G _ _ _ rfl (RelB.start le rg j r) ?_ hδ
    exact ⟨fun σ H' ρ n' G' α R h => kq _ H' G' (.val .non) n' R.st R.J .non h, fun v H' d n' G' s j r h => kq v H' G' (.val d) n' s j r h, fun _ _ _ _ _ _ _ h => h.elim, fun _ _ _ _ _ _ _ h => h.elim, fun c dd σ H' ρ n' G' α e R r hq => kx c dd H' G' e n' R.st R.J r hq, rfl,
      fun v H' sl n' G' s j r hq => kq v H' G' sl n' s j r hq⟩
structure SgE (P : Program) (w : World) (K : PySem.W.Frag) (mg : Str → Option Value) (base : Heap) (x : Str) (k m : Nat) (F : DFE) (dvd : List D) : Prop where
  ex : ∃ (f : Addr) (fd : FuncData) (ps : List Str) (ds : List Value) (dvs : List V), FnOk P w K mg base (L2.CX P w) k f fd ps (spWE K m F) ∧ mg x = some (.ref f) ∧ PySem.W.keepIn K (.ref f) = true ∧ Binds K fd ps ds ∧ Vals dvs ds ∧ ∀ G, RepL K G dvd dvs
def dCallE (m : Nat) (F : DFE) (dvd : List D) (a : DA) : DSl := fun x ρ n q => a x ρ n fun ds n1 => ds.length + dvd.length = m ∧ F x.w (ds ++ dvd) n1 q x.ex
def slD (δ : DSl) : DE := fun x ρ n q => δ x ρ n fun sl n1 => match sl with
  | .val d => q d n1
  | .own d => q d n1
  | .gst _ _ => False
def dSetSl (i : Nat) (δ : DSl) : DS := fun E ρ n => δ (E.xx ρ) ρ n fun sl n1 => E.nx (ρ.set i (some sl)) n1
section
variable {X : Cx} {W : WX} {k m : Nat} {F : DFE} {dvd : List D} {x : Str} {p pos pos' : Pos} {e : Expr} {es : List Expr} {a : DA} {δ : DSl}
theorem PSl.pd (h : PSl X W e δ) : PD X W e (slD δ) := by
  obtain ⟨t, p, h⟩ := h
  refine ⟨_, pe_lk p, fun B σ H ρ n G α Q x q hK R hx hd kk => h B σ H ρ n G α _ x _ hK R hx hd fun v H' G' sl n' s j r hq => ?_⟩
  cases sl with
  | val d => exact .inl (kk v H' G' d n' s j r hq)
  | own d =>
    obtain ⟨a, rfl, np, ng, nr, o⟩ := r
    refine freeze s.hh ng o fun H1 ob e off l1 l2 r => ?_
    exact kk _ H1 (upd G' a ob) d n' (s.frozen np nr off l1 l2) (B.W.stable _ _ _ (fun b hb => off b fun z => nr (z ▸ hb)) (fun b e q => (off b fun z => o.noExt (z ▸ q)).trans q) j) r hq
  | gst _ _ => exact hq.elim
theorem ps_slD (i : Nat) (he : PSl X W e δ) (hN : X.N.Nodup) (i0 : i ≠ 0 := by decide) (hi : X.N[i]? = some x := by rfl) (hx : Loc X.env.scope x := by first | exact Or.inl rfl | exact Or.inr rfl) (hs : swapsWith e (some (.Name x pos')) pos.line X.env = pure false := by rfl) (hf : X.fn x = true ∨ X.env.scope.names.lookup x = some .local := by first | exact .inl rfl | exact .inr rfl) :
    PSD X W (.Assign [.Name x pos'] e pos) (dSetSl i δ) := by
  obtain ⟨t, p, h⟩ := he
  refine ⟨_, ps_set hN hi hx p hs hf, fun B σ H ρ n G α D E hK R L hd => ?_⟩
  refine h B σ H ρ n G α _ _ _ hK R (L.xl R) hd fun v H' G' sl n' s j r hq => ?_
  obtain ⟨α', R'⟩ := R.next s j (hK ▸ r) i i0
  exact L.nx _ H' _ n' G' α' R' hq
end
def iRevN (δ : DE) : DI := fun x ρ n q => δ x ρ n fun d n1 => match d with
  | .int j => (-(2 ^ 62) ≤ j ∧ j < 2 ^ 62) ∧ q (rngC ((j.toNat : Int) - 1) (-1) j.toNat) n1
  | _ => False
section
variable {X : Cx} {W : WX} {tg e : Expr} {δ : DE} {p p2 pos pos2 : Pos}
end
end DL

end

section
set_option autoImplicit false
namespace DL
open PySem PySem.Spec PySem.W PyProof PyProof.Rows L2
abbrev gzT (h : Heap) (i1 i2 : Value) : Heap := h.push { cls := .type "tuple", data := .seq #[i1, i2] }
abbrev gzO (h : Heap) (i1 i2 : Value) : Heap := (gzT h i1 i2).push { cls := .type "tuple", data := .seq #[.none, .none] }
abbrev gzZ (h : Heap) (i1 i2 : Value) : Heap := (gzO h i1 i2).push { cls := .type "zip", data := .fields #[.none, .bool false, .bool false, .ref h.objs.size, .ref (gzT h i1 i2).objs.size] }
structure Hold (p : Prop) : Prop where
  h : p
section
variable {X : Cx} {k : Nat}
def Src (cs : List (Str × Str)) (K : PySem.W.Frag) (H : Hp) (a : Addr) (t : Bool) (u : Addr) (zs : List V) : Prop := SqK t K H u zs ∧ (a = u ∨ ∃ c fld dx fs, (c, fld) ∈ cs ∧ H a = some (.ins (ca K c) dx fs) ∧ fs.lookup fld = some (.ref u))
theorem Src.lt {cs : List (Str × Str)} {pins : List (Addr × Obj)} {σ : L2.St} {H : Hp} {s : Shared} (I : Inv X pins σ H s) {a u : Addr} {t : Bool} {zs : List V} (h : Src cs X.K H a t u zs) : u < s.heap.objs.size := by
  obtain ⟨its, rv, p, _⟩ := h.1.items I
  exact p.lt
theorem Src.ext {cs : List (Str × Str)} {K : PySem.W.Frag} {H : Hp} {a u b : Addr} {o : HO} {t : Bool} {zs : List V} (h : Src cs K H a t u zs) (n : H b = none) : Src cs K (upd H b o) a t u zs := by
  have e : ∀ c w, H c = some w → upd H b o c = some w := fun c w q => by rw [upd_ne (fun z => by rw [z, n] at q; cases q)]; exact q
  obtain ⟨hz, h⟩ := h
  refine ⟨?_, h.imp (fun z => z) fun ⟨c, fld, dx, fs, h1, h2, h3⟩ => ⟨c, fld, dx, fs, h1, e _ _ h2, h3⟩⟩
  cases t with
  | true => exact SqT.ext hz e
  | false => exact SqL.ext hz e
theorem FpOk.less {pins : List (Addr × Obj)} {H H' : Hp} {b : Addr} (h : FpOk X pins H b) (n : H' b = none) : FpOk X pins H' b := ⟨n, h.2⟩
def srcD (cs : List (Str × Str)) : D → Option (List D)
  | .obj c fs => match cs.find? fun x => decide (x.1 = c) with
    | some x => (match fs.lookup x.2 with
      | some (.lst ds) => some ds
      | some (.tup ds) => some ds
      | _ => none)
    | none => none
  | d => seqD d
def iEnO (cs : List (Str × Str)) (δ : DA) : DI := fun x ρ n q => δ x ρ n fun ds n1 => match ds with
  | [d] => opt (srcD cs d) fun es => q (enumD es) n1
  | _ => False
def iZpO (cs : List (Str × Str)) (δ : DA) : DI := fun x ρ n q => δ x ρ n fun ds n1 => match ds with
  | [d, e] => opt (srcD cs d) fun es => opt (srcD cs e) fun fs => q (zipD es fs) n1
  | _ => False
variable {W : WX} {e a b : Expr} {α' : DA} {p pos tpos : Pos} {elts : List Expr} {kk : Nat} {cs : List (Str × Str)}
end
end DL

end

section
set_option autoImplicit false
namespace DL
open PySem PySem.Spec L2 PyProof.Rows
section
variable {X : Cx} {K : PySem.W.Frag}
end
def fAnyI : FL := f1 fun d k => match d with
  | .lst ds => (match intsD ds with
    | some ns => k (.bl (ns.any (· != 0)))
    | none => False)
  | _ => False
end DL

end

section
set_option autoImplicit false
namespace DL
open PySem PySem.Spec L2
def upG (gs : List (Addr × D)) (b : Addr) (d : D) : List (Addr × D) := gs.map fun g => if g.1 = b then (g.1, d) else g
theorem upG_fst (gs : List (Addr × D)) (b : Addr) (d : D) : (upG gs b d).map (·.1) = gs.map (·.1) := by
  unfold upG
  rw [List.map_map]
  exact List.map_congr_left fun g _ => by
    show (if g.1 = b then (g.1, d) else g).1 = g.1
    split <;> rfl
theorem upG_mem {gs : List (Addr × D)} {b : Addr} {d : D} {g : Addr × D} (h : g ∈ upG gs b d) : (g.1 = b ∧ g.2 = d ∧ b ∈ gs.map (·.1)) ∨ (g.1 ≠ b ∧ g ∈ gs) := by
  obtain ⟨u, hu, rfl⟩ := List.mem_map.mp h
  by_cases e : u.1 = b
  · rw [if_pos e]
    exact .inl ⟨e, rfl, List.mem_map.mpr ⟨u, hu, e⟩⟩
  · rw [if_neg e]
    exact .inr ⟨e, hu⟩
section
variable {B : Bs} {σ : L2.St} {H : Hp} {ρ : DL.Env} {n : Nat} {G : Hp} {α : Nat → Addr}
theorem RelB.hideG (R : RelB B σ H ρ n G α) {i : Nat} {r : D} {gs : List (Addr × D)} {b : Addr} {d : D} {o : HO} (h : ρ[i]? = some (some (.gst r gs))) (hb : (b, d) ∈ gs) : RelB B σ (upd H b o) (ρ.set i none) n G α := by
  obtain ⟨hg, h0, nr, od⟩ := R.gh.at_ i r gs h _ hb
  have il : i < ρ.length := (List.getElem?_eq_some_iff.mp h).1
  have back : ∀ {j : Nat} {s : Sl}, (ρ.set i none)[j]? = some (some s) → j ≠ i ∧ ρ[j]? = some (some s) := fun {j s} hj => by
    rcases get_set_sl hj with ⟨_, z⟩ | ⟨z, e⟩
    · exact nomatch z
    · exact ⟨Ne.symm z, e⟩
  refine ⟨⟨fun a u e r => ?_, R.st.le, fun a u e => ?_, R.st.new⟩, R.rg, B.W.stable n H _ (fun a r => upd_ne (fun z => nr (z ▸ r))) (fun b' e q => (upd_ne fun z => od.noExt (z ▸ q)).trans q) R.J, by rw [List.length_set, R.len], fun j e hj => R.val j e (back hj).2, fun j e hj => ?_, fun j k e f hj hk => R.inj j k e f (back hj).2 (back hk).2, fun c e hc hj => R.p0 c e hc (back hj).2,
    R.gh.of rfl rfl rfl rfl (fun j r gs e => ⟨(back e).2, fun _ q => q⟩) (fun j e q => .inl ⟨e, (back q).2, rfl⟩) (fun j r' gs' e g hm h1 _ _ => ⟨h1, fun u q => ?_⟩) (Le.refl G)⟩
  · rw [upd_ne (fun z => by rw [z, h0] at e; cases e)]
    exact R.st.fr a u e r
  · obtain ⟨o', e', c⟩ := R.le a u e
    exact ⟨o', by rw [upd_ne (fun z => by rw [z, hg] at e; cases e)]; exact e', c⟩
  · obtain ⟨ne, hj⟩ := back hj
    obtain ⟨h1, h2, h3, h4, h5⟩ := R.own j e hj
    exact ⟨h1, h2, h3, h4, h5.mono (Le.refl G) fun u q => by rw [upd_ne (fun z => R.gh.off i j r gs e h hj _ hb z.symm)]; exact q⟩
  · rw [upd_ne (fun z => R.gh.sep j i r' r gs' gs (back e).2 h (back e).1 g hm _ hb z)]; exact q
theorem RelB.putG (R : RelB B σ H ρ n G α) (i : Nat) {r : D} {gs : List (Addr × D)} {v : V} (hv : σ[i]? = some (some v)) (hr : Rep B.K G r v) (nd : (gs.map (·.1)).Nodup) (hg : ∀ g ∈ gs, G g.1 = none ∧ B.H0 g.1 = none ∧ ¬ B.W.rg g.1 ∧ OwnAt B.K G H g.1 g.2)
    (f1 : ∀ (j : Nat) (d : D), j ≠ i → ρ[j]? = some (some (.own d)) → ∀ g ∈ gs, g.1 ≠ α j) (f2 : ∀ (j : Nat) (r' : D) (gs' : List (Addr × D)), j ≠ i → ρ[j]? = some (some (.gst r' gs')) → ∀ g ∈ gs, ∀ g' ∈ gs', g.1 ≠ g'.1)
    (hp : ∀ a, B.self = some a → i = 0 → r = .hnd a) : RelB B σ H (ρ.set i (some (.gst r gs))) n G α := by
  have own : ∀ {j : Nat} {d : D}, (ρ.set i (some (.gst r gs)))[j]? = some (some (.own d)) → i ≠ j ∧ ρ[j]? = some (some (.own d)) := fun {j d} h => by
    rcases get_set_sl h with ⟨_, z⟩ | z
    · exact nomatch z
    · exact z
  have val : ∀ {j : Nat} {d : D}, (ρ.set i (some (.gst r gs)))[j]? = some (some (.val d)) → i ≠ j ∧ ρ[j]? = some (some (.val d)) := fun {j d} h => by
    rcases get_set_sl h with ⟨_, z⟩ | z
    · exact nomatch z
    · exact z
  have gst : ∀ {j : Nat} {r' : D} {gs' : List (Addr × D)}, (ρ.set i (some (.gst r gs)))[j]? = some (some (.gst r' gs')) → (i = j ∧ r' = r ∧ gs' = gs) ∨ (i ≠ j ∧ ρ[j]? = some (some (.gst r' gs'))) := fun {j r' gs'} h => by
    rcases get_set_sl h with ⟨z1, z⟩ | z
    · injection z with z
      injection z with z2 z3
      exact .inl ⟨z1, z2.symm, z3.symm⟩
    · exact .inr z
  refine ⟨R.st, R.rg, R.J, by rw [List.length_set, R.len], fun j e h => R.val j e (val h).2, fun j e h => R.own j e (own h).2, fun j k e f hj hk => R.inj j k e f (own hj).2 (own hk).2, fun b e h h' => R.p0 b e h (own h').2, ⟨fun j r' gs' e => ?_, fun j r' gs' e => ?_, fun j k r1 r2 g1 g2 e1 e2 ne => ?_, fun j k r' gs' d e e' => ?_, fun a r' gs' hs e => ?_⟩⟩
  · rcases gst e with ⟨z, z2, z3⟩ | ⟨_, e⟩
    · subst z z2 z3
      exact ⟨⟨v, hv, hr⟩, nd⟩
    · exact R.gh.gst j r' gs' e
  · rcases gst e with ⟨_, _, z⟩ | ⟨_, e⟩
    · rw [z]; exact hg
    · exact R.gh.at_ j r' gs' e
  · rcases gst e1 with ⟨y, _, y2⟩ | ⟨y, w1⟩
    · rcases gst e2 with ⟨z, _⟩ | ⟨z, w2⟩
      · exact (ne (y.symm.trans z)).elim
      · rw [y2]
        exact f2 k r2 g2 (Ne.symm z) w2
    · rcases gst e2 with ⟨z, _, z2⟩ | ⟨z, w2⟩
      · rw [z2]
        exact fun g hm g' hm' q => f2 j r1 g1 (Ne.symm y) w1 g' hm' g hm q.symm
      · exact R.gh.sep j k r1 r2 g1 g2 w1 w2 ne
  · obtain ⟨z', w'⟩ := own e'
    rcases gst e with ⟨z, _, z2⟩ | ⟨z, w⟩
    · rw [z2]
      exact f1 k d (Ne.symm z') w'
    · exact R.gh.off j k r' gs' d w w'
  · rcases gst e with ⟨z, z2, _⟩ | ⟨_, e⟩
    · rw [z2]
      exact hp a hs z
    · exact R.gh.p1 a r' gs' hs e
theorem RelB.writeG (R : RelB B σ H ρ n G α) {i : Nat} {r : D} {gs : List (Addr × D)} {b : Addr} {d d' : D} {o : HO} (h : ρ[i]? = some (some (.gst r gs))) (hb : (b, d) ∈ gs) (ho : OwnAt B.K G (upd H b o) b d') :
    RelB B σ (upd H b o) (ρ.set i (some (.gst r (upG gs b d')))) n G α := by
  have R1 := R.hideG (o := o) h hb
  obtain ⟨⟨v, hv, hr⟩, nd⟩ := R.gh.gst i r gs h
  have back : ∀ {j : Nat} {s : Sl}, (ρ.set i none)[j]? = some (some s) → j ≠ i ∧ ρ[j]? = some (some s) := fun {j s} hj => by
    rcases get_set_sl hj with ⟨_, z⟩ | ⟨z, e⟩
    · exact nomatch z
    · exact ⟨Ne.symm z, e⟩
  have fst : ∀ {g : Addr × D}, g ∈ upG gs b d' → ∃ u ∈ gs, u.1 = g.1 := fun {g} hm => by
    rcases upG_mem hm with ⟨e1, _, _⟩ | ⟨_, e⟩
    · exact ⟨_, hb, e1.symm⟩
    · exact ⟨g, e, rfl⟩
  have := R1.putG i (r := r) (gs := upG gs b d') hv hr (by rw [upG_fst]; exact nd) (fun g hm => ?_) (fun j e _ hj g hm => ?_) (fun j r1 g1 _ hj g hm g' hm' => ?_) (fun a hs i0 => ?_)
  · rwa [List.set_set] at this
  · obtain ⟨u, hu, e⟩ := fst hm
    obtain ⟨h1, h2, h3, h4⟩ := R.gh.at_ i r gs h u hu
    rw [e] at h1 h2 h3 h4
    refine ⟨h1, h2, h3, ?_⟩
    rcases upG_mem hm with ⟨e1, e2, _⟩ | ⟨ne, hm⟩
    · rw [e1, e2]; exact ho
    · exact (R.gh.at_ i r gs h g hm).2.2.2.mono (Le.refl G) fun u q => by rw [upd_ne ne]; exact q
  · obtain ⟨u, hu, e1⟩ := fst hm
    rw [← e1]
    exact R.gh.off i j r gs e h (back hj).2 u hu
  · obtain ⟨u, hu, e1⟩ := fst hm
    rw [← e1]
    exact R.gh.sep i j r r1 gs g1 h (back hj).2 (Ne.symm (back hj).1) u hu g' hm'
  · subst i0
    exact R.gh.p1 a r gs hs h
theorem RelB.addG {H0 : Hp} {n0 : Nat} {G0 : Hp} (R0 : RelB B σ H0 ρ n0 G0 α) (R : RelB B σ H ρ n G α) {i : Nat} {r : D} {gs : List (Addr × D)} {b : Addr} {d : D} (h : ρ[i]? = some (some (.gst r gs))) (np : H0 b = none) (hg : G b = none) (nr : ¬ B.W.rg b) (ho : OwnAt B.K G H b d) :
    (∀ g ∈ gs, g.1 ≠ b) ∧ RelB B σ H (ρ.set i (some (.gst r (gs ++ [(b, d)])))) n G α := by
  obtain ⟨⟨v, hv, hr⟩, nd⟩ := R.gh.gst i r gs h
  have fg : ∀ (k : Nat) (r : D) (gs : List (Addr × D)), ρ[k]? = some (some (.gst r gs)) → ∀ g ∈ gs, g.1 ≠ b := fun k r gs e g hm z => by
    obtain ⟨o, q⟩ := (R0.gh.at_ k r gs e g hm).2.2.2.there
    rw [z, np] at q; cases q
  have fo : ∀ (k : Nat) (d : D), ρ[k]? = some (some (.own d)) → α k ≠ b := fun k d e z => by
    obtain ⟨o, q⟩ := (R0.own k d e).2.2.2.2.there
    rw [z, np] at q; cases q
  have fr := fg i r gs h
  have mem : ∀ {g : Addr × D}, g ∈ gs ++ [(b, d)] → g ∈ gs ∨ g = (b, d) := fun {g} hm => (List.mem_append.mp hm).imp id fun z => List.mem_singleton.mp z
  refine ⟨fr, R.putG i hv hr ?_ (fun g hm => ?_) (fun j e ne hj g hm => ?_) (fun j r1 g1 ne hj g hm g' hm' => ?_) fun a hs i0 => ?_⟩
  · rw [List.map_append, List.nodup_append]
    refine ⟨nd, by simp, fun a ha c hc z => ?_⟩
    obtain ⟨g, hm, rfl⟩ := List.mem_map.mp ha
    rw [List.mem_map] at hc
    obtain ⟨u, hu, rfl⟩ := hc
    rw [List.mem_singleton.mp hu] at z
    exact fr g hm z
  · rcases mem hm with hm | rfl
    · exact R.gh.at_ i r gs h g hm
    · exact ⟨hg, h0_of R0 np nr, nr, ho⟩
  · rcases mem hm with hm | rfl
    · exact R.gh.off i j r gs e h hj g hm
    · exact fun z => fo j e hj z.symm
  · rcases mem hm with hm | rfl
    · exact R.gh.sep i j r r1 gs g1 h hj (Ne.symm ne) g hm g' hm'
    · exact fun z => fg j r1 g1 hj g' hm' z.symm
  · subst i0
    exact R.gh.p1 a r gs hs h
end

def dLcF (ι : DI) (γ : DG) (tt : DT) (te : DE) (vs : List Nat) : DSl := fun x ρ n q => ι x ρ n fun ds n1 => lcD x.w γ tt te ds (wipeD ρ vs) n1 [] fun es n2 => ∀ (a : Addr) (bs : List Addr), bs.length = es.length → (a :: bs).Nodup → q (.gst (.hnd a) ((a, .lst (bs.map D.hnd)) :: bs.zip es)) n2
theorem rep_hnds {K : PySem.W.Frag} {G : Hp} : ∀ bs : List Addr, RepL K G (bs.map D.hnd) (bs.map V.ref)
  | [] => .nil
  | b :: bs => .cons (.hnd b) (rep_hnds bs)
structure News (K : PySem.W.Frag) (W : Wd) (H0 G H : Hp) (D : Addr) (bs : List Addr) (es : List DL.D) : Prop where
  len : bs.length = es.length
  nd : (D :: bs).Nodup
  at_ : ∀ g ∈ bs.zip es, H0 g.1 = none ∧ G g.1 = none ∧ ¬ W.rg g.1 ∧ OwnAt K G H g.1 g.2
theorem News.step {K : PySem.W.Frag} {W : Wd} {H0 G H G' H' : Hp} {D : Addr} {bs : List Addr} {es : List DL.D} (h : News K W H0 G H D bs es) (s : Step W H G H' G') : News K W H0 G' H' D bs es := by
  refine ⟨h.len, h.nd, fun g hm => ?_⟩
  obtain ⟨h0, g0, nr, o⟩ := h.at_ g hm
  obtain ⟨u, q⟩ := o.there
  exact ⟨h0, s.keepD q g0, nr, o.mono s.le fun o q => s.fr _ o q nr⟩
theorem News.off {K : PySem.W.Frag} {W : Wd} {H0 G H : Hp} {D : Addr} {bs : List Addr} {es : List DL.D} (h : News K W H0 G H D bs es) {o : HO} : News K W H0 G (upd H D o) D bs es := by
  refine ⟨h.len, h.nd, fun g hm => ?_⟩
  obtain ⟨h0, g0, nr, ow⟩ := h.at_ g hm
  have ne : g.1 ≠ D := fun z => (List.nodup_cons.mp h.nd).1 (z ▸ (List.of_mem_zip (a := g.1) (b := g.2) hm).1)
  exact ⟨h0, g0, nr, ow.mono (Le.refl G) fun u q => by rw [upd_ne ne]; exact q⟩
theorem News.snoc {K : PySem.W.Frag} {W : Wd} {H0 G H : Hp} {D : Addr} {bs : List Addr} {es : List DL.D} (h : News K W H0 G H D bs es) {b : Addr} {d : DL.D} (ne : b ≠ D) (nb : b ∉ bs) (h0 : H0 b = none) (g0 : G b = none) (nr : ¬ W.rg b) (o : OwnAt K G H b d) : News K W H0 G H D (bs ++ [b]) (es ++ [d]) := by
  refine ⟨by rw [List.length_append, List.length_append, h.len]; rfl, ?_, fun g hm => ?_⟩
  · have h1 := List.nodup_cons.mp h.nd
    refine List.nodup_cons.mpr ⟨fun z => ?_, ?_⟩
    · rcases List.mem_append.mp z with z | z
      · exact h1.1 z
      · exact ne (List.mem_singleton.mp z).symm
    · refine List.nodup_append.mpr ⟨h1.2, by simp, fun a ha c hc z => ?_⟩
      rw [List.mem_singleton.mp hc] at z
      exact nb (z ▸ ha)
  · rw [List.zip_append h.len] at hm
    rcases List.mem_append.mp hm with hm | hm
    · exact h.at_ g hm
    · rw [show [b].zip [d] = [(b, d)] from rfl] at hm
      rw [List.mem_singleton.mp hm]
      exact ⟨h0, g0, nr, o⟩
theorem News.there {K : PySem.W.Frag} {W : Wd} {H0 G H : Hp} {D : Addr} {bs : List Addr} {es : List DL.D} (h : News K W H0 G H D bs es) {b : Addr} (hb : b ∈ bs) : ∃ o, H b = some o := by
  obtain ⟨i, hi, rfl⟩ := List.mem_iff_getElem.mp hb
  have hl := h.len
  have hm : (bs[i], es[i]'(by omega)) ∈ bs.zip es := List.mem_iff_getElem.mpr ⟨i, by rw [List.length_zip]; omega, by rw [List.getElem_zip]⟩
  exact (h.at_ _ hm).2.2.2.there
theorem es_lcF {K : PySem.W.Frag} {W : WX} {wi : TI} {g : TG} {tt : TT} {te : TE} {vs : List Nat} {ι : DI} {γ : DG} {τ : DT} {δ : DE} {sl : List Nat} (hsl : ∀ i ∈ sl, i ∈ vs) (hi : EI K W wi ι) (hg : GD K sl g γ) (ht : ET K W0 tt τ) (he : EF K W0 te δ) : ES K W (tLc wi g tt te vs) (dLcF ι γ τ δ vs) := by
  intro B σ H ρ n G α Q x q hK R hx hd k
  refine hi B σ H ρ n G α _ x _ hK R hx hd fun J H1 G1 ds n1 s1 j1 wk h1 => ?_
  have R1 := R.step s1 j1
  intro D hD
  have nr : ¬ B.W.rg D := fun r => B.W.there n1 H1 D j1 r hD
  have g1 : G1 D = none := by
    cases q : G1 D with
    | none => rfl
    | some u =>
      obtain ⟨o', e', _⟩ := s1.hh D u q
      rw [hD] at e'; cases e'
  have back : ∀ {a : Addr}, H1 a = none → ¬ B.W.rg a → H a = none := fun {a} hD nr => by
    cases e : H a with
    | none => rfl
    | some o => rw [s1.fr a o e nr] at hD; cases hD
  have h0 : H D = none := back hD nr
  have s0 := StepP.laid (o := .lst []) s1.hh hD
  let q' : List DL.D → Nat → Prop := fun es n2 => ∀ (a : Addr) (bs : List Addr), bs.length = es.length → (a :: bs).Nodup → q (.gst (.hnd a) ((a, .lst (bs.map DL.D.hnd)) :: bs.zip es)) n2
  refine ⟨fun i m H' => m = ds.length - i ∧ i ≤ ds.length ∧ ∃ n G acc bs, Step B.W H1 G1 H' G ∧ B.W.J n H' ∧ H' D = some (.lst (bs.map V.ref)) ∧ G D = none ∧ News K B.W H1 G H' D bs acc ∧ lcD B.W γ τ δ (ds.drop i) (wipeD ρ vs) n acc q',
    ⟨ds.length, by simp, Nat.zero_le _, n1, G1, [], [], s0.step j1, s0.J j1, upd_same, g1, ⟨rfl, by simp, fun _ h => nomatch h⟩, by rw [hx.1] at h1; rw [List.drop_zero]; exact h1⟩, ?_⟩
  rintro i m H2 ⟨rfl, hil, n2, G2, acc, bs, s2, j2, hD2, gD2, ra, h2⟩
  by_cases hlt : i < ds.length
  · refine .inr ⟨wk.goes i H2 G2 hlt s2.le s2.hh, fun H' => ∃ n G acc bs, Step B.W H1 G1 H' G ∧ B.W.J n H' ∧ H' D = some (.lst (bs.map V.ref)) ∧ G D = none ∧ News K B.W H1 G H' D bs acc ∧ lcD B.W γ τ δ (ds.drop (i + 1)) (wipeD ρ vs) n acc q', fun H' p => ⟨ds.length - (i + 1), by omega, rfl, hlt, p⟩, fun y H' yl => ?_⟩
    obtain ⟨d, G3, ed, s3, r3⟩ := wk.yields i H2 G2 y H' hlt s2.le s2.hh yl
    have ed' : ds.drop i = d :: ds.drop (i + 1) := by
      rw [List.drop_eq_getElem_cons hlt]
      have : ds[i] = d := by
        rw [List.getElem?_eq_getElem hlt] at ed
        exact Option.some.inj ed
      rw [this]
    rw [ed'] at h2
    have t3 := s3.step j2
    have R3 := ((R1.step s2 j2).step t3 (s3.J j2)).wipe vs
    have hD3 := s3.fr D _ hD2
    have gD3 := t3.keepD hD2 gD2
    refine hg B (wipe σ vs) H' (wipeD ρ vs) n2 G3 α y d _ _ hK R3 r3 h2 fun σ4 ρ4 R4 f4 l4 h4 => ⟨?_, ?_⟩
    · refine List.ext_getElem? fun j => ?_
      rw [wipe_get, wipe_get, l4, wipe_length]
      by_cases hj : j ∈ vs
      · rw [if_pos hj, if_pos hj]
      · rw [if_neg hj, if_neg hj, f4 j (fun z => hj (hsl j z)), wipe_out hj]
    · refine ht B σ4 H' ρ4 n2 G3 α _ (x0 B.W) _ hK R4 xl0 h4 fun b H5 G5 n5 s5 j5 h5 => ?_
      have hD5 := s5.fr D _ hD3 nr
      have gD5 := s5.keepD hD3 gD3
      cases b with
      | true =>
        rw [if_pos rfl] at h5 ⊢
        refine he B σ4 H5 ρ4 n5 G5 α _ (x0 B.W) _ hK (R4.step s5 j5) xl0 h5 fun v H6 G6 dy n6 s6 j6 np6 ng6 nr6 o6 h6 => ?_
        have hD6 := s6.fr D _ hD5 nr
        have gD6 := s6.keepD hD5 gD5
        have t6 : Step B.W H1 G1 H6 G6 := s2.trans (t3.trans (s5.trans s6))
        have rb := (ra.step (t3.trans s5))
        have nv : v ∉ bs := fun hm => by
          obtain ⟨o, e⟩ := rb.there hm
          rw [np6] at e; cases e
        have nD : v ≠ D := fun z => by rw [z, hD5] at np6; cases np6
        have h1v : H1 v = none := by
          cases e : H1 v with
          | none => rfl
          | some o => rw [(s2.trans (t3.trans s5)).fr v o e nr6] at np6; cases np6
        have ra6 := (rb.step s6).snoc nD nv h1v ng6 nr6 o6
        refine ⟨bs.map V.ref, hD6, by rw [sizeLine_eq, List.length_map, ra.len]; exact h6.1, n6, G6, acc ++ [dy], bs ++ [v], ?_, B.W.stable _ _ _ (fun a r => upd_ne (fun z : a = D => nr (z ▸ r))) (fun a e q => (upd_ne fun z : a = D => by rw [z, hD6] at q; cases q).trans q) j6, by rw [upd_same, List.map_append]; rfl, gD6, ra6.off, h6.2⟩
        exact t6.updD hD gD6
      | false =>
        rw [if_neg Bool.false_ne_true] at h5 ⊢
        exact ⟨n5, G5, acc, bs, s2.trans (t3.trans s5), j5, hD5, gD5, ra.step (t3.trans s5), h5⟩
  · have e : i = ds.length := by omega
    subst e
    refine .inl ⟨wk.stops H2 G2 s2.le s2.hh, ?_⟩
    rw [List.drop_length] at h2
    have h2' : q' acc n2 := h2
    refine k (.ref D) H2 G2 (.gst (.hnd D) ((D, .lst (bs.map DL.D.hnd)) :: bs.zip acc)) n2 (s1.trans s2) j2 (show _ ∧ _ ∧ _ from ⟨.hnd D, ?_, fun g hm => ?_⟩) (h2' D bs ra.len ra.nd)
    · rw [List.map_cons, List.map_fst_zip (by rw [ra.len]; exact Nat.le_refl _)]
      exact ra.nd
    · rcases List.mem_cons.mp hm with rfl | hm
      · exact ⟨h0, gD2, nr, _, hD2, rep_hnds bs⟩
      · obtain ⟨z0, z1, z2, z3⟩ := ra.at_ g hm
        exact ⟨back z0 z2, z1, z2, z3⟩
section
variable {X : Cx} {W : WX} {elt tg iter : Expr} {ifs : List Expr} {scope : Scope} {own : List (Str × Nat)} {pos spos py : Pos} {ι : DI} {γ : DG} {τ : DT} {δ : DE} {sl : List Nat} {y : Str}
def fOf (K : PySem.W.Frag) (W : WX) (δ : DE) : TE := fun σ H Q => ∃ (B : Bs) (ρ : Env) (n : Nat) (G : Hp) (α : Nat → Addr) (x : DX) (q : DQ), B.K = K ∧ RelB B σ H ρ n G α ∧ XL B W σ H G x ∧ δ x ρ n q ∧
  (∀ a H' G' d n', Step B.W H G H' G' → B.W.J n' H' → H a = none → G' a = none → ¬ B.W.rg a → OwnAt K G' H' a d → q d n' → Q (.ref a) H')
theorem ef_fOf {K : PySem.W.Frag} {W : WX} {δ : DE} : EF K W (fOf K W δ) δ := fun B σ H ρ n G α Q x q hK R hx hd k => ⟨B, ρ, n, G, α, x, q, hK, R, hx, hd, k⟩
theorem PF.pe {e : Expr} {δ : DE} (h : PF X W e δ) : PE X e (fOf X.K W δ) := by
  obtain ⟨t, p, h⟩ := h
  refine ⟨fun pins s σ H Q I hw => ?_⟩
  obtain ⟨B, ρ, n, G, α, x, q, hK, R, hx, hd, k⟩ := hw
  exact p.run pins s σ H Q I (h B σ H ρ n G α Q x q hK R hx hd k)
theorem psl_lcF (own : List (Str × Nat)) (hc : X.calm = true) (hN : X.N.Nodup) (hi : PID X W tg iter ι) (ok : BlkOk X.N X.env.scope scope own)
    (hg : ∀ (s : Shared) (H : Hp) (C : Addr) (cl : List (Str × Addr)) (fp : List Addr), PGD (X.blk s H scope (compEnvC scope cl C X.env) fp) sl tg γ)
    (ht : ∀ (s : Shared) (H : Hp) (C : Addr) (cl : List (Str × Addr)) (fp : List Addr), PTsD (X.blk s H scope (compEnvC scope cl C X.env) fp) ifs τ)
    (he : ∀ (s : Shared) (H : Hp) (C : Addr) (cl : List (Str × Addr)) (fp : List Addr), PF (X.blk s H scope (compEnvC scope cl C X.env) fp) W0 elt δ) (hsl : ∀ i ∈ sl, i ∈ own.map (·.2) := by decide)
    (hs : ∀ x, foldedSetIterable iter X.env x = pure x := by intro _; rfl) : PSl X W (.ListComp elt [⟨tg, iter, ifs, 0⟩] scope pos) (dLcF ι γ τ δ (own.map (·.2))) := by
  obtain ⟨wi, pi, ei⟩ := hi
  exact ⟨_, pe_lc hc hN pi ok (fun s H C cl fp => (show PG _ _ (gOf X.K sl γ) from (hg s H C cl fp).pg)) (fun s H C cl fp => (show PTs _ _ (tOfT X.K W0 τ) from (ht s H C cl fp).pts)) (fun s H C cl fp => (show PE _ _ (fOf X.K W0 δ) from (he s H C cl fp).pe)) hs, es_lcF hsl ei gd_gOf et_tOf ef_fOf⟩
def dRetSl (δ : DSl) : DS := fun E ρ n => δ (E.xx ρ) ρ n E.ro
theorem ps_retSl {e : Expr} {δ : DSl} {pos : Pos} (he : PSl X W e δ) : PSD X W (.Return (some e) pos) (dRetSl δ) := by
  obtain ⟨t, p, h⟩ := he
  refine ⟨_, ps_ret p, fun B σ H ρ n G α D E hK R L hd => ?_⟩
  refine h B σ H ρ n G α _ _ _ hK R (L.xl R) hd fun v H' G' sl n' s j r hq => L.ro v H' sl n' G' (R.st.trans s) j ?_ hq
  rw [hK]
  cases sl with
  | val d => exact r
  | own d =>
    obtain ⟨a, e1, np, ng, nr, o⟩ := r
    exact ⟨a, e1, h0_of R np nr, ng, nr, o⟩
  | gst r' gs =>
    obtain ⟨hr, nd, hg⟩ := r
    refine ⟨hr, nd, fun g hm => ?_⟩
    obtain ⟨np, ng, nr, o⟩ := hg g hm
    exact ⟨h0_of R np nr, ng, nr, o⟩
end
end DL

end

section
set_option autoImplicit false
namespace DL
open PySem PySem.Spec L2
def dRes (i : Nat) (δ : DE) : DE := fun x ρ n q => δ x ρ n fun d n1 => match ρ[i]? with
  | some (some (.gst _ gs)) => q (resG gs d) n1
  | _ => False
section
variable {X : Cx} {W : WX} {e : Expr} {δ : DE}
theorem pb_res (i : Nat) (he : PD X W e δ) : PB X W e (dRes i δ) := by
  obtain ⟨t, p, h⟩ := he
  refine ⟨t, p, fun B σ H ρ n G α Q x q hK R hx hd k => h B σ H ρ n G α Q x _ hK R hx hd fun v H1 G1 d n1 s1 j1 r1 h1 => ?_⟩
  have R1 := R.step s1 j1
  split at h1
  · rename_i r gs eo
    refine k v H1 G1 _ n1 s1 j1 ?_ h1
    cases d with
    | hnd a =>
      cases r1
      show RepB X.K B.W G1 H1 ((lkG gs a).getD (.hnd a)) _
      cases q : lkG gs a with
      | none => exact .inl (.hnd a)
      | some d =>
        obtain ⟨g1, _, g3, g4⟩ := R1.gh.at_ i _ gs eo _ (lkG_mem q)
        exact .inr ⟨a, rfl, g1, g3, hK ▸ g4⟩
    | _ => exact .inl r1
  · exact h1.elim
end
def withG (i : Nat) (ρ : DL.Env) (o : D) (k : Addr → D → List (Addr × D) → D → Prop) : Prop := match o, ρ[i]? with
  | .hnd b, some (some (.gst r gs)) => opt (lkG gs b) fun c => k b r gs c
  | _, _ => False
theorem withG_some {i : Nat} {ρ : DL.Env} {o : D} {k : Addr → D → List (Addr × D) → D → Prop} (h : withG i ρ o k) : ∃ b r gs c, o = .hnd b ∧ ρ[i]? = some (some (.gst r gs)) ∧ lkG gs b = some c ∧ k b r gs c := by
  unfold withG at h
  split at h
  · rename_i b r gs e
    obtain ⟨c, e1, h1⟩ := opt_some h
    exact ⟨b, r, gs, c, rfl, e, e1, h1⟩
  · exact h.elim
def dAppG (i : Nat) (δo δ : DE) : DS := fun E ρ n => δo (E.xx ρ) ρ n fun o n1 => withG i ρ o fun b r gs c => match c with
  | .lst ds => δ (E.xx ρ) ρ n1 fun d n2 => ds.length < 16777216 ∧ E.nx (ρ.set i (some (.gst r (upG gs b (.lst (ds ++ [d])))))) n2
  | _ => False
def dAppGF (i : Nat) (δo δ : DE) : DS := fun E ρ n => δo (E.xx ρ) ρ n fun o n1 => withG i ρ o fun b r gs c => match c with
  | .lst ds => δ (E.xx ρ) ρ n1 fun d n2 => ds.length < 16777216 ∧ ∀ b', (∀ g ∈ gs, g.1 ≠ b') → E.nx (ρ.set i (some (.gst r (upG (gs ++ [(b', d)]) b (.lst (ds ++ [.hnd b'])))))) n2
  | _ => False
def dExtG (i : Nat) (δo δ : DE) : DS := fun E ρ n => δo (E.xx ρ) ρ n fun o n1 => withG i ρ o fun b r gs c => match c with
  | .lst ds => δ (E.xx ρ) ρ n1 fun d n2 => (match d with
    | .lst es => ds.length + es.length ≤ 16777216 ∧ E.nx (ρ.set i (some (.gst r (upG gs b (.lst (ds ++ es)))))) n2
    | _ => False)
  | _ => False
def dPutG (i : Nat) (δo δk δv : DE) : DS := fun E ρ n => δv (E.xx ρ) ρ n fun d n1 => δo (E.xx ρ) ρ n1 fun o n2 => δk (E.xx ρ) ρ n2 fun k n3 => withG i ρ o fun b r gs c => match c with
  | .dct kvs => opt (keyD k) fun j => kvs.length < 16777216 ∧ E.nx (ρ.set i (some (.gst r (upG gs b (.dct (putD kvs j d)))))) n3
  | _ => False
def dSetIxG (i : Nat) (δo δk δv : DE) : DS := fun E ρ n => δv (E.xx ρ) ρ n fun d n1 => δo (E.xx ρ) ρ n1 fun o n2 => δk (E.xx ρ) ρ n2 fun k n3 => withG i ρ o fun b r gs c => match c, k with
  | .lst ds, .int z => opt (ixN ds.length z) fun j => E.nx (ρ.set i (some (.gst r (upG gs b (.lst (ds.set j d)))))) n3
  | _, _ => False
def dFldG (i : Nat) (c f : Str) (δ : DE) : DS := fun E ρ n => δ (E.xx ρ) ρ n fun d n1 => match ρ[i]? with
  | some (some (.gst r gs)) => withG i ρ r fun b _ _ o => (match o with
    | .obj c' fs => c' = c ∧ fs.length < 1000 ∧ E.nx (ρ.set i (some (.gst r (upG gs b (.obj c (setF f d fs)))))) n1
    | _ => False)
  | _ => False
def dFldGF (i : Nat) (c f : Str) (δ : DE) : DS := fun E ρ n => δ (E.xx ρ) ρ n fun d n1 => match ρ[i]? with
  | some (some (.gst r gs)) => withG i ρ r fun b _ _ o => (match o with
    | .obj c' fs => c' = c ∧ fs.length < 1000 ∧ ∀ b', (∀ g ∈ gs, g.1 ≠ b') → E.nx (ρ.set i (some (.gst r (upG (gs ++ [(b', d)]) b (.obj c (setF f (.hnd b') fs)))))) n1
    | _ => False)
  | _ => False
section
variable {X : Cx} {W : WX} {o e k : Expr} {δ δo δk δv : DE} {pos pos' apos cpos : Pos} {x : Str}
theorem ps_appG (i : Nat) (ho : PD X W o δo) (he : PD X W e δ) (hst : starEach [e] X.env = [(false, eval e X.env)] := by rfl)
    (hbase : attributeBase o "append" X.env (eval o X.env) = eval o X.env := by rfl)
    (hfew : ((backTo cpos (starEach [e] X.env)).all (fun x => !x.1) && (backToKw cpos (keywordEach [] X.env)).all (fun x => x.1.isSome)
      && decide ([e].length + ([] : List Keyword).length + (if ([] : List Keyword).isEmpty then 0 else 1) < 30)) = true := by rfl)
    (hline : (apos.endLine == cpos.line) = true := by rfl) (hplain : (backTo cpos (starEach [] X.env)).any (·.1) = false := by rfl)
    (hsw : swapsWith (.Call (.Attribute o "append" apos) [e] [] cpos) none pos.line X.env = pure false := by rfl) : PSD X W (.Expr (.Call (.Attribute o "append" apos) [e] [] cpos) pos) (dAppG i δo δ) := by
  obtain ⟨to, po, eo⟩ := ho
  obtain ⟨t, p, h⟩ := he
  refine ⟨_, ps_expr (pe_bm PySem.F.plainAttrs_list PySem.F.slot_list_append PySem.F.type_list_append mt_append po (pa_cons p pa_nil hst) hbase hfew hline hst hplain) hsw, fun B σ H ρ n G α D E hK R L hd => ?_⟩
  refine eo B σ H ρ n G α _ _ _ hK R (L.xl R) hd fun v H1 G1 d n1 s1 j1 r1 h1 => ?_
  have R1 := R.step s1 j1
  obtain ⟨b, r, gs, c, rfl, eg, el, h1⟩ := withG_some h1
  cases r1
  cases c with
  | lst ds =>
    obtain ⟨_, _, _, vs, hH, rl⟩ := R1.gh.at_ i r gs eg _ (lkG_mem el)
    refine ⟨.inl ⟨rfl, _, SqL.of hH⟩, ?_⟩
    refine h B σ H1 ρ n1 G1 α _ _ _ hK R1 (L.xl R1) h1 fun v H2 G2 d n2 s2 j2 r2 hq => ?_
    have R2 := R1.step s2 j2
    obtain ⟨_, _, _, vs', hH', rl'⟩ := R2.gh.at_ i r gs eg _ (lkG_mem el)
    refine ⟨b, vs', v, rfl, rfl, hH', by rw [sizeLine_eq, ← rl'.length]; exact hq.1, ?_⟩
    exact L.nx σ _ _ n2 G2 α (R2.writeG (d' := .lst (ds ++ [d])) (o := .lst (vs' ++ [v])) eg (lkG_mem el) ⟨_, upd_same, rl'.snoc (hK ▸ r2)⟩) hq.2
  | _ => exact h1.elim
theorem ps_appGF (i : Nat) (ho : PD X W o δo) (he : PF X W e δ) (hst : starEach [e] X.env = [(false, eval e X.env)] := by rfl)
    (hbase : attributeBase o "append" X.env (eval o X.env) = eval o X.env := by rfl)
    (hfew : ((backTo cpos (starEach [e] X.env)).all (fun x => !x.1) && (backToKw cpos (keywordEach [] X.env)).all (fun x => x.1.isSome)
      && decide ([e].length + ([] : List Keyword).length + (if ([] : List Keyword).isEmpty then 0 else 1) < 30)) = true := by rfl)
    (hline : (apos.endLine == cpos.line) = true := by rfl) (hplain : (backTo cpos (starEach [] X.env)).any (·.1) = false := by rfl)
    (hsw : swapsWith (.Call (.Attribute o "append" apos) [e] [] cpos) none pos.line X.env = pure false := by rfl) : PSD X W (.Expr (.Call (.Attribute o "append" apos) [e] [] cpos) pos) (dAppGF i δo δ) := by
  obtain ⟨to, po, eo⟩ := ho
  obtain ⟨t, p, h⟩ := he
  refine ⟨_, ps_expr (pe_bm PySem.F.plainAttrs_list PySem.F.slot_list_append PySem.F.type_list_append mt_append po (pa_cons p pa_nil hst) hbase hfew hline hst hplain) hsw, fun B σ H ρ n G α D E hK R L hd => ?_⟩
  refine eo B σ H ρ n G α _ _ _ hK R (L.xl R) hd fun v H1 G1 d n1 s1 j1 r1 h1 => ?_
  have R1 := R.step s1 j1
  obtain ⟨b, r, gs, c, rfl, eg, el, h1⟩ := withG_some h1
  cases r1
  cases c with
  | lst ds =>
    obtain ⟨_, _, _, vs, hH, rl⟩ := R1.gh.at_ i r gs eg _ (lkG_mem el)
    refine ⟨.inl ⟨rfl, _, SqL.of hH⟩, ?_⟩
    refine h B σ H1 ρ n1 G1 α _ _ _ hK R1 (L.xl R1) h1 fun b' H2 G2 d n2 s2 j2 np ng nr od hq => ?_
    have R2 := R1.step s2 j2
    obtain ⟨fr, R3⟩ := R1.addG R2 eg np ng nr (hK ▸ od)
    obtain ⟨_, _, _, vs', hH', rl'⟩ := R2.gh.at_ i r gs eg _ (lkG_mem el)
    refine ⟨b, vs', .ref b', rfl, rfl, hH', by rw [sizeLine_eq, ← rl'.length]; exact hq.1, ?_⟩
    have il : i < ρ.length := (List.getElem?_eq_some_iff.mp eg).1
    have R4 := R3.writeG (i := i) (r := r) (b := b) (d := .lst ds) (d' := .lst (ds ++ [.hnd b'])) (o := .lst (vs' ++ [.ref b'])) (by rw [List.getElem?_set_self il]) (List.mem_append_left _ (lkG_mem el)) ⟨_, upd_same, rl'.snoc (.hnd b')⟩
    rw [List.set_set] at R4
    exact L.nx σ _ _ n2 G2 α R4 (hq.2 b' fr)
  | _ => exact h1.elim
end
def dOG (i : Nat) (a : DS) : DS := fun E ρ n => match ρ[i]? with
  | some (some (.own d)) => ∀ b, a E (ρ.set i (some (.gst (.hnd b) [(b, d)]))) n
  | _ => False
def dGO (i : Nat) (a : DS) : DS := fun E ρ n => match ρ[i]? with
  | some (some (.gst (.hnd b) [(b', d)])) => b = b' ∧ a E (ρ.set i (some (.own d))) n
  | _ => False
section
variable {B : Bs} {σ : L2.St} {H : Hp} {ρ : DL.Env} {n : Nat} {G : Hp} {α : Nat → Addr}
theorem set_same {σ : L2.St} {i : Nat} {v : V} (h : σ[i]? = some (some v)) : σ.set i (some v) = σ := by
  refine List.ext_getElem? fun j => ?_
  rw [List.getElem?_set]
  by_cases z : i = j
  · subst z
    rw [if_pos rfl, if_pos (List.getElem?_eq_some_iff.mp h).1, h]
  · rw [if_neg z]
theorem RelB.growG (R : RelB B σ H ρ n G α) {i : Nat} {r : D} {gs : List (Addr × D)} (h : ρ[i]? = some (some (.gst r gs))) {H1 G' : Hp} (le : Le G G') (leH : Le G' H1) (off : ∀ b, b ∉ gs.map (·.1) → G' b = G b) (offH : ∀ b, b ∉ gs.map (·.1) → H1 b = H b) : RelB B σ H1 (ρ.set i none) n G' α := by
  have mem : ∀ {b : Addr}, b ∈ gs.map (·.1) → B.H0 b = none ∧ ¬ B.W.rg b ∧ ∀ e, H b ≠ some (.ext e) := fun {b} hb => by
    obtain ⟨g, hm, rfl⟩ := List.mem_map.mp hb
    obtain ⟨_, h2, h3, h4⟩ := R.gh.at_ i r gs h g hm
    exact ⟨h2, h3, fun e z => h4.noExt z⟩
  have back : ∀ {j : Nat} {s : Sl}, (ρ.set i none)[j]? = some (some s) → j ≠ i ∧ ρ[j]? = some (some s) := fun {j s} hj => by
    rcases get_set_sl hj with ⟨_, z⟩ | ⟨z, e⟩
    · exact nomatch z
    · exact ⟨Ne.symm z, e⟩
  refine ⟨⟨fun a o e nr => ?_, R.st.le.trans le, leH, fun a e => ?_⟩, fun a hr => ?_, B.W.stable n H _ (fun a hr => offH a fun z => (mem z).2.1 hr) (fun b e q => (offH b fun z => (mem z).2.2 e q).trans q) R.J, by rw [List.length_set, R.len], fun j e hj => ?_, fun j e hj => ?_, fun j k e f hj hk => R.inj j k e f (back hj).2 (back hk).2, fun a e hs hj => R.p0 a e hs (back hj).2,
    R.gh.of rfl rfl rfl rfl (fun j r gs e => ⟨(back e).2, fun _ q => q⟩) (fun j e q => .inl ⟨e, (back q).2, rfl⟩) (fun j r' gs' e g hm h1 _ _ => ?_) le⟩
  · rw [offH a fun z => by rw [(mem z).1] at e; cases e]
    exact R.st.fr a o e nr
  · by_cases z : a ∈ gs.map (·.1)
    · exact .inr ⟨(mem z).1, (mem z).2.1⟩
    · rw [off a z] at e
      exact R.st.new a e
  · rw [off a fun z => (mem z).2.1 hr]
    exact R.rg a hr
  · obtain ⟨v, h1, h2⟩ := R.val j e (back hj).2
    exact ⟨v, h1, h2.mono le⟩
  · obtain ⟨h1, h2, h3, h4, h5⟩ := R.own j e (back hj).2
    have ni : α j ∉ gs.map (·.1) := fun z => by
      obtain ⟨g, hm, eq⟩ := List.mem_map.mp z
      exact R.gh.off i j r gs e h (back hj).2 g hm eq
    exact ⟨h1, (off _ ni).trans h2, h3, h4, h5.mono le fun o q => (offH _ ni).trans q⟩
  · have ni : g.1 ∉ gs.map (·.1) := fun z => by
      obtain ⟨u, hu, eq⟩ := List.mem_map.mp z
      exact R.gh.sep i j r r' gs gs' h (back e).2 (Ne.symm (back e).1) u hu g hm eq
    exact ⟨(off _ ni).trans h1, fun o q => (offH _ ni).trans q⟩
end
section
variable {X : Cx} {W : WX} {sts : List Stmt} {a : DS}
end
mutual
inductive Up (m : List (Addr × D)) : D → D → Prop where
  | refl (d : D) : Up m d d
  | hnd {b : Addr} {c : D} : (b, c) ∈ m → Up m (.hnd b) c
  | lst {ds es : List D} : UpL m ds es → Up m (.lst ds) (.lst es)
  | tup {ds es : List D} : UpL m ds es → Up m (.tup ds) (.tup es)
  | obj {c : Str} {fs gs : List (Str × D)} : UpF m fs gs → Up m (.obj c fs) (.obj c gs)
  | dct {fs gs : List (Key × D)} : UpK m fs gs → Up m (.dct fs) (.dct gs)
inductive UpL (m : List (Addr × D)) : List D → List D → Prop where
  | nil : UpL m [] []
  | cons {d e : D} {ds es : List D} : Up m d e → UpL m ds es → UpL m (d :: ds) (e :: es)
inductive UpF (m : List (Addr × D)) : List (Str × D) → List (Str × D) → Prop where
  | nil : UpF m [] []
  | cons {k : Str} {d e : D} {ds es : List (Str × D)} : Up m d e → UpF m ds es → UpF m ((k, d) :: ds) ((k, e) :: es)
inductive UpK (m : List (Addr × D)) : List (Key × D) → List (Key × D) → Prop where
  | nil : UpK m [] []
  | cons {k : Key} {d e : D} {ds es : List (Key × D)} : Up m d e → UpK m ds es → UpK m ((k, d) :: ds) ((k, e) :: es)
end
section
variable {K : PySem.W.Frag} {G H : Hp} {m : List (Addr × D)}
mutual
theorem Rep.up (hm : ∀ p ∈ m, Rep K G p.2 (.ref p.1)) : ∀ {d e : D} {v : V}, Up m d e → Rep K G d v → Rep K G e v
  | _, _, _, .refl _, r => r
  | _, _, _, .hnd h, .hnd _ => hm _ h
  | _, _, _, .lst h, .lst q r => .lst q (RepL.up hm h r)
  | _, _, _, .tup h, .tup q r => .tup q (RepL.up hm h r)
  | _, _, _, .obj h, .obj q r => .obj q (RepF.up hm h r)
  | _, _, _, .dct h, .dct q r => .dct q (RepK.up hm h r)
theorem RepL.up (hm : ∀ p ∈ m, Rep K G p.2 (.ref p.1)) : ∀ {d e : List D} {v : List V}, UpL m d e → RepL K G d v → RepL K G e v
  | _, _, _, .nil, .nil => .nil
  | _, _, _, .cons h t, .cons r s => .cons (Rep.up hm h r) (RepL.up hm t s)
theorem RepF.up (hm : ∀ p ∈ m, Rep K G p.2 (.ref p.1)) : ∀ {d e : List (Str × D)} {v : List (Str × V)}, UpF m d e → RepF K G d v → RepF K G e v
  | _, _, _, .nil, .nil => .nil
  | _, _, _, .cons h t, .cons r s => .cons (Rep.up hm h r) (RepF.up hm t s)
theorem RepK.up (hm : ∀ p ∈ m, Rep K G p.2 (.ref p.1)) : ∀ {d e : List (Key × D)} {v : List (Key × V)}, UpK m d e → RepK K G d v → RepK K G e v
  | _, _, _, .nil, .nil => .nil
  | _, _, _, .cons h t, .cons r s => .cons (Rep.up hm h r) (RepK.up hm t s)
end
theorem OwnAt.up (hm : ∀ p ∈ m, Rep K G p.2 (.ref p.1)) {a : Addr} {d e : D} (h : Up m d e) (o : OwnAt K G H a d) : OwnAt K G H a e := by
  cases h with
  | refl => exact o
  | hnd _ => exact o.elim
  | lst h => obtain ⟨vs, q, r⟩ := o; exact ⟨vs, q, r.up hm h⟩
  | tup h => exact o.elim
  | obj h => obtain ⟨dx, ws, q, r⟩ := o; exact ⟨dx, ws, q, r.up hm h⟩
  | dct h => obtain ⟨ws, q, r⟩ := o; exact ⟨ws, q, r.up hm h⟩
end
inductive FzA : List (Addr × D) → List D → Prop where
  | nil : FzA [] []
  | cons {b : Addr} {c e : D} {gs : List (Addr × D)} {cs : List D} : FzA gs cs → Up ((gs.map (·.1)).zip cs) c e → (∀ kvs, e ≠ .dct kvs) → FzA ((b, c) :: gs) (e :: cs)
theorem fzA_go {K : PySem.W.Frag} {H : Hp} : ∀ {gs : List (Addr × D)} {cs : List D}, FzA gs cs → ∀ {G : Hp}, Le G H → (gs.map (·.1)).Nodup → (∀ g ∈ gs, G g.1 = none ∧ OwnAt K G H g.1 g.2) →
    ∃ G', Le G G' ∧ Le G' H ∧ (∀ b, b ∉ gs.map (·.1) → G' b = G b) ∧ ∀ p ∈ (gs.map (·.1)).zip cs, Rep K G' p.2 (.ref p.1)
  | _, _, .nil, G, le, _, _ => ⟨G, Le.refl G, le, fun _ _ => rfl, fun _ h => nomatch h⟩
  | _, _, .cons (b := b) (c := c) (e := e) (gs := gs) (cs := cs) h u nd, G, le, hn, hg => by
    rw [List.map_cons, List.nodup_cons] at hn
    obtain ⟨G1, l1, l2, off, rp⟩ := fzA_go h le hn.2 fun g hm => hg g (List.mem_cons_of_mem _ hm)
    obtain ⟨g0, o⟩ := hg (b, c) (List.mem_cons_self ..)
    have g1 : G1 b = none := (off b hn.1).trans g0
    obtain ⟨ob, _, k1, k2, r⟩ := DL.freezeL l2 g1 ((o.mono l1 fun _ q => q).up rp u) nd
    refine ⟨upd G1 b ob, l1.trans k2, k1, fun x hx => ?_, fun p hp => ?_⟩
    · rw [List.map_cons, List.mem_cons, not_or] at hx
      rw [upd_ne hx.1]
      exact off x hx.2
    · rw [List.map_cons, List.zip_cons_cons] at hp
      rcases List.mem_cons.mp hp with rfl | hp
      · exact r
      · exact (rp p hp).mono k2
def dFrzR (i : Nat) (a : DS) : DS := fun E ρ n => match ρ[i]? with
  | some (some (.gst (.hnd b) ((b', c) :: gs))) => b = b' ∧ (∀ kvs, c ≠ .dct kvs) ∧ a E (ρ.set i (some (.gst c gs))) n
  | _ => False
inductive UpG (m : List (Addr × D)) : List (Addr × D) → List (Addr × D) → Prop where
  | nil : UpG m [] []
  | cons {b : Addr} {c e : D} {gs hs : List (Addr × D)} : Up m c e → UpG m gs hs → UpG m ((b, c) :: gs) ((b, e) :: hs)
theorem UpG.fst {m : List (Addr × D)} : ∀ {gs hs : List (Addr × D)}, UpG m gs hs → hs.map (·.1) = gs.map (·.1)
  | _, _, .nil => rfl
  | _, _, .cons _ t => by rw [List.map_cons, List.map_cons, t.fst]
theorem UpG.mem {m : List (Addr × D)} : ∀ {gs hs : List (Addr × D)}, UpG m gs hs → ∀ g ∈ hs, ∃ c, (g.1, c) ∈ gs ∧ Up m c g.2
  | _, _, .nil, _, h => nomatch h
  | _, _, .cons (b := b) (c := c) u t, g, h => by
    rcases List.mem_cons.mp h with rfl | h
    · exact ⟨c, List.mem_cons_self .., u⟩
    · obtain ⟨c', h1, h2⟩ := t.mem g h
      exact ⟨c', List.mem_cons_of_mem _ h1, h2⟩
section
variable {X : Cx} {W : WX} {sts : List Stmt} {a : DS}
theorem pss_frzR (i : Nat) (h : PSsD X W sts a) (i0 : i ≠ 0 := by decide) : PSsD X W sts (dFrzR i a) := by
  obtain ⟨t, p, h⟩ := h
  refine ⟨t, p, fun B σ H ρ n G α D E hK R L hd => ?_⟩
  unfold dFrzR at hd
  split at hd
  · rename_i b b' c gs e
    obtain ⟨rfl, nk, hd⟩ := hd
    obtain ⟨⟨v, hv, hr⟩, nd⟩ := R.gh.gst i _ _ e
    cases hr
    rw [List.map_cons, List.nodup_cons] at nd
    obtain ⟨g0, h0, nr, o⟩ := R.gh.at_ i _ _ e _ (List.mem_cons_self ..)
    obtain ⟨ob, _, l1, l2, rp⟩ := DL.freezeL R.le g0 o nk
    have R1 := R.growG e (G' := upd G b ob) l2 l1 (fun x hx => upd_ne fun z => hx (z ▸ List.mem_cons_self ..)) fun _ _ => rfl
    have back : ∀ {j : Nat} {s : Sl}, (ρ.set i none)[j]? = some (some s) → j ≠ i ∧ ρ[j]? = some (some s) := fun {j s} hj => by
      rcases get_set_sl hj with ⟨_, z⟩ | ⟨z, e⟩
      · exact nomatch z
      · exact ⟨Ne.symm z, e⟩
    have R2 := R1.putG i (r := c) (gs := gs) hv rp nd.2 (fun g hm => ?_) (fun j d _ hj g hm => ?_) (fun j r1 g1 _ hj g hm g' hm' => ?_) fun a ha z => (i0 z).elim
    · rw [List.set_set] at R2
      exact h B σ H _ n _ α D E hK R2 L hd
    · obtain ⟨k1, k2, k3, k4⟩ := R.gh.at_ i _ _ e g (List.mem_cons_of_mem _ hm)
      have ne : g.1 ≠ b := fun z => nd.1 (z ▸ List.mem_map.mpr ⟨g, hm, rfl⟩)
      exact ⟨by rw [upd_ne ne]; exact k1, k2, k3, k4.mono l2 fun _ q => q⟩
    · exact R.gh.off i j _ _ d e (back hj).2 g (List.mem_cons_of_mem _ hm)
    · exact R.gh.sep i j _ r1 _ g1 e (back hj).2 (Ne.symm (back hj).1) g (List.mem_cons_of_mem _ hm) g' hm'
  · exact hd.elim
end
end DL

end

section
set_option autoImplicit false
namespace DL
open PySem PySem.Spec PyProof PyProof.Rows L2
def fDivmod : FL := fun ds k => match ds with
  | [.int i, .int j] => CDiv i j ∧ k (.tup [.int (i / j), .int (i % j)])
  | _ => False
def pickI (n : Nat) (z : Int) : List Nat := sliceRange 0 (n : Int) z
def pickX {α : Type} (xs : List α) (z : Int) : List α := (pickI xs.length z).filterMap (xs[·]?)
def dStep (δ δk : DE) : DE := fun x ρ n q => δ x ρ n fun d n1 => match d with
  | .lst ds => δk x ρ n1 fun k n2 => (match k with
    | .int z => 0 < z ∧ q (.lst (pickX ds z)) n2
    | _ => False)
  | _ => False
end DL

end

section
set_option autoImplicit false
namespace DL
open PySem PySem.Spec L2
def tLockK : Nat → TE → TE
  | 0, t => t
  | k + 1, t => tLockK k (tLockE t)
def tLockN (t : TE) : TE := fun σ H Q => ∃ k : Nat, tLockK k t σ H Q
theorem pe_lockN {X : Cx} {e : Expr} {t : TE} (h : PE X e t) : PE X e (tLockN t) := by
  have go : ∀ (k : Nat) (t : TE), PE X e t → PE X e (tLockK k t) := fun k => by
    induction k with
    | zero => exact fun _ h => h
    | succ k ih => exact fun _ h => ih _ (pe_lock h)
  exact ⟨fun pins s σ H Q I ⟨k, hk⟩ => (go k t h).run pins s σ H Q I hk⟩
inductive RoA : List (Addr × D) → List D → Prop where
  | nil : RoA [] []
  | cons {b : Addr} {ds es : List D} {gs : List (Addr × D)} {cs : List D} : RoA gs cs → UpL ((gs.map (·.1)).zip cs) ds es → RoA ((b, .lst ds) :: gs) (.rol es :: cs)
def delL (G : Hp) : List Addr → Hp
  | [] => G
  | b :: bs => delG (delL G bs) b
theorem delL_mem {G : Hp} : ∀ {bs : List Addr} {b : Addr}, b ∈ bs → delL G bs b = none
  | c :: bs, b, h => by
    show delG (delL G bs) c b = none
    by_cases z : b = c
    · rw [z, delG_same]
    · rw [delG_ne z]
      rcases List.mem_cons.mp h with q | q
      · exact (z q).elim
      · exact delL_mem q
theorem delL_off {G : Hp} : ∀ {bs : List Addr} {b : Addr}, b ∉ bs → delL G bs b = G b
  | [], _, _ => rfl
  | c :: bs, b, h => by
    rw [List.mem_cons, not_or] at h
    show delG (delL G bs) c b = G b
    rw [delG_ne h.1]
    exact delL_off h.2
theorem rep_delL {K : PySem.W.Frag} {G : Hp} {d : D} {v : V} (hd : nrD d = true) (r : Rep K G d v) : ∀ {bs : List Addr}, bs.Nodup → (∀ b ∈ bs, ∃ od vs, G b = some (.frz od (.lst vs))) → Rep K (delL G bs) d v
  | [], _, _ => r
  | b :: bs, hn, h => by
    rw [List.nodup_cons] at hn
    obtain ⟨od, vs, e⟩ := h b (List.mem_cons_self ..)
    exact Rep.nr ((delL_off hn.1).trans e) hd (rep_delL hd r hn.2 fun c hc => h c (List.mem_cons_of_mem _ hc))
theorem lockN_go {K : PySem.W.Frag} {σ : L2.St} {H : Hp} : ∀ {gs : List (Addr × D)} {cs : List D}, RoA gs cs → ∀ {G : Hp} {t : TE} {Q : VK}, Le G H → (gs.map (·.1)).Nodup → (∀ g ∈ gs, G g.1 = none ∧ OwnAt K G H g.1 g.2) →
    (∀ H1 G', Le G G' → Le G' H1 → (∀ b, b ∉ gs.map (·.1) → G' b = G b) → (∀ b, b ∉ gs.map (·.1) → H1 b = H b) → (∀ p ∈ (gs.map (·.1)).zip cs, Rep K G' p.2 (.ref p.1)) → (∀ b ∈ gs.map (·.1), ∃ od vs, G' b = some (.frz od (.lst vs)) ∧ H b = some (.lst vs)) →
      ∀ Q' : VK, (∀ v H', (∀ b ∈ gs.map (·.1), H' b = H1 b) → (∀ H'', (∀ b, b ∉ gs.map (·.1) → H'' b = H' b) → (∀ b ∈ gs.map (·.1), H'' b = H b) → Q v H'') → Q' v H') → t σ H1 Q') →
    tLockK gs.length t σ H Q
  | _, _, .nil, G, t, Q, le, _, _, k => by
    refine k H G (Le.refl G) le (fun _ _ => rfl) (fun _ _ => rfl) (fun _ h => nomatch h) (fun _ h => nomatch h) Q fun v H' _ h => ?_
    exact h H' (fun _ _ => rfl) fun _ h => nomatch h
  | _, _, .cons (b := b) (ds := ds) (es := es) (gs := gs) (cs := cs) h u, G, t, Q, le, hn, hg, k => by
    rw [List.map_cons, List.nodup_cons] at hn
    refine lockN_go h (G := G) (t := tLockE t) (Q := Q) le hn.2 (fun g hm => hg g (List.mem_cons_of_mem _ hm)) fun H1 G1 l1 l2 off offH rp fz Q1 hQ1 => ?_
    obtain ⟨g0, vs, hH, rl⟩ := hg (b, .lst ds) (List.mem_cons_self ..)
    have hH1 : H1 b = some (.lst vs) := (offH b hn.1).trans hH
    have g1 : G1 b = none := (off b hn.1).trans g0
    refine ⟨b, .lst vs, hH1, trivial, fun od => ?_⟩
    have le1 : Le G1 (upd G1 b (.frz od (.lst vs))) := .of_same fun c o q => by rw [upd_ne (ne_of_none q g1)]; exact q
    refine k _ (upd G1 b (.frz od (.lst vs))) (l1.trans le1) (fun c o q => ?_) (fun c hc => ?_) (fun c hc => ?_) (fun p hp => ?_) (fun c hc => ?_) _ fun v H' h1 h2 => ?_
    · by_cases z : c = b
      · subst z
        rw [upd_same] at q ⊢
        exact ⟨_, q, rfl⟩
      · rw [upd_ne z] at q ⊢
        exact l2 c o q
    · rw [List.map_cons, List.mem_cons, not_or] at hc
      rw [upd_ne hc.1]
      exact off c hc.2
    · rw [List.map_cons, List.mem_cons, not_or] at hc
      rw [upd_ne hc.1]
      exact offH c hc.2
    · rw [List.map_cons, List.zip_cons_cons] at hp
      rcases List.mem_cons.mp hp with rfl | hp
      · exact .rol upd_same ((rl.mono (l1.trans le1)).up (fun p hp => (rp p hp).mono le1) u)
      · exact (rp p hp).mono le1
    · by_cases z : c = b
      · subst z
        exact ⟨od, vs, upd_same, hH⟩
      · rw [List.map_cons, List.mem_cons] at hc
        obtain ⟨o2, v2, e1, e2⟩ := fz c (hc.resolve_left z)
        exact ⟨o2, v2, by rw [upd_ne z]; exact e1, e2⟩
    · have hb : H' b = some (.frz od (.lst vs)) := by rw [h1 b (List.mem_cons_self ..), upd_same]
      refine ⟨hb, hQ1 v _ (fun c hc => ?_) fun H'' k1 k2 => ?_⟩
      · have z : c ≠ b := fun z => hn.1 (z ▸ hc)
        rw [upd_ne z, h1 c (List.mem_cons_of_mem _ hc), upd_ne z]
      · refine h2 H'' (fun c hc => ?_) fun c hc => ?_
        · rw [List.map_cons, List.mem_cons, not_or] at hc
          rw [k1 c hc.2, upd_ne hc.1]
        · rw [List.map_cons, List.mem_cons] at hc
          rcases hc with z | hc
          · rw [z, k1 b hn.1, upd_same, hH]
          · exact k2 c hc
def dLendG (i : Nat) (δ : DE) : DE := fun x ρ n q => ∃ r gs cs r', ρ[i]? = some (some (.gst r gs)) ∧ RoA gs cs ∧ Up ((gs.map (·.1)).zip cs) r r' ∧ δ (x0 x.w) (ρ.set i (some (.val r'))) n fun d n1 => nrD d = true ∧ q d n1
theorem ed_lendG {K : PySem.W.Frag} {W : WX} {t : TE} {δ : DE} (h : ED K W t δ) (i : Nat) : ED K W (tLockN t) (dLendG i δ) := by
  intro B σ H ρ n G α Q x q hK R hx hd k
  obtain ⟨r, gs, cs, r', eg, ro, up, hd⟩ := hd
  obtain ⟨⟨v0, hv0, hr⟩, nd⟩ := R.gh.gst i r gs eg
  have at_ := R.gh.at_ i r gs eg
  refine ⟨gs.length, lockN_go (K := B.K) (G := G) ro R.le nd (fun g hm => ⟨(at_ g hm).1, (at_ g hm).2.2.2⟩) fun H1 G' le leH off offH rp fz Q' hQ' => ?_⟩
  have R1 := (R.growG eg le leH off offH).set i (Rep.up rp up (hr.mono le))
  rw [set_same hv0, List.set_set] at R1
  refine h B σ H1 _ n G' α _ _ _ hK R1 (by rw [hx.1]; exact xl0) hd fun v H2 G2 d n1 s1 j1 r1 h1 => ?_
  obtain ⟨hnr, h1⟩ := h1
  have fz2 : ∀ b ∈ gs.map (·.1), ∃ od vs, G2 b = some (.frz od (.lst vs)) := fun b hb => by
    obtain ⟨od, vs, e, _⟩ := fz b hb
    exact ⟨od, vs, s1.le.get e⟩
  have g0 : ∀ b ∈ gs.map (·.1), G b = none ∧ ¬ B.W.rg b := fun b hb => by
    obtain ⟨g, hm, rfl⟩ := List.mem_map.mp hb
    exact ⟨(at_ g hm).1, (at_ g hm).2.2.1⟩
  refine hQ' v H2 (fun b hb => ?_) fun H3 e1 e2 => ?_
  · obtain ⟨od, vs, e, _⟩ := fz b hb
    rw [s1.hh.get (s1.le.get e), leH.get e]
  · have s2 : Step B.W H G H3 (delL G2 (gs.map (·.1))) := by
      refine ⟨fun b o e r => ?_, fun b o e => ?_, fun b o e => ?_, fun b e => ?_⟩
      · by_cases z : b ∈ gs.map (·.1)
        · rw [e2 b z]; exact e
        · rw [e1 b z]
          exact s1.fr b o (by rw [offH b z]; exact e) r
      · have z : b ∉ gs.map (·.1) := fun z => by rw [(g0 b z).1] at e; cases e
        obtain ⟨o', e', c⟩ := (le.trans s1.le) b o e
        exact ⟨o', (delL_off z).trans e', c⟩
      · by_cases z : b ∈ gs.map (·.1)
        · rw [delL_mem z] at e; cases e
        · rw [delL_off z] at e
          obtain ⟨o', e', c⟩ := s1.hh b o e
          exact ⟨o', (e1 b z).trans e', c⟩
      · by_cases z : b ∈ gs.map (·.1)
        · rw [delL_mem z] at e; exact (e rfl).elim
        · rw [delL_off z] at e
          rcases s1.new b e with q | ⟨q, r⟩
          · rw [off b z] at q; exact .inl q
          · rw [offH b z] at q; exact .inr ⟨q, r⟩
    have j2 : B.W.J n1 H3 := B.W.stable n1 H2 _ (fun b hb => e1 b fun z => (g0 b z).2 hb) (fun b e q => (e1 b fun z => by
      obtain ⟨od, vs, f⟩ := fz2 b z
      rw [s1.hh.get f] at q; cases q).trans q) j1
    exact k v _ _ d n1 s2 j2 (hK ▸ rep_delL hnr (hK ▸ r1) nd fz2) h1
section
variable {X : Cx} {W : WX} {e : Expr} {δ : DE}
theorem pd_lendG (i : Nat) (he : PD X W e δ) : PD X W e (dLendG i δ) := by
  obtain ⟨t, p, h⟩ := he
  exact ⟨_, pe_lockN p, ed_lendG h i⟩
end
def slDG (δ : DSl) : DE := fun x ρ n q => δ x ρ n fun sl n1 => match sl with
  | .val d => q d n1
  | .own d => q d n1
  | .gst r gs => ∃ cs r', FzA gs cs ∧ Up ((gs.map (·.1)).zip cs) r r' ∧ q r' n1
section
variable {X : Cx} {W : WX} {e : Expr} {δ : DSl}
theorem PSl.pdG (h : PSl X W e δ) : PD X W e (slDG δ) := by
  obtain ⟨t, p, h⟩ := h
  refine ⟨_, pe_lk p, fun B σ H ρ n G α Q x q hK R hx hd kk => h B σ H ρ n G α _ x _ hK R hx hd fun v H' G' sl n' s j r hq => ?_⟩
  cases sl with
  | val d => exact .inl (kk v H' G' d n' s j r hq)
  | own d =>
    obtain ⟨a, rfl, np, ng, nr, o⟩ := r
    refine freeze s.hh ng o fun H1 ob e off l1 l2 r => ?_
    exact kk _ H1 (upd G' a ob) d n' (s.frozen np nr off l1 l2) (B.W.stable _ _ _ (fun b hb => off b fun z => nr (z ▸ hb)) (fun b e q => (off b fun z => o.noExt (z ▸ q)).trans q) j) r hq
  | gst r gs =>
    obtain ⟨cs, r', fz, up, hq⟩ := hq
    obtain ⟨hr, nd, hg⟩ := r
    obtain ⟨G2, le, leH, off, rp⟩ := fzA_go (K := X.K) fz s.hh nd fun g hm => ⟨(hg g hm).2.1, (hg g hm).2.2.2⟩
    refine .inl (kk v H' G2 r' n' ⟨s.fr, s.le.trans le, leH, fun b e => ?_⟩ j ((hr.mono le).up rp up) hq)
    by_cases z : b ∈ gs.map (·.1)
    · obtain ⟨g, hm, rfl⟩ := List.mem_map.mp z
      exact .inr ⟨(hg g hm).1, (hg g hm).2.2.1⟩
    · rw [off b z] at e
      exact s.new b e
end
theorem dLendG_at {i : Nat} {δ : DE} {x : DX} {ρ : DL.Env} {n : Nat} {q : DQ} {r r' : D} {gs : List (Addr × D)} {cs : List D} (h : ρ[i]? = some (some (.gst r gs))) (ro : RoA gs cs) (up : Up ((gs.map (·.1)).zip cs) r r') (k : δ (x0 x.w) (ρ.set i (some (.val r'))) n fun d n1 => nrD d = true ∧ q d n1) : dLendG i δ x ρ n q := ⟨r, gs, cs, r', h, ro, up, k⟩
section
variable {X : Cx} {W : WX} {elt tg iter : Expr} {ifs : List Expr} {scope : Scope} {pos spos py : Pos} {ι : DI} {γ : DG} {τ : DT} {δ : DE} {sl : List Nat} {y : Str}
end
end DL

end

section
set_option autoImplicit false
namespace DL
open PySem PySem.Spec PyProof.Rows L2 LamX
inductive HV where
  | con (v : V)
  | fld (f : Str)
def valT (K : PySem.W.Frag) (c : Str) (cls : Value) (dd : Option Addr) (H : Hp) : HV → V → Prop
  | .con v0, v => v = v0
  | .fld f, v => cls = .ref (ca K c) ∧ ∃ (d0 : Addr) (ws : List (Str × V)), dd = some d0 ∧ H d0 = some (.xd ws) ∧ ws.lookup f = some v
def CatchT (K : PySem.W.Frag) (cls : Value) (dd : Option Addr) (H : Hp) : List (Str × Str × HV) → VK → Prop
  | [], _ => False
  | (c, s, p) :: l, k => ∃ b, PySem.W.exmOne K cls (.ref (ca K c)) = some b ∧ (b = true → ∃ v, valT K c cls dd H p v ∧ ∀ q, H q = none → k (.ref q) (upd H q (.tup [.str s, v]))) ∧ (b = false → CatchT K cls dd H l k)
theorem CatchT.imp {K : PySem.W.Frag} {cls : Value} {dd : Option Addr} {H : Hp} {k k' : VK} (h : ∀ v H', k v H' → k' v H') : ∀ {l : List (Str × Str × HV)}, CatchT K cls dd H l k → CatchT K cls dd H l k'
  | [], z => z.elim
  | (c, s, p) :: l, ⟨b, e, h1, h2⟩ => ⟨b, e, fun hb => (h1 hb).imp fun v z => ⟨z.1, fun q nq => h _ _ (z.2 q nq)⟩, fun hb => CatchT.imp h (h2 hb)⟩
def tPair (a b : TE) : TE := tTup (tCons a (tCons b tNil))
inductive HdsT (K : PySem.W.Frag) (z : Str) (j : Nat) (y : Str) : List ExceptHandler → List (Str × Str × HV) → Prop
  | nil : HdsT K z j y [] []
  | con {c s : Str} {e : Expr} {v : V} {k0 x1 : Nat} {np p1 p2 p3 p5 p6 : Pos} {hds : List ExceptHandler} {l : List (Str × Str × HV)} (he : ∀ Y : Cx, PE Y e (tC v)) (hst : ∀ Y : Cx, starEach [e] Y.env = (false, eval e Y.env) :: starEach [] Y.env) (r : HdsT K z j y hds l) :
      HdsT K z j y (.ExceptHandler (some (.Name c np)) none [.Assign [.Name z p1] (.Tuple [.Constant (.str s) k0 p2, e] x1 p3) p5] p6 :: hds) ((c, s, .con v) :: l)
  | fld {c s f : Str} {k0 x1 : Nat} {np p1 p2 p3 p4 p5 p6 p7 : Pos} {hds : List ExceptHandler} {l : List (Str × Str × HV)} (T : XfC K (ca K c)) (hno : PySem.W.findIn K (.ref (ca K c)) f = some none) (r : HdsT K z j y hds l) :
      HdsT K z j y (.ExceptHandler (some (.Name c np)) (some y) [.Assign [.Name z p1] (.Tuple [.Constant (.str s) k0 p2, .Attribute (.Name y p3) f p4] x1 p7) p5] p6 :: hds) ((c, s, .fld f) :: l)
def clT (K : PySem.W.Frag) (i j : Nat) : Str × Str × HV → Cl3
  | (c, s, .con v) => (.ref (ca K c), none, fun _ _ _ => tAsg (tPair (tC (.str s)) (tC v)) (gName i))
  | (c, s, .fld f) => (.ref (ca K c), some j, fun a cl d => tAsg (tPair (tC (.str s)) (tXf a cl d (ca K c) f (tVar j))) (gName i))
section
variable {X : Cx}
theorem HdsT.ok {z y : Str} {i j : Nat} {hds : List ExceptHandler} {l : List (Str × Str × HV)} (h : HdsT X.K z j y hds l) (hN : X.N.Nodup) (hi : X.N[i]? = some z) (hx : X.env.scope.names.lookup z = some .local) (hj : X.env.kindOf y = some .local ∨ ∀ q ∈ l, ∀ f, q.2.2 ≠ .fld f) (hjN : X.N[j]? = some y ∨ ∀ q ∈ l, ∀ f, q.2.2 ≠ .fld f) (hjv : X.env.scope.names.lookup y = some .local ∨ ∀ q ∈ l, ∀ f, q.2.2 ≠ .fld f) (hyd : (y == ("__debug__" : Str)) = false) (hyc : (y == ("__classdict__" : Str)) = false)
    (hn : ∀ q ∈ l, Names X q.1 (.ref (ca X.K q.1))) : ClsA X hds (l.map (clT X.K i j)) := by
  induction h with
  | nil => exact .nil
  | @con c s e v k0 x1 np p1 p2 p3 p5 p6 hds l he hst r ih =>
    have nx : ∀ {A : Prop}, (A ∨ ∀ q ∈ (c, s, HV.con v) :: l, ∀ f, q.2.2 ≠ HV.fld f) → A ∨ ∀ q ∈ l, ∀ f, q.2.2 ≠ HV.fld f := fun {A} h => h.imp_right fun h q hq => h q (List.mem_cons_of_mem _ hq)
    exact .plain (hn _ List.mem_cons_self) (fun a ob cl d pn _ _ => pss_one (ps_set hN hi (.inl hx) (pe_tup (pa_cons pe_str (pa_cons (he _) pa_nil (hst _)))) (hf := .inr hx))) (ih (nx hj) (nx hjN) (nx hjv) fun q hq => hn q (List.mem_cons_of_mem _ hq))
  | @fld c s f k0 x1 np p1 p2 p3 p4 p5 p6 p7 hds l T hno r ih =>
    have nx : ∀ {A : Prop}, (A ∨ ∀ q ∈ (c, s, HV.fld f) :: l, ∀ f, q.2.2 ≠ HV.fld f) → A ∨ ∀ q ∈ l, ∀ f, q.2.2 ≠ HV.fld f := fun {A} h => h.imp_right fun h q hq => h q (List.mem_cons_of_mem _ hq)
    have at_ : ∀ {A : Prop}, (A ∨ ∀ q ∈ (c, s, HV.fld f) :: l, ∀ f, q.2.2 ≠ HV.fld f) → A := fun {A} h => h.elim id fun h => absurd rfl (h _ List.mem_cons_self f)
    exact .named hN (at_ hjN) (at_ hj) (hn _ List.mem_cons_self) (fun a ob cl d pn hz hf => pss_one (ps_set hN hi (.inl hx) (pe_tup (pa_cons pe_str (pa_cons (pe_xf (X := X) T hno hz hf (pe_var (at_ hjN) (.inl (at_ hjv)) hyd hyc)) pa_nil))) (hf := .inr hx))) (ih (nx hj) (nx hjN) (nx hjv) fun q hq => hn q (List.mem_cons_of_mem _ hq))
end
inductive HD where
  | con (d : D)
  | fld (f : Str)
def catchT (sub : Str → Str → Bool) (c : Str) (fs : List (Str × D)) : List (Str × Str × HD) → (D → Prop) → Prop
  | [], _ => False
  | (c', s, .con d) :: l, k => if sub c c' = true then k (.tup [.str s, d]) else catchT sub c fs l k
  | (c', s, .fld f) :: l, k => if sub c c' = true then c = c' ∧ opt (fs.lookup f) fun d => k (.tup [.str s, d]) else catchT sub c fs l k
def dLamT (LW : Wd → Prop) (XS : List Str) (sub : Str → Str → Bool) (hs : List (Str × Str × HD)) (s0 : Str) (δ : DE) : DE := fun x ρ n q => LW x.w ∧ δ { x with ex := fun e n' => e.1 ∈ XS ∧ catchT sub e.1 e.2 hs fun d => q d n' } ρ n fun d n' => q (.tup [.str s0, d]) n'
section
variable {X : Cx} {W : WX}
end
section
variable {X : Cx} {W : WX}
def dEither (a b : DE) : DE := fun x ρ n q => a x ρ n q ∨ b x ρ n q
def dHeld (i : Nat) (f : Addr) (δ : DE) : DE := fun x ρ n q => ρ[i]? = some (some (.val (.hnd f))) ∧ δ x ρ n q
end
structure XfD (K : PySem.W.Frag) (c f : Str) : Prop where
  t : XfC K (ca K c)
  no : PySem.W.findIn K (.ref (ca K c)) f = some none
end DL

end

section
set_option autoImplicit false
namespace DL
open PySem PySem.Spec PySem.SeqAt L2
open AutoSeq1 (wpAny_loadPart')
open MeetsSeq MeetsSeq2 MeetsSeq3 SeqRoads2
section
variable {prog : Program} {w : World} {A : Around} {R : Result → Shared → Prop}
end
section
variable {prog : Program} {w : World} {A : Around} {E : Value → Shared → Prop} {s : Shared} {l m : Addr} {b : Nat → Bool} {Q : Value → Shared → Prop} {xs ys : Array Value}
end
section
variable {X : Cx} {W : WX} {Q : Str → D → D → Bool → Prop} {n0 : Nat}
variable {a b : Expr} {δa δb : DE} {pos : Pos}
def TpX (Q : Str → D → D → Bool → Prop) (us vs : List D) (r : Bool) : Prop := us.length = vs.length ∧ ∃ b : Nat → Bool, r = allB b 0 us.length ∧ ∀ i x y, us[i]? = some x → vs[i]? = some y → EqX Q 3 x y (b i)
def dEqXT (Q : Str → D → D → Bool → Prop) (neg : Bool) (a b : DE) : DE := fun x ρ n q => a x ρ n fun u n1 => b x ρ n1 fun v n2 => ∃ us vs r, u = .tup us ∧ v = .tup vs ∧ TpX Q us vs r ∧ q (.bl (r != neg)) n2
end
end DL

end

section
set_option autoImplicit false
namespace DL
open PySem PySem.Spec PyProof.Rows L2 LamX
structure FnG (P : Program) (w : World) (K : PySem.W.Frag) (mg : Str → Option Value) (base : Heap) (CX : CXT) (k : Nat) (f : Addr) (fd : FuncData) (ps : List Str) (sp : Sp) : Prop where
  many : ∀ {xs H Q E}, sp xs H Q E → xs.length = ps.length
  go : ∀ (A : Around), A.guards = some [] → Room k A → ∀ (out : List PySem.Env) (s : Shared) (H : Hp) (as : Args) (us : List Value) (xs : List V) (Q : VK) (E : XK), Env0 P w K mg base A out s H → BindsTo s fd as (ps.zip us) → Vals xs us → sp xs H Q E →
    codeAny (model P w) A (.call (.ref f) as) (CR CX out P w H s Q E) s
section
variable {P : Program} {w : World} {K : PySem.W.Frag} {mg mb : Str → Option Value} {CX : CXT} {k : Nat} {fa a : Addr} {tb : List (Addr × Addr)} {fd : FuncData} {x : Str} {sp : Sp} {s : Shared} {vs : List Value} {ns : List Int}
end
def seqLike : D → Bool
  | .lst _ => true
  | .tup _ => true
  | _ => false
def fRepr : FL := f1 fun d k => seqLike d = true ∧ SeqAt.shaped (pyD d) = true ∧ (pyD d).showable = true ∧ (pyD d).depth ≤ 40 ∧ (pyD d).shown.length ≤ 16777216 ∧ k (.str (pyD d).shown)
abbrev DSX := DEnds → Env → Nat → (D → Env → Nat → Prop) → Prop
def dSetd (i : Nat) (δk δv : DE) : DSX := fun E ρ n q => match ρ[i]? with
  | some (some (.own (.dct kvs))) => δk (E.xx ρ) ρ n fun k n1 => δv (E.xx ρ) ρ n1 fun d n2 => opt (keyD k) fun j => kvs.length < 16777216 ∧ (∀ e, getD kvs j = some e → q e ρ n2) ∧ (getD kvs j = none → q d (ρ.set i (some (.own (.dct (putD kvs j d))))) n2)
  | _ => False
def dNeX (a : DSX) (b : DE) : DSX := fun E ρ n q => a E ρ n fun x ρ1 n1 => b (E.xx ρ1) ρ1 n1 fun y n2 => fNe x y fun d => q d ρ1 n2
def dOrX (a : DSX) (b : DE) : DSX := fun E ρ n q => a E ρ n fun x ρ1 n1 => ∃ c, x = .bl c ∧ if c = true then q (.bl true) ρ1 n1 else b (E.xx ρ1) ρ1 n1 fun y n2 => q y ρ1 n2
def dSetX (j : Nat) (a : DSX) : DS := fun E ρ n => a E ρ n fun d ρ1 n1 => E.nx (ρ1.set j (some (.val d))) n1
section
variable {X : Cx} {W : WX} {a b k e : Expr} {δa : DSX} {δk δv δb : DE} {pos pos' apos cpos p2 : Pos} {x : Str}
end
end DL

end

section
set_option autoImplicit false
namespace DL
open PySem PySem.Spec PyProof.Rows L2
def flatE : D → Bool
  | .non => true
  | .bl _ => true
  | .int _ => true
  | .str _ => true
  | .dct [] => true
  | _ => false
section
variable {X : Cx} {pins : List (Addr × Obj)} {σ : L2.St} {H G : Hp} {s : Shared}
end
def ReprOk (d : D) : Prop := (seqLike d = true ∧ SeqAt.shaped (pyD d) = true) ∨ ∃ ds, d = .tup ds ∧ ds.all flatE = true
def fReprX : FL := f1 fun d k => ReprOk d ∧ (pyD d).showable = true ∧ (pyD d).depth ≤ 40 ∧ (pyD d).shown.length ≤ 16777216 ∧ k (.str (pyD d).shown)
end DL

end

section
set_option autoImplicit false
namespace DL
open PySem PySem.Spec PyProof.Rows L2
open AutoSeq1 (wpAny_loadPart')
open MeetsSeq MeetsSeq2 MeetsSeq3 SeqRoads2
section
variable {prog : Program} {w : World} {A : Around} {E : Value → Shared → Prop} {s : Shared}
end
def fEqE : F2 := fun x y k => fEq x y k ∨ (x = .dct [] ∧ (∃ i, y = .int i) ∧ k (.bl false))
def fIsnE : F2 := fun x y k => fIsB true x y k ∨ ∃ i b, x = .int i ∧ y = .bl b ∧ k (.bl true)
end DL

end

section
set_option autoImplicit false
namespace DL
open PySem PySem.Spec PyProof.Rows L2 L2H HotX
section
variable {prog : Program} {w : World} {A : Around} {s : Shared} {E : Value → Shared → Prop}
end
end DL

end

section
set_option autoImplicit false
namespace DL
open PySem PySem.Spec L2
section
variable {K : PySem.W.Frag}
end
end DL

end

section
set_option autoImplicit false
namespace DL
open PySem PySem.Spec PyProof.Rows L2
open AutoSeq1 (wpAny_loadPart')
def fNil (neg : Bool) : F2 := fun x y k => match x, y with
  | .lst ds, .lst [] => k (.bl (ds.isEmpty != neg))
  | _, _ => False
section
variable {X : Cx} {W : WX} {a b : Expr} {δa δb : DE} {pos : Pos}
end
end DL

end

section
set_option autoImplicit false
namespace DL
open PySem PySem.Spec L2
def mixD (a : Addr) : D → D
  | .non => .hnd a
  | e => e
def fstM : D → D
  | .tup [d, _] => d
  | d => d
def sndM : D → D
  | .tup [_, e] => e
  | _ => .non
def mixL : List Addr → List D → List D
  | a :: as, e :: es => mixD a (sndM e) :: mixL as es
  | _, _ => []
theorem mixL_len : ∀ {as : List Addr} {es : List D}, as.length = es.length → (mixL as es).length = es.length
  | [], [], _ => rfl
  | [], _ :: _, h => by simp at h
  | _ :: _, [], h => by simp at h
  | a :: as, e :: es, h => by
    show (mixL as es).length + 1 = es.length + 1
    rw [mixL_len (by simpa using h)]
theorem mixL_snoc (a : Addr) (e : D) : ∀ {as : List Addr} {es : List D}, as.length = es.length → mixL (as ++ [a]) (es ++ [e]) = mixL as es ++ [mixD a (sndM e)]
  | [], [], _ => rfl
  | [], _ :: _, h => by simp at h
  | _ :: _, [], h => by simp at h
  | b :: as, u :: es, h => by
    show mixD b (sndM u) :: mixL (as ++ [a]) (es ++ [e]) = mixD b (sndM u) :: (mixL as es ++ [mixD a (sndM e)])
    rw [mixL_snoc a e (by simpa using h)]
def EM (K : PySem.W.Frag) (W : WX) (t : TE) (δ : DE) : Prop :=
  ∀ (B : Bs) (σ : L2.St) (H : Hp) (ρ : DL.Env) (n : Nat) (G : Hp) (α : Nat → Addr) (Q : VK) (x : DX) (q : DQ), B.K = K → RelB B σ H ρ n G α → XL B W σ H G x → δ x ρ n q →
    (∀ v a H' G' d e n', Step B.W H G H' G' → B.W.J n' H' → H a = none → G' a = none → ¬ B.W.rg a → OwnAt K G' H' a d → Rep K G' (mixD a e) v → q (.tup [d, e]) n' → Q v H') → t σ H Q
def PM (X : Cx) (W : WX) (e : Expr) (δ : DE) : Prop := ∃ t, PE X e t ∧ EM X.K W t δ
def dLcM (ι : DI) (γ : DG) (tt : DT) (te : DE) (vs : List Nat) : DSl := fun x ρ n q => ι x ρ n fun ds n1 => lcD x.w γ tt te ds (wipeD ρ vs) n1 [] fun es n2 => ∀ (a : Addr) (bs : List Addr), bs.length = es.length → (a :: bs).Nodup → q (.gst (.hnd a) ((a, .lst (mixL bs es)) :: bs.zip (es.map fstM))) n2
theorem es_lcM {K : PySem.W.Frag} {W : WX} {wi : TI} {g : TG} {tt : TT} {te : TE} {vs : List Nat} {ι : DI} {γ : DG} {τ : DT} {δ : DE} {sl : List Nat} (hsl : ∀ i ∈ sl, i ∈ vs) (hi : EI K W wi ι) (hg : GD K sl g γ) (ht : ET K W0 tt τ) (he : EM K W0 te δ) : ES K W (tLc wi g tt te vs) (dLcM ι γ τ δ vs) := by
  intro B σ H ρ n G α Q x q hK R hx hd k
  refine hi B σ H ρ n G α _ x _ hK R hx hd fun J H1 G1 ds n1 s1 j1 wk h1 => ?_
  have R1 := R.step s1 j1
  intro D hD
  have nr : ¬ B.W.rg D := fun r => B.W.there n1 H1 D j1 r hD
  have g1 : G1 D = none := by
    cases q : G1 D with
    | none => rfl
    | some u =>
      obtain ⟨o', e', _⟩ := s1.hh D u q
      rw [hD] at e'; cases e'
  have back : ∀ {a : Addr}, H1 a = none → ¬ B.W.rg a → H a = none := fun {a} hD nr => by
    cases e : H a with
    | none => rfl
    | some o => rw [s1.fr a o e nr] at hD; cases hD
  have h0 : H D = none := back hD nr
  have s0 := StepP.laid (o := .lst []) s1.hh hD
  let q' : List DL.D → Nat → Prop := fun es n2 => ∀ (a : Addr) (bs : List Addr), bs.length = es.length → (a :: bs).Nodup → q (.gst (.hnd a) ((a, .lst (mixL bs es)) :: bs.zip (es.map fstM))) n2
  refine ⟨fun i m H' => m = ds.length - i ∧ i ≤ ds.length ∧ ∃ n G acc bs us, Step B.W H1 G1 H' G ∧ B.W.J n H' ∧ H' D = some (.lst us) ∧ G D = none ∧ News K B.W H1 G H' D bs (acc.map fstM) ∧ RepL K G (mixL bs acc) us ∧ lcD B.W γ τ δ (ds.drop i) (wipeD ρ vs) n acc q',
    ⟨ds.length, by simp, Nat.zero_le _, n1, G1, [], [], [], s0.step j1, s0.J j1, upd_same, g1, ⟨rfl, by simp, fun _ h => nomatch h⟩, .nil, by rw [hx.1] at h1; rw [List.drop_zero]; exact h1⟩, ?_⟩
  rintro i m H2 ⟨rfl, hil, n2, G2, acc, bs, us, s2, j2, hD2, gD2, ra, rm, h2⟩
  have lba : bs.length = acc.length := by rw [ra.len, List.length_map]
  by_cases hlt : i < ds.length
  · refine .inr ⟨wk.goes i H2 G2 hlt s2.le s2.hh, fun H' => ∃ n G acc bs us, Step B.W H1 G1 H' G ∧ B.W.J n H' ∧ H' D = some (.lst us) ∧ G D = none ∧ News K B.W H1 G H' D bs (acc.map fstM) ∧ RepL K G (mixL bs acc) us ∧ lcD B.W γ τ δ (ds.drop (i + 1)) (wipeD ρ vs) n acc q', fun H' p => ⟨ds.length - (i + 1), by omega, rfl, hlt, p⟩, fun y H' yl => ?_⟩
    obtain ⟨d, G3, ed, s3, r3⟩ := wk.yields i H2 G2 y H' hlt s2.le s2.hh yl
    have ed' : ds.drop i = d :: ds.drop (i + 1) := by
      rw [List.drop_eq_getElem_cons hlt]
      have : ds[i] = d := by
        rw [List.getElem?_eq_getElem hlt] at ed
        exact Option.some.inj ed
      rw [this]
    rw [ed'] at h2
    have t3 := s3.step j2
    have R3 := ((R1.step s2 j2).step t3 (s3.J j2)).wipe vs
    have hD3 := s3.fr D _ hD2
    have gD3 := t3.keepD hD2 gD2
    refine hg B (wipe σ vs) H' (wipeD ρ vs) n2 G3 α y d _ _ hK R3 r3 h2 fun σ4 ρ4 R4 f4 l4 h4 => ⟨?_, ?_⟩
    · refine List.ext_getElem? fun j => ?_
      rw [wipe_get, wipe_get, l4, wipe_length]
      by_cases hj : j ∈ vs
      · rw [if_pos hj, if_pos hj]
      · rw [if_neg hj, if_neg hj, f4 j (fun z => hj (hsl j z)), wipe_out hj]
    · refine ht B σ4 H' ρ4 n2 G3 α _ (x0 B.W) _ hK R4 xl0 h4 fun b H5 G5 n5 s5 j5 h5 => ?_
      have hD5 := s5.fr D _ hD3 nr
      have gD5 := s5.keepD hD3 gD3
      cases b with
      | true =>
        rw [if_pos rfl] at h5 ⊢
        refine he B σ4 H5 ρ4 n5 G5 α _ (x0 B.W) _ hK (R4.step s5 j5) xl0 h5 fun w v H6 G6 dy ey n6 s6 j6 np6 ng6 nr6 o6 r6 h6 => ?_
        have hD6 := s6.fr D _ hD5 nr
        have gD6 := s6.keepD hD5 gD5
        have t6 : Step B.W H1 G1 H6 G6 := s2.trans (t3.trans (s5.trans s6))
        have rb := (ra.step (t3.trans s5))
        have nv : v ∉ bs := fun hm => by
          obtain ⟨o, e⟩ := rb.there hm
          rw [np6] at e; cases e
        have nD : v ≠ D := fun z => by rw [z, hD5] at np6; cases np6
        have h1v : H1 v = none := by
          cases e : H1 v with
          | none => rfl
          | some o => rw [(s2.trans (t3.trans s5)).fr v o e nr6] at np6; cases np6
        have ra6 := (rb.step s6).snoc nD nv h1v ng6 nr6 o6
        have rm6 : RepL K G6 (mixL (bs ++ [v]) (acc ++ [.tup [dy, ey]])) (us ++ [w]) := by
          rw [mixL_snoc v _ lba]
          exact (rm.mono (t3.le.trans (s5.le.trans s6.le))).snoc r6
        have em : (acc ++ [DL.D.tup [dy, ey]]).map fstM = acc.map fstM ++ [dy] := by rw [List.map_append]; rfl
        refine ⟨us, hD6, by rw [sizeLine_eq, ← rm.length, mixL_len lba]; exact h6.1, n6, G6, acc ++ [.tup [dy, ey]], bs ++ [v], us ++ [w], ?_, B.W.stable _ _ _ (fun a r => upd_ne (fun z : a = D => nr (z ▸ r))) (fun a e q => (upd_ne fun z : a = D => by rw [z, hD6] at q; cases q).trans q) j6, upd_same, gD6, by rw [em]; exact ra6.off, rm6, h6.2⟩
        exact t6.updD hD gD6
      | false =>
        rw [if_neg Bool.false_ne_true] at h5 ⊢
        exact ⟨n5, G5, acc, bs, us, s2.trans (t3.trans s5), j5, hD5, gD5, ra.step (t3.trans s5), rm.mono (t3.le.trans s5.le), h5⟩
  · have e : i = ds.length := by omega
    subst e
    refine .inl ⟨wk.stops H2 G2 s2.le s2.hh, ?_⟩
    rw [List.drop_length] at h2
    have h2' : q' acc n2 := h2
    refine k (.ref D) H2 G2 (.gst (.hnd D) ((D, .lst (mixL bs acc)) :: bs.zip (acc.map fstM))) n2 (s1.trans s2) j2 (show _ ∧ _ ∧ _ from ⟨.hnd D, ?_, fun g hm => ?_⟩) (h2' D bs lba ra.nd)
    · rw [List.map_cons, List.map_fst_zip (by rw [ra.len]; exact Nat.le_refl _)]
      exact ra.nd
    · rcases List.mem_cons.mp hm with rfl | hm
      · exact ⟨h0, gD2, nr, _, hD2, rm⟩
      · obtain ⟨z0, z1, z2, z3⟩ := ra.at_ g hm
        exact ⟨back z0 z2, z1, z2, z3⟩
section
variable {X : Cx} {W : WX} {elt tg iter : Expr} {ifs : List Expr} {scope : Scope} {own : List (Str × Nat)} {pos spos py : Pos} {ι : DI} {γ : DG} {τ : DT} {δ : DE} {sl : List Nat} {y : Str}
def mOf (K : PySem.W.Frag) (W : WX) (δ : DE) : TE := fun σ H Q => ∃ (B : Bs) (ρ : DL.Env) (n : Nat) (G : Hp) (α : Nat → Addr) (x : DX) (q : DQ), B.K = K ∧ RelB B σ H ρ n G α ∧ XL B W σ H G x ∧ δ x ρ n q ∧
  (∀ v a H' G' d e n', Step B.W H G H' G' → B.W.J n' H' → H a = none → G' a = none → ¬ B.W.rg a → OwnAt K G' H' a d → Rep K G' (mixD a e) v → q (.tup [d, e]) n' → Q v H')
theorem em_mOf {K : PySem.W.Frag} {W : WX} {δ : DE} : EM K W (mOf K W δ) δ := fun B σ H ρ n G α Q x q hK R hx hd k => ⟨B, ρ, n, G, α, x, q, hK, R, hx, hd, k⟩
theorem PM.pe {e : Expr} {δ : DE} (h : PM X W e δ) : PE X e (mOf X.K W δ) := by
  obtain ⟨t, p, h⟩ := h
  refine ⟨fun pins s σ H Q I hw => ?_⟩
  obtain ⟨B, ρ, n, G, α, x, q, hK, R, hx, hd, k⟩ := hw
  exact p.run pins s σ H Q I (h B σ H ρ n G α Q x q hK R hx hd k)
theorem ps_gstLcM (i : Nat) (own : List (Str × Nat)) (i0 : i ≠ 0) (hc : X.calm = true) (hN : X.N.Nodup) (hi : PID X W tg iter ι) (ok : BlkOk X.N X.env.scope scope own)
    (hg : ∀ (s : Shared) (H : Hp) (C : Addr) (cl : List (Str × Addr)) (fp : List Addr), PGD (X.blk s H scope (compEnvC scope cl C X.env) fp) sl tg γ)
    (ht : ∀ (s : Shared) (H : Hp) (C : Addr) (cl : List (Str × Addr)) (fp : List Addr), PTsD (X.blk s H scope (compEnvC scope cl C X.env) fp) ifs τ)
    (he : ∀ (s : Shared) (H : Hp) (C : Addr) (cl : List (Str × Addr)) (fp : List Addr), PM (X.blk s H scope (compEnvC scope cl C X.env) fp) W0 elt δ) (hsl : ∀ i ∈ sl, i ∈ own.map (·.2) := by decide)
    (hy : X.N[i]? = some y := by rfl) (hyl : X.env.scope.names.lookup y = some .local := by rfl)
    (hsw : swapsWith (.ListComp elt [⟨tg, iter, ifs, 0⟩] scope pos) (some (.Name y py)) spos.line X.env = pure true := by exact sw_true rfl rfl rfl (by decide +kernel))
    (hs : ∀ x, foldedSetIterable iter X.env x = pure x := by intro _; rfl) : PSD X W (.Assign [.Name y py] (.ListComp elt [⟨tg, iter, ifs, 0⟩] scope pos) spos) (dSetSl i (dLcM ι γ τ δ (own.map (·.2)))) := by
  obtain ⟨wi, pi, ei⟩ := hi
  refine ⟨_, ps_setLc hc hN hy hyl hsw pi ok (fun s H C cl fp => (show PG _ _ (gOf X.K sl γ) from (hg s H C cl fp).pg)) (fun s H C cl fp => (show PTs _ _ (tOfT X.K W0 τ) from (ht s H C cl fp).pts)) (fun s H C cl fp => (show PE _ _ (mOf X.K W0 δ) from (he s H C cl fp).pe)) hs, fun B σ H ρ n G α D E hK R L hd => ?_⟩
  refine es_lcM hsl ei gd_gOf et_tOf em_mOf B σ H ρ n G α _ _ _ hK R (L.xl R) hd fun v H' G' sl n' s j r hq => ?_
  obtain ⟨α', R'⟩ := R.next s j (hK ▸ r) i i0
  exact L.nx _ H' _ n' G' α' R' hq
end
def dPickM (F : DF) (δs δ1 δ2 : DE) : DE := fun x ρ n q => δs x ρ n fun d0 n1 => δ1 x ρ n1 fun d n2 => δ2 x ρ n2 fun e n3 => (∀ a, mixD a e = e) ∧ ∀ a, F x.w [d0, .lst [.hnd a, e]] n3 (fun r n4 => (r = .hnd a ∧ q (.tup [d, .non]) n4) ∨ (r = e ∧ q (.tup [d, e]) n4)) x.ex
section
variable {X : Cx} {W : WX} {k : Nat} {F : DF} {f : Str} {p pos lp : Pos} {e0 e1 e2 : Expr} {δs δ1 δ2 : DE}
theorem pm_pick (S : Sg X.prog X.w X.K X.mg X.base f k 2 F []) (hr : Room k X.A) (tk : Takes X W) (hg : Gl X f) (h0 : PD X W e0 δs) (h1 : PF X W e1 δ1) (h2 : PD X W e2 δ2) (hdb : (f == ("__debug__" : Str)) = false := by decide)
    (s0 : starEach [e0, .List [e1, e2] lp] X.env = (false, eval e0 X.env) :: starEach [.List [e1, e2] lp] X.env := by rfl) (s1 : starEach [e1, e2] X.env = (false, eval e1 X.env) :: starEach [e2] X.env := by rfl) (s2 : starEach [e2] X.env = (false, eval e2 X.env) :: starEach [] X.env := by rfl)
    (s3 : starEach [.List [e1, e2] lp] X.env = (false, eval (.List [e1, e2] lp) X.env) :: starEach [] X.env := by rfl) (hpl : (backTo pos (starEach [.List [e1, e2] lp] X.env)).any (·.1) = false := by rfl) :
    PM X W (.Call (.Name f p) [e0, .List [e1, e2] lp] [] pos) (dPickM F δs δ1 δ2) := by
  obtain ⟨t0, p0, i0⟩ := h0
  obtain ⟨t1, p1, i1⟩ := h1
  obtain ⟨t2, p2, i2⟩ := h2
  obtain ⟨fa, fd, ps, ds, dvs, hF, hm, hk, hb, hd, hdv⟩ := S.ex
  refine ⟨_, pe_callSD hF hr hg hm hk hb hd (fun σ => passAt tk σ) (pa_cons p0 (pa_cons (pe_lst (pa_cons p1 (pa_cons p2 pa_nil s2) s1)) pa_nil s3) s0) hdb s0 hpl, ?_⟩
  intro B σ H ρ n G α Q x q hK R hx hd kk
  refine i0 B σ H ρ n G α _ x _ hK R hx hd fun v0 H1 G1 d0 n1 st1 j1 r1 hA => ?_
  have R1 := R.step st1 j1
  refine i1 B σ H1 ρ n1 G1 α _ x _ hK R1 (hx.step st1) hA fun a H2 G2 d n2 st2 j2 np ng nr ow hB => ?_
  have R2 := R1.step st2 j2
  refine i2 B σ H2 ρ n2 G2 α _ x _ hK R2 ((hx.step st1).step st2) hB fun v2 H3 G3 e n3 st3 j3 r3 hC => ?_
  have R3 := R2.step st3 j3
  obtain ⟨ne, hC⟩ := hC
  refine ⟨by show 2 ≤ sizeLine; rw [sizeLine_eq]; decide, fun l nl => ?_⟩
  have sm := StepP.made (o := .lst [.ref a, v2]) st3.hh nl
  have st4 := sm.step (W := B.W) j3
  have R4 := R3.step st4 (sm.J j3)
  have hC' := hC a
  rw [hx.1] at hC'
  have hx4 := ((hx.step st1).step st2).step (st3.trans st4)
  obtain ⟨o, ho⟩ := ow.there
  have hna : H a = none := by
    cases z : H a with
    | none => rfl
    | some u => rw [st1.fr a u z nr] at np; cases np
  have rl : RepL X.K (upd G3 l (.lst [.ref a, v2])) [d0, .lst [.hnd a, e]] [v0, .ref l] := .cons (r1.mono (st2.le.trans (st3.le.trans st4.le))) (.cons (.lst upd_same (.cons (.hnd a) (.cons (r3.mono st4.le) .nil))) .nil)
  refine ⟨B.W, n3, _, [d0, .lst [.hnd a, e]] ++ [], _, x.ex, st4.hh, R4.rg, sm.J j3, rl.append (hdv _), rfl, hC', fun v H' G' r n' s j rr hq => ?_, fun cc dd H' G' ee n' s j rr hq => hx4.2 cc dd H' G' ee n' s j (hK ▸ rr) hq⟩
  have sa := st3.trans (st4.trans s)
  have ow' : OwnAt X.K G' H' a d := ow.mono sa.le fun u z => sa.fr a u z nr
  have ng' : G' a = none := sa.keepD ho ng
  rcases hq with ⟨rfl, hq⟩ | ⟨rfl, hq⟩
  · exact kk v a H' G' d .non n' (st1.trans (st2.trans sa)) j hna ng' nr ow' rr hq
  · exact kk v a H' G' d r n' (st1.trans (st2.trans sa)) j hna ng' nr ow' (by rw [ne]; exact rr) hq
end
def dLcG (i : Nat) (γ : DG) (tt : DT) (te : DE) (vs : List Nat) : DE := fun x ρ n q => ∃ (a : Addr) (gs : List (Addr × D)) (ds : List D), ρ[i]? = some (some (.gst (.hnd a) gs)) ∧ lkG gs a = some (.lst ds) ∧ lcD x.w γ tt te ds (wipeD ρ vs) n [] fun es n2 => q (.lst es) n2
theorem ef_lcG {K : PySem.W.Frag} {W : WX} {i : Nat} {g : TG} {tt : TT} {te : TE} {vs : List Nat} {γ : DG} {τ : DT} {δ : DE} {sl : List Nat} (hsl : ∀ i ∈ sl, i ∈ vs) (hg : GD K sl g γ) (ht : ET K W0 tt τ) (he : ED K W0 te δ) : EF K W (tLc (iList K (tVar i)) g tt te vs) (dLcG i γ τ δ vs) := by
  intro B σ H ρ n G α Q x q hK R hx hd k
  obtain ⟨a, gs, ds, er, el, h1⟩ := hd
  obtain ⟨⟨v0, hv0, rv0⟩, _⟩ := R.gh.gst i _ _ er
  cases rv0
  obtain ⟨_, _, nra, vs0, hHa, rl0⟩ := R.gh.at_ i _ gs er _ (lkG_mem el)
  have rl : RepL K G ds vs0 := hK ▸ rl0
  refine ⟨.ref a, hv0, a, rfl, ⟨vs0, SqL.of hHa⟩, ?_⟩
  intro D hD
  have nr : ¬ B.W.rg D := fun r => B.W.there n H D R.J r hD
  have g1 : G D = none := by
    cases q : G D with
    | none => rfl
    | some u =>
      obtain ⟨o', e', _⟩ := R.le D u q
      rw [hD] at e'; cases e'
  have s0 := StepP.laid (o := .lst []) R.le hD
  refine ⟨fun j m H' => m = ds.length - j ∧ j ≤ ds.length ∧ ∃ n G' acc us, Step B.W H G H' G' ∧ B.W.J n H' ∧ H' D = some (.lst us) ∧ G' D = none ∧ RepL K G' acc us ∧ lcD B.W γ τ δ (ds.drop j) (wipeD ρ vs) n acc fun es n2 => q (.lst es) n2,
    ⟨ds.length, by simp, Nat.zero_le _, n, G, [], [], s0.step R.J, s0.J R.J, upd_same, g1, .nil, by rw [hx.1] at h1; simpa using h1⟩, ?_⟩
  rintro j m H2 ⟨rfl, hil, n2, G2, acc, us, s2, j2, hD2, gD2, ra, h2⟩
  have hH2 : H2 a = some (.lst vs0) := s2.fr a _ hHa nra
  by_cases hlt : j < ds.length
  · have lv := rl.length
    have hvj : vs0[j]? = some vs0[j] := List.getElem?_eq_getElem (by omega)
    refine .inr ⟨⟨vs0, _, SqL.of hH2, hvj⟩, fun H' => ∃ n G' acc us, Step B.W H G H' G' ∧ B.W.J n H' ∧ H' D = some (.lst us) ∧ G' D = none ∧ RepL K G' acc us ∧ lcD B.W γ τ δ (ds.drop (j + 1)) (wipeD ρ vs) n acc fun es n2 => q (.lst es) n2, fun H' p => ⟨ds.length - (j + 1), by omega, rfl, hlt, p⟩, fun y H' yl => ?_⟩
    obtain ⟨eH, yl⟩ := yl
    subst eH
    have ey := yl vs0 (SqL.of hH2)
    obtain ⟨y', ey', ry⟩ := rl.get (List.getElem?_eq_getElem hlt)
    rw [ey] at ey'
    cases ey'
    rw [List.drop_eq_getElem_cons hlt] at h2
    have R3 := (R.step s2 j2).wipe vs
    refine hg B (wipe σ vs) H' (wipeD ρ vs) n2 G2 α y ds[j] _ _ hK R3 (ry.mono s2.le) h2 fun σ4 ρ4 R4 f4 l4 h4 => ⟨?_, ?_⟩
    · refine List.ext_getElem? fun j => ?_
      rw [wipe_get, wipe_get, l4, wipe_length]
      by_cases hj : j ∈ vs
      · rw [if_pos hj, if_pos hj]
      · rw [if_neg hj, if_neg hj, f4 j (fun z => hj (hsl j z)), wipe_out hj]
    · refine ht B σ4 H' ρ4 n2 G2 α _ (x0 B.W) _ hK R4 xl0 h4 fun b H5 G5 n5 s5 j5 h5 => ?_
      have hD5 := s5.fr D _ hD2 nr
      have gD5 := s5.keepD hD2 gD2
      cases b with
      | true =>
        rw [if_pos rfl] at h5 ⊢
        refine he B σ4 H5 ρ4 n5 G5 α _ (x0 B.W) _ hK (R4.step s5 j5) xl0 h5 fun v H6 G6 dy n6 s6 j6 r6 h6 => ?_
        have hD6 := s6.fr D _ hD5 nr
        have gD6 := s6.keepD hD5 gD5
        have t6 : Step B.W H G H6 G6 := s2.trans (s5.trans s6)
        have ra6 : RepL K G6 acc us := ra.mono ((s5.trans s6).le)
        refine ⟨us, hD6, by rw [sizeLine_eq, ← ra6.length]; exact h6.1, n6, G6, acc ++ [dy], us ++ [v], t6.updD hD gD6, B.W.stable _ _ _ (fun a r => upd_ne (fun z : a = D => nr (z ▸ r))) (fun a e q => (upd_ne fun z : a = D => by rw [z, hD6] at q; cases q).trans q) j6, upd_same, gD6, ra6.snoc r6, h6.2⟩
      | false =>
        rw [if_neg Bool.false_ne_true] at h5 ⊢
        exact ⟨n5, G5, acc, us, s2.trans s5, j5, hD5, gD5, ra.mono s5.le, h5⟩
  · have e : j = ds.length := by omega
    subst e
    refine .inl ⟨⟨vs0, SqL.of hH2, by rw [← rl.length]; exact Nat.le_refl _⟩, ?_⟩
    rw [List.drop_length] at h2
    exact k D H2 G2 (.lst acc) n2 s2 j2 hD gD2 nr ⟨us, hD2, ra⟩ h2
theorem dLcG_lst {i : Nat} {γ : DG} {tt : DT} {te : DE} {vs : List Nat} (x : DX) (ρ : DL.Env) (n : Nat) (q : DQ) (h : dLcG i γ tt te vs x ρ n q) : dLcG i γ tt te vs x ρ n fun d n => (∀ kvs, d ≠ .dct kvs) ∧ q d n := by
  have e : (fun (es : List D) (n2 : Nat) => (∀ kvs, D.lst es ≠ .dct kvs) ∧ q (.lst es) n2) = fun es n2 => q (.lst es) n2 := by
    funext es n2
    exact propext (and_iff_right fun _ z => nomatch z)
  unfold dLcG at h ⊢
  rw [e]
  exact h
section
variable {X : Cx} {W : WX} {elt tg : Expr} {ifs : List Expr} {scope : Scope} {pos pos' spos py : Pos} {γ : DG} {τ : DT} {δ : DE} {sl : List Nat} {x y : Str}
theorem ps_setLcN (j i : Nat) (own : List (Str × Nat)) (hc : X.calm = true) (hN : X.N.Nodup) (ok : BlkOk X.N X.env.scope scope own)
    (hg : ∀ (s : Shared) (H : Hp) (C : Addr) (cl : List (Str × Addr)) (fp : List Addr), PGD (X.blk s H scope (compEnvC scope cl C X.env) fp) sl tg γ)
    (ht : ∀ (s : Shared) (H : Hp) (C : Addr) (cl : List (Str × Addr)) (fp : List Addr), PTsD (X.blk s H scope (compEnvC scope cl C X.env) fp) ifs τ)
    (he : ∀ (s : Shared) (H : Hp) (C : Addr) (cl : List (Str × Addr)) (fp : List Addr), PD (X.blk s H scope (compEnvC scope cl C X.env) fp) W0 elt δ) (hsl : ∀ i ∈ sl, i ∈ own.map (·.2) := by decide)
    (hx : X.N[i]? = some x := by rfl) (hv : Vis X.env.scope x := by first | exact Or.inl rfl | exact Or.inr (Or.inl rfl) | exact Or.inr (Or.inr rfl)) (hd : (x == ("__debug__" : Str)) = false := by decide) (hcd : (x == ("__classdict__" : Str)) = false := by decide)
    (hy : X.N[j]? = some y := by rfl) (hyl : X.env.scope.names.lookup y = some .local := by rfl)
    (hsw : swapsWith (.ListComp elt [⟨tg, .Name x pos', ifs, 0⟩] scope pos) (some (.Name y py)) spos.line X.env = pure true := by exact sw_true rfl rfl rfl (by decide +kernel))
    (hs : ∀ u, foldedSetIterable (.Name x pos') X.env u = pure u := by intro _; rfl) : PSD X W (.Assign [.Name y py] (.ListComp elt [⟨tg, .Name x pos', ifs, 0⟩] scope pos) spos) (dSet j (dLcG i γ τ δ (own.map (·.2)))) :=
  ⟨_, ps_setLc hc hN hy hyl hsw (pi_list (pe_var hx hv hd hcd)) ok (fun s H C cl fp => (hg s H C cl fp).pg) (fun s H C cl fp => (ht s H C cl fp).pts) (fun s H C cl fp => (he s H C cl fp).pe) hs, sd_set ((ef_lcG hsl gd_gOf et_tOf ed_tOf).ed dLcG_lst) j⟩
end
structure MgE (P : Program) (w : World) (K : PySem.W.Frag) (mg : Str → Option Value) (base : Heap) (c x : Str) (k m : Nat) (F : DFE) (dvd : List D) : Prop where
  cl : Cls K (ca K c)
  ex : ∃ (f : Addr) (fd : FuncData) (ps : List Str) (ds : List Value) (dvs : List V), FnOk P w K mg base (L2.CX P w) k f fd ps (spWE K m F) ∧ Meth K (ca K c) x f ∧ Binds K fd ps ds ∧ Vals dvs ds ∧ ∀ G, RepL K G dvd dvs
def dMethE (c y : Str) (m : Nat) (F : DFE) (dvd : List D) (δ : DE) (a : DA) : DSl := fun x ρ n q => δ x ρ n fun d n1 => match d with
  | .obj c' fs => c' = c ∧ fs.lookup y = none ∧ a x ρ n1 fun ds n2 => (ds ++ dvd).length + 1 = m ∧ F x.w (.obj c' fs :: (ds ++ dvd)) n2 q x.ex
  | _ => False
section
variable {X : Cx} {W : WX} {k m : Nat} {F : DFE} {dvd : List D} {c y : Str} {pos apos : Pos} {e o : Expr} {es : List Expr} {a : DA} {δ : DE}
theorem es_meth {K : PySem.W.Frag} {dvs : List V} {to : TE} {t : TA} (hd : ∀ G, RepL K G dvd dvs) (ho : ED K W to δ) (ha : EA K W t a) : ES K W (tMethSD (ca K c) y (spWE K m F) dvs (WE W) to t) (dMethE c y m F dvd δ a) := by
  intro B σ H ρ n G α Q x q hK R hx h kk
  refine ho B σ H ρ n G α _ x _ hK R hx h fun v0 H0 G0 d0 n0 s0 j0 r0 h0 => ?_
  cases d0 with
  | obj c' fs =>
    obtain ⟨ec, el, h0⟩ := h0
    subst ec
    cases r0 with
    | obj e r =>
      refine ⟨_, _, _, rfl, s0.hh.get e, r.lookupN el, ?_⟩
      have R0 := R.step s0 j0
      refine ha B σ H0 ρ n0 G0 α _ x _ hK R0 (hx.step s0) h0 fun vs H1 G1 ds n1 s1 j1 r1 h1 => ?_
      have R1 := R0.step s1 j1
      have hx1 := (hx.step s0).step s1
      obtain ⟨hl, h1⟩ := h1
      rw [hx.1] at h1
      have s01 := s0.trans s1
      refine ⟨B.W, n1, G1, _ :: (ds ++ dvd), q, x.ex, s1.hh, R1.rg, j1, .cons (.obj (s1.le.get e) (r.mono s1.le)) (r1.append (hd G1)), hl, h1, fun v H' G' sl n' s j r hq => kk v H' G' sl n' (s01.trans s) j ?_ hq, fun cc dd H' G' e n' s j r hq => hx1.2 cc dd H' G' e n' s j (hK ▸ r) hq⟩
      cases sl with
      | val d => exact hK ▸ r
      | own d =>
        obtain ⟨a, e1, np, ng, nr, o⟩ := r
        exact ⟨a, e1, fresh_back (H' := H') (G' := G') s01 j1 np, ng, nr, hK ▸ o⟩
      | gst r' gs =>
        obtain ⟨hr, nd, hg⟩ := r
        refine ⟨hK ▸ hr, nd, fun g hm => ?_⟩
        obtain ⟨np, ng, nr, o⟩ := hg g hm
        exact ⟨fresh_back (H' := H') (G' := G') s01 j1 np, ng, nr, hK ▸ o⟩
  | _ => exact h0.elim
theorem psl_meth0 {pl : Sem Bool} (S : MgE X.prog X.w X.K X.mg X.base c y k m F dvd) (hr : Room k X.A) (tk : Takes X W) (ho : PD X W o δ)
    (ht : eval (.Call (.Attribute o y apos) [] [] pos) X.env = (do
      let ov ← eval o X.env
      standAt apos.atName
      let (f, first) ← holding [ov] (getMethod ov y pl)
      callWith pos f first (backTo pos (starEach [] X.env)) (backToKw pos (keywordEach [] X.env))) := by rfl) : PSl X W (.Call (.Attribute o y apos) [] [] pos) (dMethE c y m F dvd δ dNil) := by
  obtain ⟨to, po, eo⟩ := ho
  obtain ⟨f, fd, ps, ds, dvs, hF, hm, hb, hd, hdv⟩ := S.ex
  refine ⟨_, pe_methSD0 po S.cl hm hF hr hb hd (fun σ => passAt tk σ) ht, es_meth hdv eo ?_⟩
  exact fun B σ H ρ n G α Q x q hK R hx hd k => k [] H G [] n (.refl _ R.le) R.J .nil hd
end
end DL

end

set_option maxHeartbeats 0
namespace My
open PySem PySem.Spec L2 DL
def top (i : Nat) : Stmt := PySem.Challenge.pw_seenrows_k15_tables_made.main.body.getD i (.Pass ⟨0, 0, 0, 0⟩)
def fn : List He.DefD := [
  ⟨("is_integer", none), "is_integer", "is_integer", defArgs (top 3), defBody (top 3), defScope (top 3), [], []⟩,
  ⟨("is_list", none), "is_list", "is_list", defArgs (top 4), defBody (top 4), defScope (top 4), [], []⟩,
  ⟨("is_prime", none), "is_prime", "is_prime", defArgs (top 5), defBody (top 5), defScope (top 5), [], []⟩,
  ⟨("UnlikeTables", some "__init__"), "__init__", "UnlikeTables.__init__", defArgs (inClass (top 18) 0), defBody (inClass (top 18) 0), defScope (inClass (top 18) 0), [], []⟩,
  ⟨("is_term", none), "is_term", "is_term", defArgs (top 31), defBody (top 31), defScope (top 31), [], []⟩,
  ⟨("Filter", some "__init__"), "__init__", "Filter.__init__", defArgs (inClass (top 33) 0), defBody (inClass (top 33) 0), defScope (inClass (top 33) 0), [.adr (He.dflAt ("Filter", some "__init__") 0)], []⟩,
  ⟨("Filter", some "__eq__"), "__eq__", "Filter.__eq__", defArgs (inClass (top 33) 5), defBody (inClass (top 33) 5), defScope (inClass (top 33) 5), [], []⟩,
  ⟨("Filter", some "terms"), "terms", "Filter.terms", defArgs (inClass (top 33) 7), defBody (inClass (top 33) 7), defScope (inClass (top 33) 7), [], []⟩,
  ⟨("is_row", none), "is_row", "is_row", defArgs (top 48), defBody (top 48), defScope (top 48), [], []⟩,
  ⟨("Table", some "__init__"), "__init__", "Table.__init__", defArgs (inClass (top 51) 0), defBody (inClass (top 51) 0), defScope (inClass (top 51) 0), [.adr (He.dflAt ("Table", some "__init__") 0)], []⟩,
  ⟨("Table", some "__len__"), "__len__", "Table.__len__", defArgs (inClass (top 51) 1), defBody (inClass (top 51) 1), defScope (inClass (top 51) 1), [], []⟩,
  ⟨("Table", some "__iter__"), "__iter__", "Table.__iter__", defArgs (inClass (top 51) 2), defBody (inClass (top 51) 2), defScope (inClass (top 51) 2), [], []⟩,
  ⟨("Table", some "__eq__"), "__eq__", "Table.__eq__", defArgs (inClass (top 51) 3), defBody (inClass (top 51) 3), defScope (inClass (top 51) 3), [], []⟩,
  ⟨("Table", some "rows"), "rows", "Table.rows", defArgs (inClass (top 51) 4), defBody (inClass (top 51) 4), defScope (inClass (top 51) 4), [], []⟩,
  ⟨("Table", some "fits"), "fits", "Table.fits", defArgs (inClass (top 51) 5), defBody (inClass (top 51) 5), defScope (inClass (top 51) 5), [], []⟩,
  ⟨("Table", some "__add__"), "__add__", "Table.__add__", defArgs (inClass (top 51) 7), defBody (inClass (top 51) 7), defScope (inClass (top 51) 7), [], []⟩,
  ⟨("_law_spring", none), "_law_spring", "_law_spring", defArgs (top 53), defBody (top 53), defScope (top 53), [], []⟩,
  ⟨("_law_draw", none), "_law_draw", "_law_draw", defArgs (top 54), defBody (top 54), defScope (top 54), [], []⟩,
  ⟨("_law_pick", none), "_law_pick", "_law_pick", defArgs (top 55), defBody (top 55), defScope (top 55), [], []⟩,
  ⟨("_law_same", none), "_law_same", "_law_same", defArgs (top 56), defBody (top 56), defScope (top 56), [], []⟩,
  ⟨("_law_held", none), "_law_held", "_law_held", defArgs (top 57), defBody (top 57), defScope (top 57), [], []⟩,
  ⟨("_law_pairs", none), "_law_pairs", "_law_pairs", defArgs (top 58), defBody (top 58), defScope (top 58), [], []⟩,
  ⟨("_law_drawn", none), "_law_drawn", "_law_drawn", defArgs (top 59), defBody (top 59), defScope (top 59), [], []⟩,
  ⟨("_law_made", none), "_law_made", "_law_made", defArgs (top 60), defBody (top 60), defScope (top 60), [], []⟩,
  ⟨("_law_is", none), "_law_is", "_law_is", defArgs (top 61), defBody (top 61), defScope (top 61), [], []⟩,
  ⟨("_law_prime", none), "_law_prime", "_law_prime", defArgs (top 62), defBody (top 62), defScope (top 62), [], []⟩,
  ⟨("_law_other", none), "_law_other", "_law_other", defArgs (top 63), defBody (top 63), defScope (top 63), [], []⟩,
  ⟨("_law_row", none), "_law_row", "_law_row", defArgs (top 64), defBody (top 64), defScope (top 64), [], []⟩,
  ⟨("_law_filters", none), "_law_filters", "_law_filters", defArgs (top 65), defBody (top 65), defScope (top 65), [], []⟩,
  ⟨("_law_row_is", none), "_law_row_is", "_law_row_is", defArgs (top 66), defBody (top 66), defScope (top 66), [], []⟩,
  ⟨("_law_table_is", none), "_law_table_is", "_law_table_is", defArgs (top 67), defBody (top 67), defScope (top 67), [], []⟩,
  ⟨("_law_table", none), "_law_table", "_law_table", defArgs (top 68), defBody (top 68), defScope (top 68), [], []⟩,
  ⟨("_law_told_rows_right", none), "_law_told_rows_right", "_law_told_rows_right", defArgs (top 69), defBody (top 69), defScope (top 69), [], []⟩,
  ⟨("_law_compared_right", none), "_law_compared_right", "_law_compared_right", defArgs (top 70), defBody (top 70), defScope (top 70), [], []⟩,
  ⟨("law", none), "law", "law", defArgs (top 71), defBody (top 71), defScope (top 71), [], []⟩]
def fa : List He.Fa := [.glo "_wall", .glo "PRIMES", .glo "is_integer", .glo "is_list", .glo "is_prime", .glo "are_digits", .glo "inverse", .glo "SeenError", .glo "BadPrime", .glo "BadTerm", .glo "UnlikePrimes", .glo "ZeroFilter", .glo "BadRule", .glo "BadDigits", .glo "BadWidth", .glo "BadRow", .glo "UnlikeTables", .glo "BadSequences", .glo "divided", .glo "product_rest", .glo "shift_rest", .glo "moved_rest", .glo "far_rest", .glo "check_primes", .glo "gcd", .glo "lcm", .int "NEAR" (2000), .glo "is_term", .glo "divisor_of", .glo "Filter", .glo "zero_row", .glo "combined", .glo "less", .glo "head_of", .glo "narrowest", .glo "headed", .glo "echelon", .glo "marked", .glo "rest_of", .glo "least_rule", .glo "Sequence", .glo "is_row", .glo "are_sequences", .glo "has_terms", .glo "Table", .glo "_law_spring", .glo "_law_draw", .glo "_law_pick", .glo "_law_same", .glo "_law_held", .glo "_law_pairs", .glo "_law_drawn", .glo "_law_made", .glo "_law_is", .glo "_law_prime", .glo "_law_other", .glo "_law_row", .glo "_law_filters", .glo "_law_row_is", .glo "_law_table_is", .glo "_law_table", .glo "_law_told_rows_right", .glo "_law_compared_right", .glo "law", .free "isinstance", .free "len", .free "sorted", .free "dict", .free "list", .free "tuple", .free "int", .free "bool", .free "abs", .free "all", .free "any", .free "enumerate", .free "range", .free "zip", .free "min", .free "max", .free "sum", .free "str", .free "reversed", .free "divmod", .free "repr", .free "iter", .free "super", .free "ValueError", .free "TypeError", .mkr "Filter", .meth "Filter" "__init__", .meth "Filter" "__eq__", .meth "Filter" "terms", .mkr "Sequence", .mkr "Table", .meth "Table" "__init__", .meth "Table" "__len__", .meth "Table" "__iter__", .meth "Table" "__eq__", .meth "Table" "rows", .meth "Table" "fits", .meth "Table" "__add__", .noat "Table" "kept", .noat "Table" "width", .noat "Table" "prime", .noat "Filter" "prime", .noat "Filter" "kept", .noat "Filter" "held"]
def CS : List Str := ["Filter", "Sequence", "Table"]
def sub (a b : Str) : Bool := decide (a = b)
def XS : List Str := ["UnlikeTables"]
def xsub (a b : Str) : Bool := decide (a = b)
def tfn : List Str := []
def tf : List He.Defn := tfn.map fun x => (x, none)
theorem tf_mem {x : Str} (h : x ∈ tfn) : ((x, none) : He.Defn) ∈ tf := List.mem_map.mpr ⟨x, h, rfl⟩
abbrev TBs (K : PySem.W.Frag) (mg : Str → Option Value) (base : Heap) : Prop := ∀ x ∈ tfn, LamX.TabB base mg (He.cT K (x, none)).1 (He.cT K (x, none)).2
def cmf : List He5.DefA := []
def exL (K : PySem.W.Frag) : List Bool := [chkTy CS sub K,
  tupAt K (He.ga K "PRIMES") [.int 2, .int 3, .int 5, .int 7],
  tupAt K (He.dflAt ("Filter", some "__init__") 0 K) [],
  tupAt K (He.dflAt ("Table", some "__init__") 0 K) [],
  excB "UnlikeTables" K,
  opB "Table" .Add K,
  eqB CS "Table" K,
  neB CS "Table" K,
  seB "SeenError" K,
  xsB XS xsub K,
  tblB tfn K]
def exB (K : PySem.W.Frag) : Bool := (exL K).all id
structure Top (K : PySem.W.Frag) (mg : Str → Option Value) : Prop where
  says : He.SaysD fa fn K
  exb : exB K = true
  cm : He5.SaysA [] cmf K
  h : ∃ h : Heap, K.In h ∧ h.Ns mainGlobals mg
section
variable {K : PySem.W.Frag} {mg : Str → Option Value}
theorem Top.ex (T : Top K mg) (i : Nat) {b : Bool} (h : (exL K)[i]? = some b := by rfl) : b = true := List.all_eq_true.mp T.exb b (List.mem_of_getElem? h)
theorem Top.g_PRIMES (T : Top K mg) : mg "PRIMES" = some (.ref (ca K "PRIMES")) := let ⟨_, X, G⟩ := T.h; He.glo_ok X G (T.says.fact 1 rfl)
theorem Top.g_is_integer (T : Top K mg) : mg "is_integer" = some (.ref (ca K "is_integer")) := let ⟨_, X, G⟩ := T.h; He.glo_ok X G (T.says.fact 2 rfl)
theorem Top.g_is_list (T : Top K mg) : mg "is_list" = some (.ref (ca K "is_list")) := let ⟨_, X, G⟩ := T.h; He.glo_ok X G (T.says.fact 3 rfl)
theorem Top.g_is_prime (T : Top K mg) : mg "is_prime" = some (.ref (ca K "is_prime")) := let ⟨_, X, G⟩ := T.h; He.glo_ok X G (T.says.fact 4 rfl)
theorem Top.g_SeenError (T : Top K mg) : mg "SeenError" = some (.ref (ca K "SeenError")) := let ⟨_, X, G⟩ := T.h; He.glo_ok X G (T.says.fact 7 rfl)
theorem Top.g_UnlikeTables (T : Top K mg) : mg "UnlikeTables" = some (.ref (ca K "UnlikeTables")) := let ⟨_, X, G⟩ := T.h; He.glo_ok X G (T.says.fact 16 rfl)
theorem Top.g_is_term (T : Top K mg) : mg "is_term" = some (.ref (ca K "is_term")) := let ⟨_, X, G⟩ := T.h; He.glo_ok X G (T.says.fact 27 rfl)
theorem Top.g_Filter (T : Top K mg) : mg "Filter" = some (.ref (ca K "Filter")) := let ⟨_, X, G⟩ := T.h; He.glo_ok X G (T.says.fact 29 rfl)
theorem Top.g_is_row (T : Top K mg) : mg "is_row" = some (.ref (ca K "is_row")) := let ⟨_, X, G⟩ := T.h; He.glo_ok X G (T.says.fact 41 rfl)
theorem Top.g_Table (T : Top K mg) : mg "Table" = some (.ref (ca K "Table")) := let ⟨_, X, G⟩ := T.h; He.glo_ok X G (T.says.fact 44 rfl)
theorem Top.g__law_spring (T : Top K mg) : mg "_law_spring" = some (.ref (ca K "_law_spring")) := let ⟨_, X, G⟩ := T.h; He.glo_ok X G (T.says.fact 45 rfl)
theorem Top.g__law_draw (T : Top K mg) : mg "_law_draw" = some (.ref (ca K "_law_draw")) := let ⟨_, X, G⟩ := T.h; He.glo_ok X G (T.says.fact 46 rfl)
theorem Top.g__law_pick (T : Top K mg) : mg "_law_pick" = some (.ref (ca K "_law_pick")) := let ⟨_, X, G⟩ := T.h; He.glo_ok X G (T.says.fact 47 rfl)
theorem Top.g__law_same (T : Top K mg) : mg "_law_same" = some (.ref (ca K "_law_same")) := let ⟨_, X, G⟩ := T.h; He.glo_ok X G (T.says.fact 48 rfl)
theorem Top.g__law_held (T : Top K mg) : mg "_law_held" = some (.ref (ca K "_law_held")) := let ⟨_, X, G⟩ := T.h; He.glo_ok X G (T.says.fact 49 rfl)
theorem Top.g__law_pairs (T : Top K mg) : mg "_law_pairs" = some (.ref (ca K "_law_pairs")) := let ⟨_, X, G⟩ := T.h; He.glo_ok X G (T.says.fact 50 rfl)
theorem Top.g__law_drawn (T : Top K mg) : mg "_law_drawn" = some (.ref (ca K "_law_drawn")) := let ⟨_, X, G⟩ := T.h; He.glo_ok X G (T.says.fact 51 rfl)
theorem Top.g__law_made (T : Top K mg) : mg "_law_made" = some (.ref (ca K "_law_made")) := let ⟨_, X, G⟩ := T.h; He.glo_ok X G (T.says.fact 52 rfl)
theorem Top.g__law_is (T : Top K mg) : mg "_law_is" = some (.ref (ca K "_law_is")) := let ⟨_, X, G⟩ := T.h; He.glo_ok X G (T.says.fact 53 rfl)
theorem Top.g__law_prime (T : Top K mg) : mg "_law_prime" = some (.ref (ca K "_law_prime")) := let ⟨_, X, G⟩ := T.h; He.glo_ok X G (T.says.fact 54 rfl)
theorem Top.g__law_other (T : Top K mg) : mg "_law_other" = some (.ref (ca K "_law_other")) := let ⟨_, X, G⟩ := T.h; He.glo_ok X G (T.says.fact 55 rfl)
theorem Top.g__law_row (T : Top K mg) : mg "_law_row" = some (.ref (ca K "_law_row")) := let ⟨_, X, G⟩ := T.h; He.glo_ok X G (T.says.fact 56 rfl)
theorem Top.g__law_filters (T : Top K mg) : mg "_law_filters" = some (.ref (ca K "_law_filters")) := let ⟨_, X, G⟩ := T.h; He.glo_ok X G (T.says.fact 57 rfl)
theorem Top.g__law_row_is (T : Top K mg) : mg "_law_row_is" = some (.ref (ca K "_law_row_is")) := let ⟨_, X, G⟩ := T.h; He.glo_ok X G (T.says.fact 58 rfl)
theorem Top.g__law_table_is (T : Top K mg) : mg "_law_table_is" = some (.ref (ca K "_law_table_is")) := let ⟨_, X, G⟩ := T.h; He.glo_ok X G (T.says.fact 59 rfl)
theorem Top.g__law_table (T : Top K mg) : mg "_law_table" = some (.ref (ca K "_law_table")) := let ⟨_, X, G⟩ := T.h; He.glo_ok X G (T.says.fact 60 rfl)
theorem Top.g__law_told_rows_right (T : Top K mg) : mg "_law_told_rows_right" = some (.ref (ca K "_law_told_rows_right")) := let ⟨_, X, G⟩ := T.h; He.glo_ok X G (T.says.fact 61 rfl)
theorem Top.g__law_compared_right (T : Top K mg) : mg "_law_compared_right" = some (.ref (ca K "_law_compared_right")) := let ⟨_, X, G⟩ := T.h; He.glo_ok X G (T.says.fact 62 rfl)
theorem Top.g_law (T : Top K mg) : mg "law" = some (.ref (ca K "law")) := let ⟨_, X, G⟩ := T.h; He.glo_ok X G (T.says.fact 63 rfl)
theorem Top.f_isinstance (T : Top K mg) : mg "isinstance" = none := let ⟨_, X, G⟩ := T.h; He.free_ok X G (T.says.fact 64 rfl)
theorem Top.f_len (T : Top K mg) : mg "len" = none := let ⟨_, X, G⟩ := T.h; He.free_ok X G (T.says.fact 65 rfl)
theorem Top.f_sorted (T : Top K mg) : mg "sorted" = none := let ⟨_, X, G⟩ := T.h; He.free_ok X G (T.says.fact 66 rfl)
theorem Top.f_dict (T : Top K mg) : mg "dict" = none := let ⟨_, X, G⟩ := T.h; He.free_ok X G (T.says.fact 67 rfl)
theorem Top.f_list (T : Top K mg) : mg "list" = none := let ⟨_, X, G⟩ := T.h; He.free_ok X G (T.says.fact 68 rfl)
theorem Top.f_tuple (T : Top K mg) : mg "tuple" = none := let ⟨_, X, G⟩ := T.h; He.free_ok X G (T.says.fact 69 rfl)
theorem Top.f_int (T : Top K mg) : mg "int" = none := let ⟨_, X, G⟩ := T.h; He.free_ok X G (T.says.fact 70 rfl)
theorem Top.f_bool (T : Top K mg) : mg "bool" = none := let ⟨_, X, G⟩ := T.h; He.free_ok X G (T.says.fact 71 rfl)
theorem Top.f_all (T : Top K mg) : mg "all" = none := let ⟨_, X, G⟩ := T.h; He.free_ok X G (T.says.fact 73 rfl)
theorem Top.f_any (T : Top K mg) : mg "any" = none := let ⟨_, X, G⟩ := T.h; He.free_ok X G (T.says.fact 74 rfl)
theorem Top.f_enumerate (T : Top K mg) : mg "enumerate" = none := let ⟨_, X, G⟩ := T.h; He.free_ok X G (T.says.fact 75 rfl)
theorem Top.f_range (T : Top K mg) : mg "range" = none := let ⟨_, X, G⟩ := T.h; He.free_ok X G (T.says.fact 76 rfl)
theorem Top.f_zip (T : Top K mg) : mg "zip" = none := let ⟨_, X, G⟩ := T.h; He.free_ok X G (T.says.fact 77 rfl)
theorem Top.f_iter (T : Top K mg) : mg "iter" = none := let ⟨_, X, G⟩ := T.h; He.free_ok X G (T.says.fact 85 rfl)
theorem Top.mk_Filter (T : Top K mg) : Mk K (ca K "Filter") (He.ma K (ca K "Filter") "__init__") := He.mkr_ok (T.says.fact 89 rfl)
theorem Top.m_Filter___eq__ (T : Top K mg) : Meth K (ca K "Filter") "__eq__" (He.ma K (ca K "Filter") "__eq__") := He.meth_ok (T.says.fact 91 rfl)
theorem Top.m_Filter_terms (T : Top K mg) : Meth K (ca K "Filter") "terms" (He.ma K (ca K "Filter") "terms") := He.meth_ok (T.says.fact 92 rfl)
theorem Top.mk_Table (T : Top K mg) : Mk K (ca K "Table") (He.ma K (ca K "Table") "__init__") := He.mkr_ok (T.says.fact 94 rfl)
theorem Top.m_Table___len__ (T : Top K mg) : Meth K (ca K "Table") "__len__" (He.ma K (ca K "Table") "__len__") := He.meth_ok (T.says.fact 96 rfl)
theorem Top.m_Table___iter__ (T : Top K mg) : Meth K (ca K "Table") "__iter__" (He.ma K (ca K "Table") "__iter__") := He.meth_ok (T.says.fact 97 rfl)
theorem Top.m_Table___eq__ (T : Top K mg) : Meth K (ca K "Table") "__eq__" (He.ma K (ca K "Table") "__eq__") := He.meth_ok (T.says.fact 98 rfl)
theorem Top.m_Table_rows (T : Top K mg) : Meth K (ca K "Table") "rows" (He.ma K (ca K "Table") "rows") := He.meth_ok (T.says.fact 99 rfl)
theorem Top.m_Table_fits (T : Top K mg) : Meth K (ca K "Table") "fits" (He.ma K (ca K "Table") "fits") := He.meth_ok (T.says.fact 100 rfl)
theorem Top.m_Table___add__ (T : Top K mg) : Meth K (ca K "Table") "__add__" (He.ma K (ca K "Table") "__add__") := He.meth_ok (T.says.fact 101 rfl)
theorem Top.ty (T : Top K mg) : chkTy CS sub K = true := T.ex 0
theorem Top.tyf (T : Top K mg) : ∀ c ∈ CS, TyF K c := chk_tyf T.ty
theorem Top.kb_int (T : Top K mg) : ∀ d t, tyD d = some t → (∀ c, t = .own c → c ∈ CS) → PySem.W.kitOne K (t.val K) (.type "int") = some (isaB "int" t) := chk_kb T.ty "int" (by decide)
theorem Top.kb_bool (T : Top K mg) : ∀ d t, tyD d = some t → (∀ c, t = .own c → c ∈ CS) → PySem.W.kitOne K (t.val K) (.type "bool") = some (isaB "bool" t) := chk_kb T.ty "bool" (by decide)
theorem Top.kb_list (T : Top K mg) : ∀ d t, tyD d = some t → (∀ c, t = .own c → c ∈ CS) → PySem.W.kitOne K (t.val K) (.type "list") = some (isaB "list" t) := chk_kb T.ty "list" (by decide)
theorem Top.kb_tuple (T : Top K mg) : ∀ d t, tyD d = some t → (∀ c, t = .own c → c ∈ CS) → PySem.W.kitOne K (t.val K) (.type "tuple") = some (isaB "tuple" t) := chk_kb T.ty "tuple" (by decide)
theorem Top.kt_list_tuple (T : Top K mg) : ∀ d t, tyD d = some t → (∀ c, t = .own c → c ∈ CS) → PySem.W.kitAny K (t.val K) [.type "list", .type "tuple"] = some (["list", "tuple"].any fun n => isaB n t) := chk_kt T.ty ["list", "tuple"] (by decide)
theorem Top.ko_Filter (T : Top K mg) : ∀ d t, tyD d = some t → (∀ c, t = .own c → c ∈ CS) → PySem.W.kitOne K (t.val K) (.ref (ca K "Filter")) = some (isaO sub "Filter" t) := chk_ko T.ty (by decide +kernel)
theorem Top.cl_Filter (T : Top K mg) : Cls K (ca K "Filter") := (T.tyf "Filter" (by decide +kernel)).cl
theorem Top.ko_Table (T : Top K mg) : ∀ d t, tyD d = some t → (∀ c, t = .own c → c ∈ CS) → PySem.W.kitOne K (t.val K) (.ref (ca K "Table")) = some (isaO sub "Table" t) := chk_ko T.ty (by decide +kernel)
theorem Top.cl_Table (T : Top K mg) : Cls K (ca K "Table") := (T.tyf "Table" (by decide +kernel)).cl
theorem Top.fld_Table_kept (T : Top K mg) : ∀ c ∈ (["Table"] : List Str), Cls K (ca K c) ∧ NoAttr K (ca K c) "kept" := by
  intro c hc
  simp only [List.mem_cons, List.not_mem_nil, or_false] at hc
  subst hc
  exact ⟨T.cl_Table, He.noat_ok (T.says.fact 102 rfl)⟩
theorem Top.fld_Table_width (T : Top K mg) : ∀ c ∈ (["Table"] : List Str), Cls K (ca K c) ∧ NoAttr K (ca K c) "width" := by
  intro c hc
  simp only [List.mem_cons, List.not_mem_nil, or_false] at hc
  subst hc
  exact ⟨T.cl_Table, He.noat_ok (T.says.fact 103 rfl)⟩
theorem Top.fld_Table_prime (T : Top K mg) : ∀ c ∈ (["Table"] : List Str), Cls K (ca K c) ∧ NoAttr K (ca K c) "prime" := by
  intro c hc
  simp only [List.mem_cons, List.not_mem_nil, or_false] at hc
  subst hc
  exact ⟨T.cl_Table, He.noat_ok (T.says.fact 104 rfl)⟩
theorem Top.fld_Filter_prime (T : Top K mg) : ∀ c ∈ (["Filter"] : List Str), Cls K (ca K c) ∧ NoAttr K (ca K c) "prime" := by
  intro c hc
  simp only [List.mem_cons, List.not_mem_nil, or_false] at hc
  subst hc
  exact ⟨T.cl_Filter, He.noat_ok (T.says.fact 105 rfl)⟩
theorem Top.fld_Filter_kept (T : Top K mg) : ∀ c ∈ (["Filter"] : List Str), Cls K (ca K c) ∧ NoAttr K (ca K c) "kept" := by
  intro c hc
  simp only [List.mem_cons, List.not_mem_nil, or_false] at hc
  subst hc
  exact ⟨T.cl_Filter, He.noat_ok (T.says.fact 106 rfl)⟩
theorem Top.fld_Filter_held (T : Top K mg) : ∀ c ∈ (["Filter"] : List Str), Cls K (ca K c) ∧ NoAttr K (ca K c) "held" := by
  intro c hc
  simp only [List.mem_cons, List.not_mem_nil, or_false] at hc
  subst hc
  exact ⟨T.cl_Filter, He.noat_ok (T.says.fact 107 rfl)⟩
theorem Top.c_PRIMES (T : Top K mg) (G : Hp) : Rep K G (.tup ([2, 3, 5, 7].map D.int)) (.ref (ca K "PRIMES")) := rep_ints (T.ex 1) G
theorem Top.dfl_Table___init__ (T : Top K mg) (G : Hp) : Rep K G (.tup []) (.ref (He.dflAt ("Table", some "__init__") 0 K)) := .tup (tupAt_ok (T.ex 3) G) .nil
theorem Top.x_UnlikeTables (T : Top K mg) : excB "UnlikeTables" K = true := T.ex 4
theorem Top.op_Table_Add (T : Top K mg) : OpK K "Table" .Add := opB_ok (T.ex 5)
theorem Top.eq_Table (T : Top K mg) : eqB CS "Table" K = true := T.ex 6
theorem Top.ne_Table (T : Top K mg) : neB CS "Table" K = true := T.ex 7
theorem Top.base (T : Top K mg) : XBase K "SeenError" := seB_ok (T.ex 8)
theorem Top.xs (T : Top K mg) : ∀ c ∈ XS, ∀ c' ∈ XS, PySem.W.exmOne K (.ref (ca K c)) (.ref (ca K c')) = some (xsub c c') := xsB_ok (T.ex 9)
theorem Top.tbl (T : Top K mg) : ((tblOf K tfn).map (·.1)).Nodup := of_decide_eq_true (T.ex 10)
theorem Top.d_is_integer (T : Top K mg) : ∃ fd, FunD K "is_integer" "is_integer" (defArgs (top 3)) (defBody (top 3)) (defScope (top 3)) [] [] (ca K "is_integer") fd := T.says.def_ 0 rfl
theorem Top.d_is_list (T : Top K mg) : ∃ fd, FunD K "is_list" "is_list" (defArgs (top 4)) (defBody (top 4)) (defScope (top 4)) [] [] (ca K "is_list") fd := T.says.def_ 1 rfl
theorem Top.d_is_prime (T : Top K mg) : ∃ fd, FunD K "is_prime" "is_prime" (defArgs (top 5)) (defBody (top 5)) (defScope (top 5)) [] [] (ca K "is_prime") fd := T.says.def_ 2 rfl
theorem Top.d_UnlikeTables___init__ (T : Top K mg) : ∃ fd, FunD K "__init__" "UnlikeTables.__init__" (defArgs (inClass (top 18) 0)) (defBody (inClass (top 18) 0)) (defScope (inClass (top 18) 0)) [] [] (He.ma K (ca K "UnlikeTables") "__init__") fd := T.says.def_ 3 rfl
theorem Top.d_is_term (T : Top K mg) : ∃ fd, FunD K "is_term" "is_term" (defArgs (top 31)) (defBody (top 31)) (defScope (top 31)) [] [] (ca K "is_term") fd := T.says.def_ 4 rfl
theorem Top.d_Filter___init__ (T : Top K mg) : ∃ fd, FunD K "__init__" "Filter.__init__" (defArgs (inClass (top 33) 0)) (defBody (inClass (top 33) 0)) (defScope (inClass (top 33) 0)) [.ref (He.dflAt ("Filter", some "__init__") 0 K)] [] (He.ma K (ca K "Filter") "__init__") fd := T.says.def_ 5 rfl
theorem Top.d_Filter___eq__ (T : Top K mg) : ∃ fd, FunD K "__eq__" "Filter.__eq__" (defArgs (inClass (top 33) 5)) (defBody (inClass (top 33) 5)) (defScope (inClass (top 33) 5)) [] [] (He.ma K (ca K "Filter") "__eq__") fd := T.says.def_ 6 rfl
theorem Top.d_Filter_terms (T : Top K mg) : ∃ fd, FunD K "terms" "Filter.terms" (defArgs (inClass (top 33) 7)) (defBody (inClass (top 33) 7)) (defScope (inClass (top 33) 7)) [] [] (He.ma K (ca K "Filter") "terms") fd := T.says.def_ 7 rfl
theorem Top.d_is_row (T : Top K mg) : ∃ fd, FunD K "is_row" "is_row" (defArgs (top 48)) (defBody (top 48)) (defScope (top 48)) [] [] (ca K "is_row") fd := T.says.def_ 8 rfl
theorem Top.d_Table___init__ (T : Top K mg) : ∃ fd, FunD K "__init__" "Table.__init__" (defArgs (inClass (top 51) 0)) (defBody (inClass (top 51) 0)) (defScope (inClass (top 51) 0)) [.ref (He.dflAt ("Table", some "__init__") 0 K)] [] (He.ma K (ca K "Table") "__init__") fd := T.says.def_ 9 rfl
theorem Top.d_Table___len__ (T : Top K mg) : ∃ fd, FunD K "__len__" "Table.__len__" (defArgs (inClass (top 51) 1)) (defBody (inClass (top 51) 1)) (defScope (inClass (top 51) 1)) [] [] (He.ma K (ca K "Table") "__len__") fd := T.says.def_ 10 rfl
theorem Top.d_Table___iter__ (T : Top K mg) : ∃ fd, FunD K "__iter__" "Table.__iter__" (defArgs (inClass (top 51) 2)) (defBody (inClass (top 51) 2)) (defScope (inClass (top 51) 2)) [] [] (He.ma K (ca K "Table") "__iter__") fd := T.says.def_ 11 rfl
theorem Top.d_Table___eq__ (T : Top K mg) : ∃ fd, FunD K "__eq__" "Table.__eq__" (defArgs (inClass (top 51) 3)) (defBody (inClass (top 51) 3)) (defScope (inClass (top 51) 3)) [] [] (He.ma K (ca K "Table") "__eq__") fd := T.says.def_ 12 rfl
theorem Top.d_Table_rows (T : Top K mg) : ∃ fd, FunD K "rows" "Table.rows" (defArgs (inClass (top 51) 4)) (defBody (inClass (top 51) 4)) (defScope (inClass (top 51) 4)) [] [] (He.ma K (ca K "Table") "rows") fd := T.says.def_ 13 rfl
theorem Top.d_Table_fits (T : Top K mg) : ∃ fd, FunD K "fits" "Table.fits" (defArgs (inClass (top 51) 5)) (defBody (inClass (top 51) 5)) (defScope (inClass (top 51) 5)) [] [] (He.ma K (ca K "Table") "fits") fd := T.says.def_ 14 rfl
theorem Top.d_Table___add__ (T : Top K mg) : ∃ fd, FunD K "__add__" "Table.__add__" (defArgs (inClass (top 51) 7)) (defBody (inClass (top 51) 7)) (defScope (inClass (top 51) 7)) [] [] (He.ma K (ca K "Table") "__add__") fd := T.says.def_ 15 rfl
theorem Top.d__law_spring (T : Top K mg) : ∃ fd, FunD K "_law_spring" "_law_spring" (defArgs (top 53)) (defBody (top 53)) (defScope (top 53)) [] [] (ca K "_law_spring") fd := T.says.def_ 16 rfl
theorem Top.d__law_draw (T : Top K mg) : ∃ fd, FunD K "_law_draw" "_law_draw" (defArgs (top 54)) (defBody (top 54)) (defScope (top 54)) [] [] (ca K "_law_draw") fd := T.says.def_ 17 rfl
theorem Top.d__law_pick (T : Top K mg) : ∃ fd, FunD K "_law_pick" "_law_pick" (defArgs (top 55)) (defBody (top 55)) (defScope (top 55)) [] [] (ca K "_law_pick") fd := T.says.def_ 18 rfl
theorem Top.d__law_same (T : Top K mg) : ∃ fd, FunD K "_law_same" "_law_same" (defArgs (top 56)) (defBody (top 56)) (defScope (top 56)) [] [] (ca K "_law_same") fd := T.says.def_ 19 rfl
theorem Top.d__law_held (T : Top K mg) : ∃ fd, FunD K "_law_held" "_law_held" (defArgs (top 57)) (defBody (top 57)) (defScope (top 57)) [] [] (ca K "_law_held") fd := T.says.def_ 20 rfl
theorem Top.d__law_pairs (T : Top K mg) : ∃ fd, FunD K "_law_pairs" "_law_pairs" (defArgs (top 58)) (defBody (top 58)) (defScope (top 58)) [] [] (ca K "_law_pairs") fd := T.says.def_ 21 rfl
theorem Top.d__law_drawn (T : Top K mg) : ∃ fd, FunD K "_law_drawn" "_law_drawn" (defArgs (top 59)) (defBody (top 59)) (defScope (top 59)) [] [] (ca K "_law_drawn") fd := T.says.def_ 22 rfl
theorem Top.d__law_made (T : Top K mg) : ∃ fd, FunD K "_law_made" "_law_made" (defArgs (top 60)) (defBody (top 60)) (defScope (top 60)) [] [] (ca K "_law_made") fd := T.says.def_ 23 rfl
theorem Top.d__law_is (T : Top K mg) : ∃ fd, FunD K "_law_is" "_law_is" (defArgs (top 61)) (defBody (top 61)) (defScope (top 61)) [] [] (ca K "_law_is") fd := T.says.def_ 24 rfl
theorem Top.d__law_prime (T : Top K mg) : ∃ fd, FunD K "_law_prime" "_law_prime" (defArgs (top 62)) (defBody (top 62)) (defScope (top 62)) [] [] (ca K "_law_prime") fd := T.says.def_ 25 rfl
theorem Top.d__law_other (T : Top K mg) : ∃ fd, FunD K "_law_other" "_law_other" (defArgs (top 63)) (defBody (top 63)) (defScope (top 63)) [] [] (ca K "_law_other") fd := T.says.def_ 26 rfl
theorem Top.d__law_row (T : Top K mg) : ∃ fd, FunD K "_law_row" "_law_row" (defArgs (top 64)) (defBody (top 64)) (defScope (top 64)) [] [] (ca K "_law_row") fd := T.says.def_ 27 rfl
theorem Top.d__law_filters (T : Top K mg) : ∃ fd, FunD K "_law_filters" "_law_filters" (defArgs (top 65)) (defBody (top 65)) (defScope (top 65)) [] [] (ca K "_law_filters") fd := T.says.def_ 28 rfl
theorem Top.d__law_row_is (T : Top K mg) : ∃ fd, FunD K "_law_row_is" "_law_row_is" (defArgs (top 66)) (defBody (top 66)) (defScope (top 66)) [] [] (ca K "_law_row_is") fd := T.says.def_ 29 rfl
theorem Top.d__law_table_is (T : Top K mg) : ∃ fd, FunD K "_law_table_is" "_law_table_is" (defArgs (top 67)) (defBody (top 67)) (defScope (top 67)) [] [] (ca K "_law_table_is") fd := T.says.def_ 30 rfl
theorem Top.d__law_table (T : Top K mg) : ∃ fd, FunD K "_law_table" "_law_table" (defArgs (top 68)) (defBody (top 68)) (defScope (top 68)) [] [] (ca K "_law_table") fd := T.says.def_ 31 rfl
theorem Top.d__law_told_rows_right (T : Top K mg) : ∃ fd, FunD K "_law_told_rows_right" "_law_told_rows_right" (defArgs (top 69)) (defBody (top 69)) (defScope (top 69)) [] [] (ca K "_law_told_rows_right") fd := T.says.def_ 32 rfl
theorem Top.d__law_compared_right (T : Top K mg) : ∃ fd, FunD K "_law_compared_right" "_law_compared_right" (defArgs (top 70)) (defBody (top 70)) (defScope (top 70)) [] [] (ca K "_law_compared_right") fd := T.says.def_ 33 rfl
theorem Top.d_law (T : Top K mg) : ∃ fd, FunD K "law" "law" (defArgs (top 71)) (defBody (top 71)) (defScope (top 71)) [] [] (ca K "law") fd := T.says.def_ 34 rfl
end
end My

namespace My
open PySem PySem.Spec L2 DL
def names : List PySem.Str := (["_wall", "PRIMES", "is_integer", "is_list", "is_prime", "are_digits", "inverse", "SeenError", "BadPrime", "BadTerm", "UnlikePrimes", "ZeroFilter", "BadRule", "BadDigits", "BadWidth", "BadRow", "UnlikeTables", "BadSequences", "divided", "product_rest", "shift_rest", "moved_rest", "far_rest", "check_primes", "gcd", "lcm", "NEAR", "is_term", "divisor_of", "Filter"] : List PySem.Str) ++ (["zero_row", "combined", "less", "head_of", "narrowest", "headed", "echelon", "marked", "rest_of", "least_rule", "Sequence", "is_row", "are_sequences", "has_terms", "Table", "_law_spring", "_law_draw", "_law_pick", "_law_same", "_law_held", "_law_pairs", "_law_drawn", "_law_made", "_law_is", "_law_prime", "_law_other", "_law_row", "_law_filters", "_law_row_is", "_law_table_is"] : List PySem.Str) ++ (["_law_table", "_law_told_rows_right", "_law_compared_right"] : List PySem.Str)
def addrs : List Addr := ([2, 3, 6, 4, 21, 22, 29, 36, 43, 48, 53, 63, 83, 102, 121, 140, 159, 178, 197, 216, 235, 254, 261, 266, 271, 276, 281, 288, 295, 302, 309, 314, 455, 464, 469, 474, 481, 488, 493, 498, 503, 510, 517, 642, 651, 656, 661, 794, 805, 812] : List Addr) ++ ([819, 824, 829, 834, 841, 848, 855, 862, 867, 872, 877, 882, 887, 892, 897, 902, 907, 0, 20, 28, 35, 42, 47, 52, 62, 82, 101, 120, 139, 158, 177, 196, 215, 234, 253, 260, 265, 270, 275, 280, 287, 294, 301, 308, 313, 454, 463, 468, 473, 480] : List Addr) ++ ([487, 492, 497, 502, 509, 516, 641, 650, 655, 660, 793, 804, 811, 818, 823, 828, 833, 840, 847, 854, 861, 866, 871, 876, 881, 886, 891, 896, 901, 906, 15, 16, 17, 18, 19, 23, 24, 25, 26, 27, 30, 31, 32, 33, 34, 37, 38, 39, 40, 41] : List Addr) ++ ([44, 45, 46, 49, 50, 51, 61, 64, 80, 81, 99, 100, 118, 119, 137, 138, 156, 157, 175, 176, 194, 195, 213, 214, 232, 233, 251, 252, 257, 258, 259, 262, 263, 264, 267, 268, 269, 272, 273, 274, 277, 278, 279, 282, 283, 284, 285, 286, 289, 290] : List Addr) ++ ([291, 292, 293, 296, 297, 298, 299, 300, 303, 304, 305, 306, 307, 310, 311, 312, 328, 337, 345, 352, 359, 366, 373, 380, 387, 394, 401, 406, 413, 418, 423, 428, 435, 442, 447, 452, 453, 456, 457, 460, 461, 462, 465, 466, 467, 470, 471, 472, 475, 476] : List Addr) ++ ([477, 478, 479, 482, 483, 484, 485, 486, 489, 490, 491, 494, 495, 496, 499, 500, 501, 504, 505, 506, 507, 508, 511, 512, 513, 514, 515, 531, 540, 550, 556, 563, 570, 577, 584, 591, 596, 603, 608, 613, 620, 627, 632, 639, 640, 643, 644, 647, 648, 649] : List Addr) ++ ([652, 653, 654, 657, 658, 659, 675, 682, 689, 696, 701, 708, 715, 722, 727, 734, 741, 746, 751, 758, 763, 770, 777, 784, 791, 792, 795, 796, 799, 800, 801, 802, 803, 806, 807, 808, 809, 810, 813, 814, 815, 816, 817, 820, 821, 822, 825, 826, 827, 830] : List Addr) ++ ([831, 832, 835, 836, 837, 838, 839, 842, 843, 844, 845, 846, 849, 850, 851, 852, 853, 856, 857, 858, 859, 860, 863, 864, 865, 868, 869, 870, 873, 874, 875, 878, 879, 880, 883, 884, 885, 888, 889, 890, 893, 894, 895, 898, 899, 900, 903, 904, 905, 79] : List Addr) ++ ([98, 117, 136, 155, 174, 193, 212, 231, 250, 327, 323, 335, 336, 344, 351, 358, 365, 372, 379, 386, 393, 400, 405, 412, 417, 422, 427, 434, 441, 446, 451, 530, 538, 539, 548, 549, 555, 562, 569, 576, 583, 590, 595, 602, 607, 612, 619, 626, 631, 638] : List Addr) ++ ([674, 670, 681, 688, 695, 700, 707, 714, 721, 726, 733, 740, 745, 750, 757, 762, 769, 776, 783, 790, 74, 75, 76, 77, 78, 93, 94, 95, 96, 97, 112, 113, 114, 115, 116, 131, 132, 133, 134, 135, 150, 151, 152, 153, 154, 169, 170, 171, 172, 173] : List Addr) ++ ([188, 189, 190, 191, 192, 207, 208, 209, 210, 211, 226, 227, 228, 229, 230, 245, 246, 247, 248, 249, 324, 325, 326, 322, 334, 338, 339, 340, 341, 342, 343, 346, 347, 348, 349, 350, 353, 354, 355, 356, 357, 360, 361, 362, 363, 364, 367, 368, 369, 370] : List Addr) ++ ([371, 374, 375, 376, 377, 378, 381, 382, 383, 384, 385, 388, 389, 390, 391, 392, 395, 396, 397, 398, 399, 402, 403, 404, 407, 408, 409, 410, 411, 414, 415, 416, 419, 420, 421, 424, 425, 426, 429, 430, 431, 432, 433, 436, 437, 438, 439, 440, 443, 444] : List Addr) ++ ([445, 448, 449, 450, 525, 526, 527, 528, 529, 537, 541, 547, 551, 552, 553, 554, 557, 558, 559, 560, 561, 564, 565, 566, 567, 568, 571, 572, 573, 574, 575, 578, 579, 580, 581, 582, 585, 586, 587, 588, 589, 592, 593, 594, 597, 598, 599, 600, 601, 604] : List Addr) ++ ([605, 606, 609, 610, 611, 614, 615, 616, 617, 618, 621, 622, 623, 624, 625, 628, 629, 630, 633, 634, 635, 636, 637, 671, 672, 673, 669, 676, 677, 678, 679, 680, 683, 684, 685, 686, 687, 690, 691, 692, 693, 694, 697, 698, 699, 702, 703, 704, 705, 706] : List Addr) ++ ([709, 710, 711, 712, 713, 716, 717, 718, 719, 720, 723, 724, 725, 728, 729, 730, 731, 732, 735, 736, 737, 738, 739, 742, 743, 744, 747, 748, 749, 752, 753, 754, 755, 756, 759, 760, 761, 764, 765, 766, 767, 768, 771, 772, 773, 774, 775, 778, 779, 780] : List Addr) ++ ([781, 782, 785, 786, 787, 788, 789] : List Addr)
abbrev R : PySem.W.OpenRow := PySem.W.OpenLaw.row PySem.Challenge.rw_seenrows_k15_tables_made
abbrev hk : PySem.W.Hook := hookP addrs fa fn cmf tf exB
def ob (s : PySem.W.SharedT) : AlN := obsP addrs fa fn cmf tf exB (HandSHeadRun.getT s)
theorem ob_eq (s : PySem.W.SharedT) : ob s = hk.obs s.abs := obsP_eq (HandSHeadRun.getT_eq s)
theorem map3 {α β γ δ : Type} {o : Option α} {f : α → β} {g : α → γ} {h : α → δ} {a : β} {b : γ} {c : δ} (h1 : o.map f = some a) (h2 : o.map g = some b) (h3 : o.map h = some c) : o.map (fun s => (f s, g s, h s)) = some (a, b, c) := by
  cases o with
  | none => exact nomatch h1
  | some s =>
    have e1 : f s = a := Option.some.inj h1
    have e2 : g s = b := Option.some.inj h2
    have e3 : h s = c := Option.some.inj h3
    show some (f s, g s, h s) = _
    rw [e1, e2, e3]
section
open PySem.W PySem.Calls PyProof.Rows HandSHeadRun
theorem runA (w : World) (os : OsState) : (endF (stepQ (denQ tabQ) R.prog w) 9000 R.prog w os).map (fun s => looksF R.prog (boot_heap w.params) s.abs) = some true := by kernel_rfl
theorem runB (w : World) (os : OsState) : (endF (stepQ (denQ tabQ) R.prog w) 9000 R.prog w os).map (fun s => seenQ (view R.prog [71]) names (importedModules R.prog.main.body) (fun s => xlAt (view R.prog [71]) [] s && recOk R.toRowW.records s) s.abs) = some (openGood (view R.prog [71]) names) := by kernel_rfl
theorem runC1 (w : World) (os : OsState) : (endF (stepQ (denQ tabQ) R.prog w) 9000 R.prog w os).map (fun s => He.obsD fa (fn.take 50) (He.frT (HandSHeadRun.getT s) addrs)) = some (He.valD (fn.take 50)) := by kernel_rfl
theorem runC2 (w : World) (os : OsState) : (endF (stepQ (denQ tabQ) R.prog w) 9000 R.prog w os).map (fun s => He.obsD [] (fn.drop 50) (He.frT (HandSHeadRun.getT s) addrs)) = some (He.valD (fn.drop 50)) := by kernel_rfl
theorem runC3 (w : World) (os : OsState) : (endF (stepQ (denQ tabQ) R.prog w) 9000 R.prog w os).map (fun s => (He5.obsA [] cmf (He.frT (HandSHeadRun.getT s) addrs), exB (He.frT (HandSHeadRun.getT s) addrs) && He.tabsB (HandSHeadRun.getT s) tf (He.frT (HandSHeadRun.getT s) addrs))) = some (He5.valA cmf, true) := by kernel_rfl
theorem runC (w : World) (os : OsState) : (endF (stepQ (denQ tabQ) R.prog w) 9000 R.prog w os).map ob = some (hk.val w) := mapP (runC1 w os) (runC2 w os) (runC3 w os) fun s h1 h2 h3 => obsP_join 50 h1 h2 h3
end
theorem run (w : World) : HandSHeadRun.RunEq R (PySem.W.view R.prog [71]) hk ob 9000 names w := fun os => map3 (runA w os) (runB w os) (runC w os)
end My

namespace DL
open PySem PySem.Spec L2
def sprJ (s c : Addr) (n : Nat) (H : Hp) : Prop := s ≠ c ∧ ∃ (cells : List Int) (r m : Int), H s = some (.lst [.ref c, .int r, .int (n : Int), .int m]) ∧ H c = some (.lst (cells.map V.int)) ∧ 0 ≤ m ∧ m < 2147483647
abbrev SpC := Addr × List (Addr × Str)
theorem tabs_frame {T : List (Addr × Str)} {H H' : Hp} (h : LamX.Tabs T H) (f : ∀ p ∈ T, ∀ ps, H p.1 = some (.tbl ps) → H' p.1 = some (.tbl ps)) (g : ∀ b e, H b = some (.ext e) → H' b = some (.ext e)) : LamX.Tabs T H' := fun p hp => by
  obtain ⟨ps, e1, e2, e3⟩ := h p hp
  refine ⟨ps, f p hp ps e1, e2, fun pos cv z => ?_⟩
  obtain ⟨c, q1, q2⟩ := e3 pos cv z
  exact ⟨c, q1, g _ _ q2⟩
def sprW (s : Addr) (c : SpC) : Wd where
  rg a := (a = s ∨ a = c.1) ∨ a ∈ c.2.map (·.1)
  J n H := sprJ s c.1 n H ∧ LamX.Tabs c.2 H
  stable n H H' h g j := by
    obtain ⟨⟨ne, cells, r, m, h1, h2, h3⟩, t⟩ := j
    exact ⟨⟨ne, cells, r, m, by rw [h s (.inl (.inl rfl))]; exact h1, by rw [h c.1 (.inl (.inr rfl))]; exact h2, h3⟩, tabs_frame t (fun p hp ps e => by rw [h p.1 (.inr (List.mem_map.mpr ⟨p, hp, rfl⟩))]; exact e) g⟩
  there n H a j r := by
    obtain ⟨⟨ne, cells, _, m, h1, h2, h3⟩, t⟩ := j
    rcases r with (r | r) | r
    · rw [r, h1]; exact fun z => nomatch z
    · rw [r, h2]; exact fun z => nomatch z
    · obtain ⟨p, hp, e⟩ := List.mem_map.mp r
      obtain ⟨ps, q, _⟩ := t p hp
      rw [← e, q]; exact fun z => nomatch z
theorem sprW_lam {s P : Addr} {c : SpC} {q : Str} (h : (P, q) ∈ c.2) (hu : ∀ p ∈ c.2, p.1 = P → p.2 = q) : LamW (sprW s c) P q where
  rg := .inr (List.mem_map.mpr ⟨_, h, rfl⟩)
  tab n H j := j.2 _ h
  st n H H1 j to t1 := by
    rcases to with rfl | ⟨ps, more, c', e, nc, rfl⟩
    · exact j
    obtain ⟨⟨ne, cells, r, m, h1, h2, h3⟩, t⟩ := j
    have nm : ∀ b o, H b = some o → b ≠ P → upd (upd H P (.tbl (ps ++ more))) c' (LamX.CodeO c' q) b = some o := fun b o z n => by
      rw [upd_ne (ne_of_none z nc), upd_ne n]; exact z
    refine ⟨⟨ne, cells, r, m, nm _ _ h1 fun z => ?_, nm _ _ h2 fun z => ?_, h3⟩, fun p hp => ?_⟩
    · rw [z, e] at h1; cases h1
    · rw [z, e] at h2; cases h2
    · by_cases hP : p.1 = P
      · rw [hu p hp hP, hP]; exact t1
      · obtain ⟨us, e1, e2, e3⟩ := t p hp
        refine ⟨us, nm _ _ e1 hP, e2, fun pos cv z => ?_⟩
        obtain ⟨c0, q1, q2⟩ := e3 pos cv z
        exact ⟨c0, q1, nm _ _ q2 fun w => by rw [w, e] at q2; cases q2⟩
def fDraw : DF := fun W ds n q _ => match ds with
  | [.hnd s, .int many] => (∃ c, W = sprW s c) ∧ 0 < many ∧ many < 1073741824 ∧ n < 1000000 ∧ ∀ k : Nat, (k : Int) < many → q (.int k) (n + 1)
  | _ => False
section
variable {X : Cx} {pos : Pos}
theorem dp_ints {K : PySem.W.Frag} {H : Hp} : ∀ ns : List Int, DpAll K H (ns.map V.int) (ns.map PyData.int)
  | [] => .nil
  | n :: ns => .cons (.int n) (dp_ints ns)
end
end DL
namespace My
open PySem PySem.Spec L2 DL
section
variable {P : Program} {w : World} {K : PySem.W.Frag} {mg : Str → Option Value} {base : Heap}
theorem sc_draw : FnScope ["_law_spring_here", "_law_many", "_law_cell", "_law_digit", "_law_mixed"] ["_law_spring_here", "_law_many"] (defScope (top 54)) := ⟨rfl, rfl, rfl, by decide +kernel, rfl, by decide +kernel, by decide +kernel⟩
theorem upd_frame {H : Hp} {a : Addr} {o : HO} {Rg : Addr → Prop} {H' : Hp} (h : ∀ b u, H b = some u → ¬ Rg b → H' b = some u) (r : Rg a ∨ H a = none) : ∀ b u, H b = some u → ¬ Rg b → (upd H' a o) b = some u := fun b u e n => by
  rw [upd_ne (fun z => ?_)]
  · exact h b u e n
  · subst z
    rcases r with r | r
    · exact n r
    · rw [r] at e; cases e
theorem if_run {b : Bool} {p q : Prop} (h1 : b = true → p) (h2 : b = false → q) : if b = true then p else q := by
  cases b with
  | true => exact h1 rfl
  | false => exact h2 rfl
theorem ixr {σ : L2.St} {H : Hp} {Q : VK} {K : PySem.W.Frag} {i : Int} {s : Addr} {xs : List V} {v : V} (h0 : σ[0]? = some (some (.ref s))) (hs : H s = some (.lst xs)) (hi : atI xs i = some v) (q : Q v H) : tOp (rIxL K) (tVar 0) (tC (.int i)) σ H Q :=
  ⟨_, h0, s, xs, i, v, rfl, rfl, SqL.of hs, hi, q⟩
theorem gsr {σ : L2.St} {H : Hp} {Q : L2.St → Hp → Prop} {i : Int} {j : Nat} {s : Addr} {xs : List V} {v : V} (h0 : σ[0]? = some (some (.ref s))) (hs : H s = some (.lst xs)) (hi : ixN xs.length i = some j) {ys : List V} (hy : xs.set j v = ys) (q : Q σ (upd H s (.lst ys))) : gSub (tVar 0) (tC (.int i)) rSetL v σ H Q :=
  ⟨_, h0, s, xs, i, j, rfl, rfl, hs, hi, by rw [hy]; exact q⟩
theorem ok__law_draw (T : Top K mg) : Sg P w K mg base "_law_draw" 1 2 fDraw [] := by
  obtain ⟨fd, FD⟩ := T.d__law_draw
  refine ⟨_, fd, ["_law_spring_here", "_law_many"], [], [], ?_, T.g__law_draw, FD.kp, FD.bindsN (fun _ _ _ _ _ _ us hl => match us, hl with | [_, _], _ => rfl), .nil, fun _ => .nil⟩
  refine FD.ok sc_draw (fun vs H Q E h => ?_) (fun cdv A outer sh H vs Q E hr h => ?_)
  · obtain ⟨W, n, G, ds, q, x, _, _, _, r, hl, _⟩ := h
    rw [← r.length, hl]; rfl
  · obtain ⟨W, n, G, ds, q, xx, le, rg, j, r, hl, hF, kq, kx⟩ := h
    have hu := hr.units
    match ds, hF, r with
    | [.hnd s, .int many], hF, .cons (.hnd _) (.cons (.int _) .nil) =>
    obtain ⟨⟨⟨c, Ts⟩, rfl⟩, m0, m1, hn, hF⟩ := hF
    obtain ⟨⟨ne, cells, rr, mm, hs, hc, hm⟩, hTs⟩ := j
    dsimp only at ne hs hc hTs
    have fin : ∀ (k : Int) (H' : Hp) (cells' : List Int) (r' m' : Int), 0 ≤ k → k < many → (∀ b u, H b = some u → ¬ (b = s ∨ b = c) → H' b = some u) → H' s = some (.lst [.ref c, .int r', .int ((n : Int) + 1), .int m']) → H' c = some (.lst (cells'.map V.int)) → 0 ≤ m' → m' < 2147483647 → Q (.int k) H' := by
      intro k H' cells' r' m' k0 k1 fr h1 h2 h3 h4
      have e : k = (k.toNat : Int) := by omega
      rw [e]
      refine kq _ H' G (.int k.toNat) (n + 1) ⟨fun a o e r => fr a o e fun z => r (.inl z), Le.refl G, fun a o e => ⟨o, ?_, rfl⟩, fun a e => .inl e⟩ ⟨⟨ne, cells', r', m', by rw [h1]; rfl, h2, h3, h4⟩, tabs_frame hTs (fun p hp ps e => fr _ _ e fun z => ?_) fun b e q => fr _ _ q fun z => ?_⟩ (.int _) (hF _ (by omega))
      rotate_right
      · rcases z with z | z
        · rw [z, hs] at q; cases q
        · rw [z, hc] at q; cases q
      rotate_right
      · rcases z with z | z
        · rw [z, hs] at e; cases e
        · rw [z, hc] at e; cases e
      refine fr a o (le.get e) fun z => ?_
      rw [rg a (.inl z)] at e; cases e
    have X := cxOf (L2.CX P w) P w K mg base ["_law_spring_here", "_law_many", "_law_cell", "_law_digit", "_law_mixed"] "_law_draw" (defScope (top 54)) (ca K "_law_draw") cdv A outer sh H E
    obtain ⟨t2, p2, h2⟩ : ∃ t2, PSs (cxOf (L2.CX P w) P w K mg base ["_law_spring_here", "_law_many", "_law_cell", "_law_digit", "_law_mixed"] "_law_draw" (defScope (top 54)) (ca K "_law_draw") cdv A outer sh H E) ((defBody (top 54)).drop 2) t2 ∧
        ∀ (D : Ends) (σ : L2.St) (H' : Hp) (cells' : List Int) (r' m' : Int), D.rt = Q → σ.length = 5 → σ[0]? = some (some (.ref s)) → σ[1]? = some (some (.int many)) → (∀ b u, H b = some u → ¬ (b = s ∨ b = c) → H' b = some u) → H' s = some (.lst [.ref c, .int r', .int ((n : Int) + 1), .int m']) → H' c = some (.lst (cells'.map V.int)) → 0 ≤ m' → m' < 2147483647 → t2 D σ H' := by
      refine ⟨_, pss_cons (ps_if (pt_cmpR op_gt (pe_ix ix_list (pv 0) pe_int (fun _ _ => rfl)) pe_int (nomark _))
          (pss_cons (ps_set (i := 3) sc_draw.nd rfl (.inl rfl) (pe_op op_mod (pe_callTy call_int1 (by rfl) T.f_int (by decide +kernel) (pa_cons (pe_ix ix_list (pv 0) pe_int (fun _ _ => rfl)) pa_nil)) (pv 1)))
            (pss_cons (ps_asg (pe_op op_fdiv (pe_ix ix_list (pv 0) pe_int (fun _ _ => rfl)) (pv 1)) (pg_sub (pv 0) pe_int set_list (by intro _; rfl)))
              (pss_one (ps_ret (pv 3))))) pss_nil)
          (pss_cons (ps_set (i := 4) sc_draw.nd rfl (.inl rfl) (pe_op op_mod (pe_callTy call_int1 (by rfl) T.f_int (by decide +kernel) (pa_cons (pe_op op_pow (pe_op op_add (pe_op op_add (pe_ix ix_list (pv 0) pe_int (fun _ _ => rfl)) (pe_op op_mul pe_int (pe_ix ix_list (pv 0) pe_int (fun _ _ => rfl)))) pe_int) pe_int) pa_nil)) pe_int))
            (pss_cons (ps_set (i := 4) sc_draw.nd rfl (.inl rfl) (pe_op op_add (pe_op op_add (pe_op op_mul (pv 4) pe_int) (pe_op op_mul (pe_op op_mul pe_int (pe_ix ix_list (pv 0) pe_int (fun _ _ => rfl))) (pe_ix ix_list (pv 0) pe_int (fun _ _ => rfl)))) pe_int))
              (pss_one (ps_ret (pe_op op_mod (pe_op op_mod (pe_callTy call_int1 (by rfl) T.f_int (by decide +kernel) (pa_cons (pe_op op_pow (pv 4) pe_int) pa_nil)) pe_int) (pv 1)))))), ?_⟩
      intro D σ H' cells' r' m' eD hl h0 h1 fr hs' hc' hm0 hm1
      refine ixr h0 hs' rfl ?_
      refine ⟨r', 0, rfl, rfl, _, rfl, ?_⟩
      have g1 : ∀ (v : V) (i : Nat), i ≠ 0 → (σ.set i (some v))[0]? = some (some (.ref s)) := fun v i hi => by rw [List.getElem?_set, if_neg hi]; exact h0
      have g2 : ∀ (v : V) (i : Nat), i ≠ 1 → (σ.set i (some v))[1]? = some (some (.int many)) := fun v i hi => by rw [List.getElem?_set, if_neg hi]; exact h1
      have g3 : ∀ (v : V) (i : Nat), i < 5 → (σ.set i (some v))[i]? = some (some v) := fun v i hi => by rw [List.getElem?_set, if_pos rfl, if_pos (by omega)]
      refine if_run (fun hb => ?_) (fun hb => ?_)
      · refine ixr h0 hs' rfl ?_
        refine .inl ⟨r', rfl, ?_⟩
        refine ⟨_, h1, _, _, rfl, rfl, m0, ?_⟩
        refine ixr (g1 _ 3 (by decide)) hs' rfl ?_
        refine ⟨_, g2 _ 3 (by decide), _, _, rfl, rfl, ⟨m0, by omega⟩, ?_⟩
        refine gsr (j := 1) (g1 _ 3 (by decide)) hs' rfl rfl ?_
        refine ⟨_, g3 _ 3 (by decide), ?_⟩
        show D.rt _ _
        rw [eD]
        exact fin _ _ cells' (r' / many) m' (Int.emod_nonneg _ (by omega)) (Int.emod_lt_of_pos _ m0) (upd_frame fr (.inl (.inl rfl))) upd_same (by rw [upd_ne (Ne.symm ne)]; exact hc') hm0 hm1
      · refine ixr h0 hs' rfl ?_
        refine ixr h0 hs' rfl ?_
        refine ⟨_, _, rfl, rfl, .inl (by decide), ?_⟩
        refine ⟨_, _, rfl, rfl, ?_⟩
        refine ⟨_, _, rfl, rfl, ?_⟩
        refine ⟨_, _, rfl, rfl, ⟨by decide, by decide, by omega⟩, ?_⟩
        refine .inl ⟨_, rfl, ?_⟩
        refine ⟨_, _, rfl, rfl, (show (0 : Int) < 2147483629 by decide), ?_⟩
        have q0 := Int.emod_nonneg ((m' + 7919 * ((n : Int) + 1) + 104729) ^ Int.toNat 5) (show (2147483629 : Int) ≠ 0 by decide)
        have q1 := Int.emod_lt_of_pos ((m' + 7919 * ((n : Int) + 1) + 104729) ^ Int.toNat 5) (show (0 : Int) < 2147483629 by decide)
        generalize (m' + 7919 * ((n : Int) + 1) + 104729) ^ Int.toNat 5 % 2147483629 = mx at q0 q1 ⊢
        refine ⟨_, g3 _ 4 (by decide), ?_⟩
        refine ⟨_, _, rfl, rfl, .inr (by decide), ?_⟩
        refine ixr (g1 _ 4 (by decide)) hs' rfl ?_
        refine ⟨_, _, rfl, rfl, .inl (by decide), ?_⟩
        refine ixr (g1 _ 4 (by decide)) hs' rfl ?_
        refine ⟨_, _, rfl, rfl, .inr (by omega), ?_⟩
        refine ⟨_, _, rfl, rfl, ?_⟩
        refine ⟨_, _, rfl, rfl, ?_⟩
        have w0 : 0 ≤ 40503 * ((n : Int) + 1) * ((n : Int) + 1) := Int.mul_nonneg (by omega) (by omega)
        have w1 : 40503 * ((n : Int) + 1) * ((n : Int) + 1) ≤ 40503 * 1000000 * 1000000 := Int.mul_le_mul (by omega) (by omega) (by omega) (by omega)
        generalize 40503 * ((n : Int) + 1) * ((n : Int) + 1) = ww at w0 w1 ⊢
        have e4 : ∀ v u : V, ((σ.set 4 (some v)).set 4 (some u))[4]? = some (some u) := fun v u => by rw [List.getElem?_set, if_pos rfl, if_pos (by rw [List.length_set]; omega)]
        have e1 : ∀ v u : V, ((σ.set 4 (some v)).set 4 (some u))[1]? = some (some (.int many)) := fun v u => by rw [List.getElem?_set, if_neg (by decide)]; exact g2 _ 4 (by decide)
        refine ⟨_, e4 _ _, ?_⟩
        refine ⟨_, _, rfl, rfl, ⟨by decide, by decide, by omega⟩, ?_⟩
        refine .inl ⟨_, rfl, ?_⟩
        refine ⟨_, _, rfl, rfl, (show (0 : Int) < 1000000007 by decide), ?_⟩
        refine ⟨_, e1 _ _, ?_⟩
        refine ⟨_, _, rfl, rfl, m0, ?_⟩
        show D.rt _ _
        rw [eD]
        exact fin _ _ cells' r' m' (Int.emod_nonneg _ (by omega)) (Int.emod_lt_of_pos _ m0) fr hs' hc' hm0 hm1
    refine ⟨_, pss_cons (ps_asg (pe_op op_add (pe_ix ix_list (pv 0) pe_int (fun _ _ => rfl)) pe_int) (pg_sub (pv 0) pe_int set_list (by intro _; rfl)))
      (pss_cons (ps_if (PW.pt (pw_and (pt_cmpR (op_eqD hu) (pe_ix ix_list (pv 0) pe_int (fun _ _ => rfl)) pe_int (nomark _)) (pw_and1 (pt_cmpR (op_neD hu) (pe_ix ix_list (pv 0) pe_int (fun _ _ => rfl)) (pe_lst pa_nil) (nomark _)))))
        (pss_cons (ps_set (i := 2) sc_draw.nd rfl (.inl rfl) (pe_bm PySem.F.plainAttrs_list PySem.F.slot_list_pop PySem.F.type_list_pop mt_popAt (pe_ix ix_list (pv 0) pe_int (fun _ _ => rfl)) (pa_cons pe_int pa_nil)))
          (pss_cons (ps_asg (pe_op op_mod (pe_callTy call_int1 (by rfl) T.f_int (by decide +kernel) (pa_cons (pe_op op_add (pe_op op_add (pe_op op_mul (pe_ix ix_list (pv 0) pe_int (fun _ _ => rfl)) pe_int) (pv 2)) pe_int) pa_nil)) pe_int) (pg_sub (pv 0) pe_int set_list (by intro _; rfl)))
            (pss_one (ps_if (pt_cmpR op_ge (pv 2) (pe_op op_pow pe_int pe_int) (nomark _)) (pss_one (ps_asg (pv 2) (pg_sub (pv 0) pe_int set_list (by intro _; rfl)))) pss_nil)))) pss_nil)
        p2), ?_⟩
    refine ixr rfl hs rfl ?_
    refine ⟨_, _, rfl, rfl, ?_⟩
    refine gsr (j := 2) rfl hs rfl (ys := [.ref c, .int rr, .int ((n : Int) + 1), .int mm]) rfl ?_
    have fr1 : ∀ b u, H b = some u → ¬ (b = s ∨ b = c) → (upd H s (.lst [.ref c, .int rr, .int ((n : Int) + 1), .int mm])) b = some u := upd_frame (fun b u e _ => e) (.inl (.inl rfl))
    have hs1 : (upd H s (.lst [.ref c, .int rr, .int ((n : Int) + 1), .int mm])) s = some (.lst [.ref c, .int rr, .int ((n : Int) + 1), .int mm]) := upd_same
    have hc1 : (upd H s (.lst [.ref c, .int rr, .int ((n : Int) + 1), .int mm])) c = some (.lst (cells.map V.int)) := by rw [upd_ne (Ne.symm ne)]; exact hc
    revert fr1 hs1 hc1
    generalize (upd H s (.lst [.ref c, .int rr, .int ((n : Int) + 1), .int mm])) = H1
    intro fr1 hs1 hc1
    refine ixr rfl hs1 rfl ?_
    refine ⟨_, _, .int _, .int _, rfl, rfl, _, rfl, ?_⟩
    refine if_run (fun hb => ?_) (fun hb => ?_)
    · refine ixr rfl hs1 rfl ?_
      refine ⟨Nat.zero_le _, fun p np => ?_⟩
      have pc : p ≠ c := fun z => by rw [z, hc1] at np; cases np
      have ps : p ≠ s := fun z => by rw [z, hs1] at np; cases np
      have hs2 : (upd H1 p (.lst [])) s = some (.lst [.ref c, .int rr, .int ((n : Int) + 1), .int mm]) := by rw [upd_ne (Ne.symm ps)]; exact hs1
      have hc2 : (upd H1 p (.lst [])) c = some (.lst (cells.map V.int)) := by rw [upd_ne (Ne.symm pc)]; exact hc1
      have fr2 : ∀ b u, H b = some u → ¬ (b = s ∨ b = c) → (upd H1 p (.lst [])) b = some u := fun b u e nb => by
        rw [upd_ne (fun z => by rw [z] at e nb; rw [fr1 p u e nb] at np; cases np)]
        exact fr1 b u e nb
      refine ⟨_, _, .lst (SqL.of hc2) (dp_ints cells), .lst (SqL.of upd_same) .nil, PySem.W.ke_shaped_ints cells, rfl, _, rfl, ?_⟩
      refine if_run (fun hb2 => ?_) (fun hb2 => ?_)
      · cases cells with
        | nil => exact nomatch hb2
        | cons x cells =>
          refine ixr rfl hs2 rfl ⟨.inl ⟨rfl, _, SqL.of hc2⟩, ?_⟩
          refine ⟨c, _, 0, 0, .int x, rfl, rfl, hc2, by decide, by decide, (ixN_seq (j := 0) (by unfold ixN; rw [if_pos (by decide), if_pos (by rw [List.length_map, List.length_cons]; omega)]; rfl)).1, rfl, ?_⟩
          have hs3 : (upd (upd H1 p (.lst [])) c (.lst (cells.map V.int))) s = some (.lst [.ref c, .int rr, .int ((n : Int) + 1), .int mm]) := by rw [upd_ne ne]; exact hs2
          have hc3 : (upd (upd H1 p (.lst [])) c (.lst (cells.map V.int))) c = some (.lst (cells.map V.int)) := upd_same
          have fr3 := upd_frame (o := .lst (cells.map V.int)) (a := c) (Rg := fun b => b = s ∨ b = c) fr2 (.inl (.inr rfl))
          show tSeq _ _ _ _ (upd (upd H1 p (.lst [])) c (.lst (cells.map V.int)))
          revert hs3 hc3 fr3
          generalize (upd (upd H1 p (.lst [])) c (.lst (cells.map V.int))) = H3
          intro hs3 hc3 fr3
          refine ixr rfl hs3 rfl ?_
          refine ⟨_, _, rfl, rfl, .inr (by decide), ?_⟩
          refine ⟨_, rfl, _, _, rfl, rfl, ?_⟩
          refine ⟨_, _, rfl, rfl, ?_⟩
          refine .inl ⟨_, rfl, ?_⟩
          refine ⟨_, _, rfl, rfl, (show (0 : Int) < 2147483647 by decide), ?_⟩
          refine gsr (j := 3) rfl hs3 rfl rfl ?_
          have q0 := Int.emod_nonneg (mm * 4099 + x + 13) (show (2147483647 : Int) ≠ 0 by decide)
          have q1 := Int.emod_lt_of_pos (mm * 4099 + x + 13) (show (0 : Int) < 2147483647 by decide)
          refine ⟨_, rfl, ?_⟩
          refine ⟨_, _, rfl, rfl, ⟨by decide, by decide, by decide⟩, ?_⟩
          refine ⟨_, _, rfl, rfl, _, rfl, ?_⟩
          refine if_run (fun hb3 => ?_) (fun hb3 => ?_)
          · refine ⟨_, rfl, ?_⟩
            refine gsr (j := 1) rfl upd_same rfl rfl ?_
            exact h2 _ _ _ cells x _ rfl rfl rfl rfl (upd_frame (upd_frame fr3 (.inl (.inl rfl))) (.inl (.inl rfl))) upd_same (by rw [upd_ne (Ne.symm ne), upd_ne (Ne.symm ne)]; exact hc3) q0 q1
          · exact h2 _ _ _ cells rr _ rfl rfl rfl rfl (upd_frame fr3 (.inl (.inl rfl))) upd_same (by rw [upd_ne (Ne.symm ne)]; exact hc3) q0 q1
      · exact h2 _ _ _ cells rr mm rfl rfl rfl rfl fr2 hs2 hc2 hm.1 hm.2
    · exact h2 _ _ _ cells rr mm rfl rfl rfl rfl fr1 hs1 hc1 hm.1 hm.2
end
end My

namespace My
open PySem PySem.Spec L2 DL
theorem cs_Filter : ("Filter" : Str) ∈ CS := by decide +kernel
theorem own_Filter : (∀ c, Ty.own "Filter" = .own c → c ∈ CS) ↔ True := ⟨fun _ => trivial, fun _ c e => by cases e; exact cs_Filter⟩
theorem isOb_Filter (s : String) : isaO sub "Filter" (.b s) = false := rfl
theorem mem_Filter : ("Filter" : Str) ∈ (["Filter"] : List Str) ↔ True := ⟨fun _ => trivial, fun _ => List.mem_singleton_self _⟩
theorem isO_Filter_Filter : isaO sub "Filter" (.own "Filter") = true := by decide +kernel
theorem isO_Filter_Sequence : isaO sub "Filter" (.own "Sequence") = false := by decide +kernel
theorem isO_Filter_Table : isaO sub "Filter" (.own "Table") = false := by decide +kernel
theorem cs_Sequence : ("Sequence" : Str) ∈ CS := by decide +kernel
theorem own_Sequence : (∀ c, Ty.own "Sequence" = .own c → c ∈ CS) ↔ True := ⟨fun _ => trivial, fun _ c e => by cases e; exact cs_Sequence⟩
theorem isOb_Sequence (s : String) : isaO sub "Sequence" (.b s) = false := rfl
theorem mem_Sequence : ("Sequence" : Str) ∈ (["Sequence"] : List Str) ↔ True := ⟨fun _ => trivial, fun _ => List.mem_singleton_self _⟩
theorem isO_Sequence_Filter : isaO sub "Sequence" (.own "Filter") = false := by decide +kernel
theorem isO_Sequence_Sequence : isaO sub "Sequence" (.own "Sequence") = true := by decide +kernel
theorem isO_Sequence_Table : isaO sub "Sequence" (.own "Table") = false := by decide +kernel
theorem cs_Table : ("Table" : Str) ∈ CS := by decide +kernel
theorem own_Table : (∀ c, Ty.own "Table" = .own c → c ∈ CS) ↔ True := ⟨fun _ => trivial, fun _ c e => by cases e; exact cs_Table⟩
theorem isOb_Table (s : String) : isaO sub "Table" (.b s) = false := rfl
theorem mem_Table : ("Table" : Str) ∈ (["Table"] : List Str) ↔ True := ⟨fun _ => trivial, fun _ => List.mem_singleton_self _⟩
theorem isO_Table_Filter : isaO sub "Table" (.own "Filter") = false := by decide +kernel
theorem isO_Table_Sequence : isaO sub "Table" (.own "Sequence") = false := by decide +kernel
theorem isO_Table_Table : isaO sub "Table" (.own "Table") = true := by decide +kernel
end My

namespace My
open PySem PySem.Spec L2 DL
section
variable {P : Program} {w : World} {K : PySem.W.Frag} {mg : Str → Option Value} {base : Heap}
theorem sc_UnlikeTables___init__ : FnScope ["self"] ["self"] (defScope (inClass (top 18) 0)) := ⟨rfl, rfl, rfl, by decide +kernel, rfl, by decide +kernel, by decide +kernel⟩
theorem xg_UnlikeTables (T : Top K mg) : Xg P w K mg base "UnlikeTables" (spX0 K "UnlikeTables") 1 := by
  obtain ⟨fd, FD⟩ := T.d_UnlikeTables___init__
  refine ⟨excB_ok T.x_UnlikeTables, T.g_UnlikeTables, fd, ["self"], rfl, ?_, FD.bindsN (fun _ _ _ _ _ _ us hl => match us, hl with | [_], _ => rfl)⟩
  refine FD.ok sc_UnlikeTables___init__ (fun vs H Q E h => ?_) (fun cdv A outer sh H vs Q E hr h => ?_)
  · obtain ⟨a, rfl, _⟩ := h
    rfl
  · obtain ⟨a, rfl, ha, hq⟩ := h
    refine ⟨_, pss_one (ps_expr (pe_seinit T.base (by rfl) T.g_SeenError (pa_cons (pv 0) (pa_cons pe_str pa_nil)))), ?_⟩
    exact ⟨_, rfl, a, _, _, rfl, by show 1 ≤ 1000; decide, (excB_ok T.x_UnlikeTables).oex, ha, hq⟩
end
end My


namespace My
abbrev Tm := List (Int × Int)
def getI (m : Tm) (k : Int) : Int := ((m.find? fun t => decide (t.1 = k)).map (·.2)).getD 0
def putI (m : Tm) (k v : Int) : Tm := if m.any fun t => decide (t.1 = k) then m.map fun t => if t.1 = k then (t.1, v) else t else m ++ [(k, v)]
def hstep (p : Int) (m : Tm) (t : Int × Int) : Tm := putI m t.1 ((getI m t.1 + t.2) % p)
def hsum (p : Int) (ts : Tm) : Tm := ts.foldl (hstep p) []
def srt (ks : List Int) : List Int := ks.mergeSort (fun a b => decide (a ≤ b))
def canon (p : Int) (ts : Tm) : Tm := ((srt ((hsum p ts).map (·.1))).filter fun k => decide (0 < getI (hsum p ts) k)).map fun k => (k, getI (hsum p ts) k)
def prods (ts us : Tm) : Tm := ts.flatMap fun t => us.map fun u => (t.1 + u.1, t.2 * u.2)
def isPr (p : Int) : Bool := [2, 3, 5, 7].contains p
theorem sorted_unique : ∀ {l m : List Int}, l.Perm m → l.Pairwise (· ≤ ·) → m.Pairwise (· ≤ ·) → l = m
  | [], m, h, _, _ => (List.nil_perm.mp h).symm
  | a :: l, m, h, s, t => by
    cases m with
    | nil => exact (List.perm_nil.mp h)
    | cons b m =>
      have e : a = b := by
        rw [List.pairwise_cons] at s t
        have h1 : a ∈ b :: m := h.subset (List.mem_cons_self ..)
        have h2 : b ∈ a :: l := h.symm.subset (List.mem_cons_self ..)
        rcases List.mem_cons.mp h1 with e | h1
        · exact e
        · rcases List.mem_cons.mp h2 with e | h2
          · exact e.symm
          · have := s.1 b h2; have := t.1 a h1; omega
      subst e
      rw [List.pairwise_cons] at s t
      rw [sorted_unique (List.Perm.cons_inv h) s.2 t.2]
theorem srt_perm (ks : List Int) : (srt ks).Perm ks := List.mergeSort_perm _ _
theorem srt_sorted (ks : List Int) : (srt ks).Pairwise (· ≤ ·) := by
  have h := List.pairwise_mergeSort (le := fun a b : Int => decide (a ≤ b)) (fun a b c h1 h2 => by simp at *; omega) (fun a b => by simp; omega) ks
  exact h.imp (fun h => by simpa using h)
theorem srt_of {ks ms : List Int} (h : ms.Perm ks) (s : ms.Pairwise (· ≤ ·)) : ms = srt ks := sorted_unique (h.trans (srt_perm ks).symm) s (srt_sorted ks)
def csum (ts : Tm) (x : Int) : Int := ((ts.filter fun t => decide (t.1 = x)).map (·.2)).sum
theorem csum_cons (t : Int × Int) (ts : Tm) (x : Int) : csum (t :: ts) x = (if t.1 = x then t.2 else 0) + csum ts x := by
  unfold csum
  rw [List.filter_cons]
  by_cases h : t.1 = x
  · simp [h]
  · simp [h]
theorem csum_nil (x : Int) : csum [] x = 0 := rfl
theorem csum_append (a b : Tm) (x : Int) : csum (a ++ b) x = csum a x + csum b x := by
  induction a with
  | nil => simp [csum_nil]
  | cons t a ih => rw [List.cons_append, csum_cons, csum_cons, ih]; omega
theorem getI_nil (k : Int) : getI [] k = 0 := rfl
theorem getI_cons (t : Int × Int) (m : Tm) (k : Int) : getI (t :: m) k = if t.1 = k then t.2 else getI m k := by
  unfold getI
  rw [List.find?_cons]
  by_cases h : t.1 = k <;> simp [h]
theorem getI_out {m : Tm} {k : Int} (h : k ∉ m.map (·.1)) : getI m k = 0 := by
  induction m with
  | nil => rfl
  | cons t m ih =>
    rw [List.map_cons, List.mem_cons] at h
    rw [getI_cons, if_neg (fun z => h (.inl z.symm)), ih (fun z => h (.inr z))]
theorem any_iff (m : Tm) (k : Int) : (m.any fun t => decide (t.1 = k)) = true ↔ k ∈ m.map (·.1) := by
  rw [List.any_eq_true, List.mem_map]
  constructor
  · rintro ⟨t, h1, h2⟩; exact ⟨t, h1, by simpa using h2⟩
  · rintro ⟨t, h1, h2⟩; exact ⟨t, h1, by simpa using h2⟩
theorem putI_keys (m : Tm) (k v : Int) : (putI m k v).map (·.1) = if k ∈ m.map (·.1) then m.map (·.1) else m.map (·.1) ++ [k] := by
  unfold putI
  by_cases h : k ∈ m.map (·.1)
  · rw [if_pos h, if_pos ((any_iff m k).mpr h), List.map_map]
    refine List.map_congr_left fun t _ => ?_
    show (if t.1 = k then (t.1, v) else t).1 = t.1
    split <;> rfl
  · rw [if_neg h, if_neg (fun z => h ((any_iff m k).mp z)), List.map_append]
    rfl
theorem getI_map (k v j : Int) : ∀ m : Tm, getI (m.map fun t => if t.1 = k then (t.1, v) else t) j = if j = k then (if k ∈ m.map (·.1) then v else 0) else getI m j
  | [] => by simp [getI_nil]
  | t :: m => by
    rw [List.map_cons, getI_cons, getI_map k v j m, getI_cons]
    by_cases h : t.1 = k
    · rw [if_pos h]
      by_cases hj : j = k
      · subst hj
        simp [h]
      · rw [if_neg hj, if_neg hj]
        have hk : ¬ k = j := fun z => hj z.symm
        simp [h, hk]
    · rw [if_neg h]
      by_cases hj : j = k
      · subst hj
        have h' : ¬ j = t.1 := fun z => h z.symm
        rw [if_neg h, if_pos rfl, if_pos rfl]
        simp only [List.map_cons, List.mem_cons, h', false_or]
      · rw [if_neg hj, if_neg hj]
theorem getI_snoc (k v j : Int) : ∀ m : Tm, k ∉ m.map (·.1) → getI (m ++ [(k, v)]) j = if j = k then v else getI m j
  | [], _ => by
    rw [List.nil_append, getI_cons, getI_nil]
    by_cases h : j = k
    · simp [h]
    · have h' : ¬ k = j := fun z => h z.symm
      simp [h, h']
  | t :: m, h => by
    rw [List.map_cons, List.mem_cons] at h
    rw [List.cons_append, getI_cons, getI_cons, getI_snoc k v j m (fun z => h (.inr z))]
    by_cases hj : j = k
    · have h' : ¬ t.1 = j := fun z => h (.inl (by rw [z, hj]))
      rw [if_neg h', if_pos hj, if_pos hj]
    · rw [if_neg hj, if_neg hj]
theorem getI_put (m : Tm) (k v j : Int) : getI (putI m k v) j = if j = k then v else getI m j := by
  unfold putI
  by_cases h : k ∈ m.map (·.1)
  · rw [if_pos ((any_iff m k).mpr h), getI_map, if_pos h]
  · rw [if_neg (fun z => h ((any_iff m k).mp z)), getI_snoc k v j m h]
theorem putI_nodup {m : Tm} (h : (m.map (·.1)).Nodup) (k v : Int) : ((putI m k v).map (·.1)).Nodup := by
  rw [putI_keys]
  split
  · exact h
  · rename_i hk
    rw [List.nodup_append]
    exact ⟨h, List.nodup_cons.mpr ⟨List.not_mem_nil, List.nodup_nil⟩, fun a ha b hb z => by
      rw [List.mem_singleton] at hb
      rw [z, hb] at ha
      exact hk ha⟩
theorem putI_length (m : Tm) (k v : Int) : (putI m k v).length ≤ m.length + 1 := by
  unfold putI
  split <;> simp
theorem fold_nodup (p : Int) : ∀ (ts m : Tm), (m.map (·.1)).Nodup → ((ts.foldl (hstep p) m).map (·.1)).Nodup
  | [], m, h => h
  | t :: ts, m, h => fold_nodup p ts _ (putI_nodup h _ _)
theorem fold_length (p : Int) : ∀ (ts m : Tm), (ts.foldl (hstep p) m).length ≤ m.length + ts.length
  | [], m => by simp
  | t :: ts, m => by
    have h1 := fold_length p ts (hstep p m t)
    have h2 := putI_length m t.1 ((getI m t.1 + t.2) % p)
    rw [List.foldl_cons, List.length_cons]
    unfold hstep at h1 ⊢
    omega
theorem fold_get (p : Int) : ∀ (ts m : Tm) (k : Int), (ts.foldl (hstep p) m |> fun r => getI r k) % p = (getI m k + csum ts k) % p
  | [], m, k => by simp [csum_nil]
  | t :: ts, m, k => by
    have ih := fold_get p ts (hstep p m t) k
    show getI (ts.foldl (hstep p) (hstep p m t)) k % p = _
    have ih : getI (ts.foldl (hstep p) (hstep p m t)) k % p = (getI (hstep p m t) k + csum ts k) % p := ih
    rw [ih, csum_cons]
    unfold hstep
    rw [getI_put]
    by_cases h : k = t.1
    · rw [if_pos h, if_pos h.symm, h, Int.emod_add_emod, Int.add_assoc]
    · rw [if_neg h, if_neg (fun z => h z.symm), Int.zero_add]
theorem fold_small {p : Int} (hp : 0 < p) : ∀ (ts m : Tm), (∀ k, 0 ≤ getI m k ∧ getI m k < p) → ∀ k, 0 ≤ getI (ts.foldl (hstep p) m) k ∧ getI (ts.foldl (hstep p) m) k < p
  | [], m, h => h
  | t :: ts, m, h => fold_small hp ts _ fun k => by
    unfold hstep
    rw [getI_put]
    split
    · exact ⟨Int.emod_nonneg _ (by omega), Int.emod_lt_of_pos _ hp⟩
    · exact h k
theorem hsum_get {p : Int} (hp : 0 < p) (ts : Tm) (k : Int) : getI (hsum p ts) k = csum ts k % p := by
  have h1 := fold_get p ts [] k
  have h2 := fold_small hp ts [] (fun k => ⟨by rw [getI_nil]; omega, by rw [getI_nil]; omega⟩) k
  have h1 : getI (hsum p ts) k % p = (getI [] k + csum ts k) % p := h1
  rw [getI_nil, Int.zero_add] at h1
  rw [← h1]
  exact (Int.emod_eq_of_lt h2.1 h2.2).symm
theorem hsum_nodup (p : Int) (ts : Tm) : ((hsum p ts).map (·.1)).Nodup := fold_nodup p ts [] List.nodup_nil
theorem hsum_length (p : Int) (ts : Tm) : (hsum p ts).length ≤ ts.length := by
  have := fold_length p ts []
  simpa [hsum] using this
theorem canon_sorted (p : Int) (ts : Tm) : ((canon p ts).map (·.1)).Pairwise (· < ·) := by
  unfold canon
  rw [List.map_map]
  have e : ((fun t : Int × Int => t.1) ∘ fun k => (k, getI (hsum p ts) k)) = id := rfl
  rw [e, List.map_id]
  refine List.Pairwise.sublist List.filter_sublist ?_
  have h1 := srt_sorted ((hsum p ts).map (·.1))
  have h2 : (srt ((hsum p ts).map (·.1))).Pairwise (· ≠ ·) := (srt_perm _).symm.nodup (hsum_nodup p ts)
  exact List.Pairwise.imp (fun ⟨a, b⟩ => by omega) (List.Pairwise.and h1 h2)
theorem canon_nodup (p : Int) (ts : Tm) : ((canon p ts).map (·.1)).Nodup := (canon_sorted p ts).imp (fun h => by omega)
theorem canon_mem {p : Int} (hp : 0 < p) (ts : Tm) (k v : Int) : (k, v) ∈ canon p ts ↔ v = csum ts k % p ∧ 0 < v := by
  unfold canon
  rw [List.mem_map]
  constructor
  · rintro ⟨a, h1, h2⟩
    rw [List.mem_filter] at h1
    cases h2
    exact ⟨hsum_get hp ts k, by simpa using h1.2⟩
  · rintro ⟨rfl, h⟩
    refine ⟨k, ?_, by rw [hsum_get hp]⟩
    rw [List.mem_filter, (srt_perm _).mem_iff]
    refine ⟨?_, by rw [hsum_get hp]; simpa using h⟩
    by_cases z : k ∈ (hsum p ts).map (·.1)
    · exact z
    · have := getI_out z
      rw [hsum_get hp] at this
      omega
theorem canon_length (p : Int) (ts : Tm) : (canon p ts).length ≤ ts.length := by
  unfold canon
  rw [List.length_map]
  refine Nat.le_trans (List.length_filter_le _ _) ?_
  rw [(srt_perm _).length_eq, List.length_map]
  exact hsum_length p ts
theorem pair_ext : ∀ {l m : Tm}, (l.map (·.1)).Pairwise (· < ·) → (m.map (·.1)).Pairwise (· < ·) → (∀ k v, (k, v) ∈ l ↔ (k, v) ∈ m) → l = m
  | [], m, _, _, h => by
    cases m with
    | nil => rfl
    | cons b m => exact absurd ((h b.1 b.2).mpr (List.mem_cons_self ..)) List.not_mem_nil
  | a :: l, m, s, t, h => by
    cases m with
    | nil => exact absurd ((h a.1 a.2).mp (List.mem_cons_self ..)) List.not_mem_nil
    | cons b m =>
      rw [List.map_cons, List.pairwise_cons] at s t
      have e : a = b := by
        have h1 := (h a.1 a.2).mp (List.mem_cons_self ..)
        have h2 := (h b.1 b.2).mpr (List.mem_cons_self ..)
        rcases List.mem_cons.mp h1 with e | h1
        · exact e
        · rcases List.mem_cons.mp h2 with e | h2
          · exact e.symm
          · have := s.1 b.1 (List.mem_map.mpr ⟨_, h2, rfl⟩)
            have := t.1 a.1 (List.mem_map.mpr ⟨_, h1, rfl⟩)
            omega
      subst e
      rw [pair_ext s.2 t.2 fun k v => ?_]
      constructor
      · intro z
        rcases List.mem_cons.mp ((h k v).mp (List.mem_cons_of_mem _ z)) with e | z'
        · have := s.1 k (List.mem_map.mpr ⟨_, z, rfl⟩)
          rw [← e] at this
          exact absurd this (by simp)
        · exact z'
      · intro z
        rcases List.mem_cons.mp ((h k v).mpr (List.mem_cons_of_mem _ z)) with e | z'
        · have := t.1 k (List.mem_map.mpr ⟨_, z, rfl⟩)
          rw [← e] at this
          exact absurd this (by simp)
        · exact z'
theorem canon_ext {p : Int} (hp : 0 < p) {ts us : Tm} (h : ∀ x, csum ts x % p = csum us x % p) : canon p ts = canon p us :=
  pair_ext (canon_sorted p ts) (canon_sorted p us) fun k v => by rw [canon_mem hp, canon_mem hp, h k]
theorem csum_get : ∀ {m : Tm}, (m.map (·.1)).Nodup → ∀ k, csum m k = getI m k
  | [], _, k => rfl
  | t :: m, h, k => by
    rw [List.map_cons, List.nodup_cons] at h
    rw [csum_cons, getI_cons, csum_get h.2 k]
    by_cases e : t.1 = k
    · rw [if_pos e, if_pos e, getI_out (e ▸ h.1)]; omega
    · rw [if_neg e, if_neg e]; omega
theorem getI_mem : ∀ {m : Tm} {k v : Int}, (m.map (·.1)).Nodup → (k, v) ∈ m → getI m k = v
  | t :: m, k, v, h, hm => by
    rw [List.map_cons, List.nodup_cons] at h
    rw [getI_cons]
    rcases List.mem_cons.mp hm with e | hm
    · rw [← e, if_pos rfl]
    · have : ¬ t.1 = k := fun z => h.1 (z ▸ List.mem_map.mpr ⟨_, hm, rfl⟩)
      rw [if_neg this]
      exact getI_mem h.2 hm
theorem csum_canon {p : Int} (hp : 0 < p) (ts : Tm) (x : Int) : csum (canon p ts) x = csum ts x % p := by
  rw [csum_get (canon_nodup p ts)]
  by_cases h : 0 < csum ts x % p
  · exact getI_mem (canon_nodup p ts) ((canon_mem hp ts x _).mpr ⟨rfl, h⟩)
  · have h0 := Int.emod_nonneg (csum ts x) (show p ≠ 0 by omega)
    have e : csum ts x % p = 0 := by omega
    rw [e]
    refine getI_out fun z => ?_
    obtain ⟨⟨k, v⟩, hm, rfl⟩ := List.mem_map.mp z
    obtain ⟨h1, h2⟩ := (canon_mem hp ts k v).mp hm
    have e : csum ts k % p = 0 := e
    omega
theorem canon_canon {p : Int} (hp : 0 < p) (ts : Tm) : canon p (canon p ts) = canon p ts := canon_ext hp fun x => by rw [csum_canon hp, Int.emod_emod_of_dvd _ (Int.dvd_refl p)]
theorem prods_cons (t : Int × Int) (ts us : Tm) : prods (t :: ts) us = (us.map fun u => (t.1 + u.1, t.2 * u.2)) ++ prods ts us := rfl
theorem prods_snd (u : Int × Int) (us : Tm) (x : Int) : ∀ ts : Tm, csum (prods ts (u :: us)) x = csum (ts.map fun t => (u.1 + t.1, u.2 * t.2)) x + csum (prods ts us) x
  | [] => by simp [prods, csum_nil]
  | t :: ts => by
    rw [prods_cons, prods_cons, List.map_cons, List.map_cons, List.cons_append, csum_cons, csum_append, csum_cons, csum_append, prods_snd u us x ts, Int.add_comm t.1 u.1, Int.mul_comm t.2 u.2]
    simp only []
    omega
theorem prods_comm (x : Int) : ∀ ts us : Tm, csum (prods ts us) x = csum (prods us ts) x
  | [], us => by
    have : prods us [] = [] := by induction us with
      | nil => rfl
      | cons u us ih => rw [prods_cons, ih]; rfl
    rw [this]; rfl
  | t :: ts, us => by rw [prods_cons, csum_append, prods_snd, prods_comm x ts us]
theorem isPr_cases {p : Int} (h : isPr p = true) : p = 2 ∨ p = 3 ∨ p = 5 ∨ p = 7 := by simpa [isPr] using h
theorem isPr_pos {p : Int} (h : isPr p = true) : 0 < p ∧ p < 10 := by rcases isPr_cases h with h | h | h | h <;> omega
end My

namespace My
def wsum (a : Tm) (f : Int → Int) : Int := (a.map fun t => t.2 * f t.1).sum
theorem wsum_nil (f : Int → Int) : wsum [] f = 0 := rfl
theorem wsum_cons (t : Int × Int) (a : Tm) (f : Int → Int) : wsum (t :: a) f = t.2 * f t.1 + wsum a f := by unfold wsum; simp
theorem wsum_append (a b : Tm) (f : Int → Int) : wsum (a ++ b) f = wsum a f + wsum b f := by
  induction a with
  | nil => simp [wsum_nil]
  | cons t a ih => rw [List.cons_append, wsum_cons, wsum_cons, ih]; omega
theorem wsum_add (a : Tm) (f g : Int → Int) : wsum a (fun k => f k + g k) = wsum a f + wsum a g := by
  induction a with
  | nil => rfl
  | cons t a ih => rw [wsum_cons, wsum_cons, wsum_cons, ih, Int.mul_add]; omega
theorem wsum_mul (a : Tm) (c : Int) (f : Int → Int) : wsum a (fun k => c * f k) = c * wsum a f := by
  induction a with
  | nil => simp [wsum_nil]
  | cons t a ih => rw [wsum_cons, wsum_cons, ih, Int.mul_add, Int.mul_left_comm]
theorem wsum_congr_f {p : Int} (a : Tm) {f g : Int → Int} (h : ∀ k, f k % p = g k % p) : wsum a f % p = wsum a g % p := by
  induction a with
  | nil => rfl
  | cons t a ih =>
    rw [wsum_cons, wsum_cons, Int.add_emod, Int.mul_emod, h, ih, ← Int.mul_emod, ← Int.add_emod]
theorem sum_zero (L : List Int) (g : Int → Int) (h : ∀ k ∈ L, g k = 0) : (L.map g).sum = 0 := by
  induction L with
  | nil => rfl
  | cons a L ih => rw [List.map_cons, List.sum_cons, h a (List.mem_cons_self ..), ih fun k hk => h k (List.mem_cons_of_mem _ hk)]; rfl
theorem sum_add' (L : List Int) (g h : Int → Int) : (L.map fun k => g k + h k).sum = (L.map g).sum + (L.map h).sum := by
  induction L with
  | nil => rfl
  | cons a L ih => simp only [List.map_cons, List.sum_cons, ih]; omega
theorem sum_single (v k0 : Int) (f : Int → Int) : ∀ L : List Int, L.Nodup → k0 ∈ L → (L.map fun k => (if k0 = k then v else 0) * f k).sum = v * f k0
  | a :: L, hn, hm => by
    rw [List.nodup_cons] at hn
    rw [List.map_cons, List.sum_cons]
    by_cases h : k0 = a
    · subst h
      rw [if_pos rfl, sum_zero L _ fun k hk => by
        rw [if_neg (fun (z : k0 = k) => hn.1 (z.symm ▸ hk))]; simp]
      omega
    · rw [if_neg h, sum_single v k0 f L hn.2 (by rcases List.mem_cons.mp hm with z | z; exact absurd z h; exact z)]
      simp
theorem wsum_keys (f : Int → Int) (L : List Int) (hn : L.Nodup) : ∀ a : Tm, (∀ t ∈ a, t.1 ∈ L) → wsum a f = (L.map fun k => csum a k * f k).sum
  | [], _ => by rw [wsum_nil, sum_zero]; intro k _; rw [csum_nil]; simp
  | t :: a, h => by
    rw [wsum_cons, wsum_keys f L hn a fun u hu => h u (List.mem_cons_of_mem _ hu), ← sum_single t.2 t.1 f L hn (h t (List.mem_cons_self ..)), ← sum_add']
    congr 1
    refine List.map_congr_left fun k _ => ?_
    rw [csum_cons, Int.add_mul]
theorem sum_congr_mod {p : Int} (g h : Int → Int) (L : List Int) (e : ∀ k, g k % p = h k % p) : (L.map g).sum % p = (L.map h).sum % p := by
  induction L with
  | nil => rfl
  | cons a L ih => rw [List.map_cons, List.map_cons, List.sum_cons, List.sum_cons, Int.add_emod, e, ih, ← Int.add_emod]
theorem exists_nodup (l : List Int) : ∃ L : List Int, L.Nodup ∧ ∀ k ∈ l, k ∈ L := by
  induction l with
  | nil => exact ⟨[], List.nodup_nil, fun k h => h⟩
  | cons a l ih =>
    obtain ⟨L, h1, h2⟩ := ih
    by_cases h : a ∈ L
    · exact ⟨L, h1, fun k hk => by rcases List.mem_cons.mp hk with z | z; exact z ▸ h; exact h2 k z⟩
    · exact ⟨a :: L, List.nodup_cons.mpr ⟨h, h1⟩, fun k hk => by
        rcases List.mem_cons.mp hk with z | z
        · exact z ▸ List.mem_cons_self ..
        · exact List.mem_cons_of_mem _ (h2 k z)⟩
def Eqv (p : Int) (a b : Tm) : Prop := ∀ x, csum a x % p = csum b x % p
theorem wsum_congr {p : Int} {a b : Tm} (h : Eqv p a b) (f : Int → Int) : wsum a f % p = wsum b f % p := by
  obtain ⟨L, hn, hL⟩ := exists_nodup ((a ++ b).map (·.1))
  rw [wsum_keys f L hn a fun t ht => hL _ (List.mem_map.mpr ⟨t, List.mem_append.mpr (.inl ht), rfl⟩), wsum_keys f L hn b fun t ht => hL _ (List.mem_map.mpr ⟨t, List.mem_append.mpr (.inr ht), rfl⟩)]
  refine sum_congr_mod _ _ L fun k => ?_
  rw [Int.mul_emod, h k, ← Int.mul_emod]
theorem csum_shift (t : Int × Int) (b : Tm) (x : Int) : csum (b.map fun u => (t.1 + u.1, t.2 * u.2)) x = t.2 * csum b (x - t.1) := by
  induction b with
  | nil => simp [csum_nil]
  | cons u b ih =>
    rw [List.map_cons, csum_cons, csum_cons, ih, Int.mul_add]
    congr 1
    by_cases h : u.1 = x - t.1
    · rw [if_pos h, if_pos (by omega)]
    · rw [if_neg h, if_neg (by omega)]; simp
theorem csum_prods (a b : Tm) (x : Int) : csum (prods a b) x = wsum a fun k => csum b (x - k) := by
  induction a with
  | nil => rfl
  | cons t a ih => rw [prods_cons, csum_append, ih, csum_shift, wsum_cons]
theorem wsum_prods (a b : Tm) (f : Int → Int) : wsum (prods a b) f = wsum a fun i => wsum b fun j => f (i + j) := by
  induction a with
  | nil => rfl
  | cons t a ih =>
    rw [prods_cons, wsum_append, ih, wsum_cons]
    congr 1
    have : ∀ b : Tm, wsum (b.map fun u => (t.1 + u.1, t.2 * u.2)) f = t.2 * wsum b fun j => f (t.1 + j) := by
      intro b
      induction b with
      | nil => simp [wsum_nil]
      | cons u b ih => rw [List.map_cons, wsum_cons, wsum_cons, ih, Int.mul_add, Int.mul_assoc]
    exact this b
def eqvS (p : Int) : Setoid Tm := ⟨Eqv p, fun a x => rfl, fun h x => (h x).symm, fun h g x => (h x).trans (g x)⟩
def LP (p : Int) : Type := Quotient (eqvS p)
def lp (p : Int) (a : Tm) : LP p := Quotient.mk (eqvS p) a
section
variable {p : Int}
theorem lp_eq {a b : Tm} : lp p a = lp p b ↔ Eqv p a b := ⟨fun h => Quotient.exact h, fun h => Quotient.sound h⟩
theorem lp_surj (x : LP p) : ∃ a, lp p a = x := Quotient.exists_rep x
def negT (a : Tm) : Tm := a.map fun t => (t.1, -t.2)
theorem csum_neg (a : Tm) (x : Int) : csum (negT a) x = -csum a x := by
  induction a with
  | nil => rfl
  | cons t a ih =>
    show csum ((t.1, -t.2) :: negT a) x = _
    rw [csum_cons, csum_cons, ih]
    by_cases h : t.1 = x
    · rw [if_pos h, if_pos h]; omega
    · rw [if_neg h, if_neg h]; omega
theorem emod_neg_congr {a b : Int} (h : a % p = b % p) : (-a) % p = (-b) % p := by
  have : (p : Int) ∣ a - b := Int.dvd_of_emod_eq_zero (by rw [Int.sub_emod, h]; simp)
  have h2 : p ∣ -a - -b := by
    obtain ⟨c, hc⟩ := this
    exact ⟨-c, by rw [Int.mul_neg, ← hc]; omega⟩
  exact Int.emod_emod_of_dvd _ (Int.dvd_refl p) ▸ (by
    have e : -a = -b + (-a - -b) := by omega
    rw [e, Int.add_emod, Int.emod_eq_zero_of_dvd h2]; simp)
def LP.add (x y : LP p) : LP p := Quotient.liftOn₂ x y (fun a b => lp p (a ++ b)) fun a b a' b' h h' => lp_eq.mpr fun x => by
  rw [csum_append, csum_append, Int.add_emod, h x, h' x, ← Int.add_emod]
def LP.mul (x y : LP p) : LP p := Quotient.liftOn₂ x y (fun a b => lp p (prods a b)) fun a b a' b' h h' => lp_eq.mpr fun x => by
  rw [csum_prods, csum_prods, wsum_congr h, wsum_congr_f a' fun k => h' (x - k)]
def LP.neg (x : LP p) : LP p := Quotient.liftOn x (fun a => lp p (negT a)) fun a b h => lp_eq.mpr fun x => by
  rw [csum_neg, csum_neg]; exact emod_neg_congr (h x)
instance : Add (LP p) := ⟨LP.add⟩
instance : Mul (LP p) := ⟨LP.mul⟩
instance : Neg (LP p) := ⟨LP.neg⟩
instance : Sub (LP p) := ⟨fun a b => a + -b⟩
instance : NatCast (LP p) := ⟨fun n => lp p [(0, (n : Int))]⟩
instance : IntCast (LP p) := ⟨fun n => lp p [(0, n)]⟩
instance (n : Nat) : OfNat (LP p) n := ⟨lp p [(0, (n : Int))]⟩
def LP.pow (x : LP p) : Nat → LP p
  | 0 => 1
  | n + 1 => LP.pow x n * x
instance : HPow (LP p) Nat (LP p) := ⟨LP.pow⟩
instance : SMul Nat (LP p) := ⟨fun n a => (n : LP p) * a⟩
instance : SMul Int (LP p) := ⟨fun n a => (n : LP p) * a⟩
theorem lp_add (a b : Tm) : lp p a + lp p b = lp p (a ++ b) := rfl
theorem lp_mul (a b : Tm) : lp p a * lp p b = lp p (prods a b) := rfl
theorem lp_neg (a : Tm) : -lp p a = lp p (negT a) := rfl
theorem lp_zero : (0 : LP p) = lp p [] := lp_eq.mpr fun x => by
  show csum [(0, ((0 : Nat) : Int))] x % p = _
  rw [csum_cons, csum_nil]; split <;> rfl
theorem add_comm' (x y : LP p) : x + y = y + x := by
  obtain ⟨a, rfl⟩ := lp_surj x
  obtain ⟨b, rfl⟩ := lp_surj y
  exact lp_eq.mpr fun x => by rw [csum_append, csum_append, Int.add_comm]
theorem mul_comm' (x y : LP p) : x * y = y * x := by
  obtain ⟨a, rfl⟩ := lp_surj x
  obtain ⟨b, rfl⟩ := lp_surj y
  exact lp_eq.mpr fun x => by rw [prods_comm]
theorem mul_one' (x : LP p) : x * 1 = x := by
  obtain ⟨a, rfl⟩ := lp_surj x
  refine lp_eq.mpr fun x => ?_
  rw [prods_comm, csum_prods, wsum_cons, wsum_nil]
  simp
theorem distrib' (x y z : LP p) : x * (y + z) = x * y + x * z := by
  obtain ⟨a, rfl⟩ := lp_surj x
  obtain ⟨b, rfl⟩ := lp_surj y
  obtain ⟨c, rfl⟩ := lp_surj z
  refine lp_eq.mpr fun x => ?_
  rw [csum_prods, csum_append, csum_prods, csum_prods, ← wsum_add]
  congr 2
  funext k
  rw [csum_append]
instance : Lean.Grind.CommRing (LP p) where
  add_zero x := by
    obtain ⟨a, rfl⟩ := lp_surj x
    rw [lp_zero, lp_add, List.append_nil]
  add_comm := add_comm'
  add_assoc x y z := by
    obtain ⟨a, rfl⟩ := lp_surj x
    obtain ⟨b, rfl⟩ := lp_surj y
    obtain ⟨c, rfl⟩ := lp_surj z
    rw [lp_add, lp_add, lp_add, lp_add, List.append_assoc]
  mul_assoc x y z := by
    obtain ⟨a, rfl⟩ := lp_surj x
    obtain ⟨b, rfl⟩ := lp_surj y
    obtain ⟨c, rfl⟩ := lp_surj z
    refine lp_eq.mpr fun x => ?_
    rw [csum_prods, wsum_prods, csum_prods]
    congr 2
    funext i
    rw [csum_prods]
    congr 1
    funext j
    congr 1
    omega
  mul_one := mul_one'
  one_mul x := by rw [mul_comm', mul_one']
  left_distrib := distrib'
  right_distrib x y z := by rw [mul_comm', distrib', mul_comm' z, mul_comm' z]
  zero_mul x := by
    obtain ⟨a, rfl⟩ := lp_surj x
    rw [lp_zero, lp_mul]; rfl
  mul_zero x := by
    rw [mul_comm']
    obtain ⟨a, rfl⟩ := lp_surj x
    rw [lp_zero, lp_mul]; rfl
  pow_zero x := rfl
  pow_succ x n := rfl
  ofNat_succ n := by
    refine lp_eq.mpr fun x => ?_
    rw [csum_cons, csum_nil, csum_append, csum_cons, csum_cons, csum_nil]
    by_cases h : (0 : Int) = x
    · subst h; simp
    · simp [h]
  neg_add_cancel x := by
    obtain ⟨a, rfl⟩ := lp_surj x
    rw [lp_zero, lp_neg, lp_add]
    refine lp_eq.mpr fun x => ?_
    rw [csum_append, csum_neg, csum_nil]
    congr 1
    omega
  sub_eq_add_neg x y := rfl
  neg_zsmul i x := by
    obtain ⟨a, rfl⟩ := lp_surj x
    refine lp_eq.mpr fun x => ?_
    rw [csum_neg, csum_prods, csum_prods, wsum_cons, wsum_cons, wsum_nil]
    congr 1
    rw [Int.add_zero, Int.add_zero, Int.neg_mul]
  intCast_neg i := by
    refine lp_eq.mpr fun x => ?_
    rw [csum_neg, csum_cons, csum_cons, csum_nil]
    congr 1
    split <;> omega
  mul_comm := mul_comm'
example (f g h : LP p) : f * (g + h) - f * h = g * f := by grind
example (f g h : LP p) : (f + g) * (f + g) = f * f + 2 * f * g + g * g := by grind
end
end My

namespace My
section
variable {p : Int}
def cf (x : LP p) (k : Int) : Int := Quotient.liftOn x (fun a => csum a k % p) fun a b h => h k
theorem cf_lp (a : Tm) (k : Int) : cf (lp p a) k = csum a k % p := rfl
theorem cf_ext {x y : LP p} (h : ∀ k, cf x k = cf y k) : x = y := by
  obtain ⟨a, rfl⟩ := lp_surj x
  obtain ⟨b, rfl⟩ := lp_surj y
  exact lp_eq.mpr h
theorem cf_mod (x : LP p) (k : Int) : cf x k % p = cf x k := by
  obtain ⟨a, rfl⟩ := lp_surj x
  rw [cf_lp, Int.emod_emod_of_dvd _ (Int.dvd_refl p)]
theorem cf_add (x y : LP p) (k : Int) : cf (x + y) k = (cf x k + cf y k) % p := by
  obtain ⟨a, rfl⟩ := lp_surj x
  obtain ⟨b, rfl⟩ := lp_surj y
  rw [lp_add, cf_lp, cf_lp, cf_lp, csum_append, ← Int.add_emod]
theorem cf_neg (x : LP p) (k : Int) : cf (-x) k = (-cf x k) % p := by
  obtain ⟨a, rfl⟩ := lp_surj x
  rw [lp_neg, cf_lp, cf_lp, csum_neg]
  exact emod_neg_congr (Int.emod_emod_of_dvd _ (Int.dvd_refl p)).symm
theorem cf_sub (x y : LP p) (k : Int) : cf (x - y) k = (cf x k - cf y k) % p := by
  show cf (x + -y) k = _
  rw [cf_add, cf_neg, Int.sub_eq_add_neg, Int.add_emod, Int.emod_emod_of_dvd _ (Int.dvd_refl p), ← Int.add_emod]
theorem cf_zero (k : Int) : cf (0 : LP p) k = 0 := by rw [lp_zero, cf_lp, csum_nil]; exact Int.zero_emod p
def mono (p k c : Int) : LP p := lp p [(k, c)]
theorem cf_mono (k c j : Int) : cf (mono p k c) j = if k = j then c % p else 0 := by
  unfold mono
  rw [cf_lp, csum_cons, csum_nil]
  split
  · simp
  · simp
theorem cf_mono_mul (k c : Int) (x : LP p) (j : Int) : cf (mono p k c * x) j = (c * cf x (j - k)) % p := by
  obtain ⟨a, rfl⟩ := lp_surj x
  unfold mono
  rw [lp_mul, cf_lp, cf_lp, csum_prods, wsum_cons, wsum_nil, Int.add_zero]
  show c * csum a (j - k) % p = _
  rw [Int.mul_emod, Int.mul_emod c (csum a (j - k) % p), Int.emod_emod_of_dvd _ (Int.dvd_refl p)]
theorem cf_int_mul (c : Int) (x : LP p) (j : Int) : cf (((c : Int) : LP p) * x) j = (c * cf x j) % p := by
  have := cf_mono_mul (p := p) 0 c x j
  rw [Int.sub_zero] at this
  exact this
theorem mono_add (k a b : Int) : mono p k a + mono p k b = mono p k (a + b) := lp_eq.mpr fun x => by
  rw [csum_append, csum_cons, csum_cons, csum_cons, csum_nil]
  congr 1
  split <;> omega
theorem mono_mul (k j a b : Int) : mono p k a * mono p j b = mono p (k + j) (a * b) := lp_eq.mpr fun x => rfl
theorem mono_one : mono p 0 1 = 1 := rfl
theorem mono_mod (k c : Int) : mono p k (c % p) = mono p k c := cf_ext fun j => by
  rw [cf_mono, cf_mono, Int.emod_emod_of_dvd _ (Int.dvd_refl p)]
noncomputable def can (x : LP p) : Tm := canon p (Classical.choose (lp_surj x))
theorem can_lp (hp : 0 < p) (a : Tm) : can (lp p a) = canon p a := by
  unfold can
  exact canon_ext hp (lp_eq.mp (Classical.choose_spec (lp_surj (lp p a))))
theorem lp_canon (hp : 0 < p) (a : Tm) : lp p (canon p a) = lp p a := lp_eq.mpr fun x => by rw [csum_canon hp, Int.emod_emod_of_dvd _ (Int.dvd_refl p)]
theorem lp_can (hp : 0 < p) (x : LP p) : lp p (can x) = x := by
  obtain ⟨a, rfl⟩ := lp_surj x
  rw [can_lp hp, lp_canon hp]
theorem can_inj (hp : 0 < p) {x y : LP p} (h : can x = can y) : x = y := by rw [← lp_can hp x, h, lp_can hp]
theorem can_sorted (x : LP p) : ((can x).map (·.1)).Pairwise (· < ·) := canon_sorted p _
theorem can_nodup (x : LP p) : ((can x).map (·.1)).Nodup := canon_nodup p _
theorem can_mem (hp : 0 < p) (x : LP p) (k v : Int) : (k, v) ∈ can x ↔ v = cf x k ∧ 0 < v := by
  obtain ⟨a, rfl⟩ := lp_surj x
  rw [can_lp hp, canon_mem hp, cf_lp]
theorem canon_can (hp : 0 < p) (x : LP p) : canon p (can x) = can x := canon_canon hp _
theorem csum_can (hp : 0 < p) (x : LP p) (k : Int) : csum (can x) k = cf x k := by
  obtain ⟨a, rfl⟩ := lp_surj x
  rw [can_lp hp, csum_canon hp, cf_lp]
theorem can_zero (hp : 0 < p) : can (0 : LP p) = [] := by rw [lp_zero, can_lp hp]; simp [canon, hsum, srt]
theorem can_nil (hp : 0 < p) {x : LP p} : can x = [] ↔ x = 0 := ⟨fun h => can_inj hp (h.trans (can_zero hp).symm), fun h => by rw [h, can_zero hp]⟩
theorem cf_range (hp : 0 < p) (x : LP p) (k : Int) : 0 ≤ cf x k ∧ cf x k < p := by
  rw [← cf_mod]
  exact ⟨Int.emod_nonneg _ (by omega), Int.emod_lt_of_pos _ hp⟩
noncomputable def nt (x : LP p) : Nat := (can x).length
theorem nt_lp (hp : 0 < p) (a : Tm) : nt (lp p a) ≤ a.length := by unfold nt; rw [can_lp hp]; exact canon_length p a
def Bd (x : LP p) (lo hi : Int) : Prop := ∀ k, cf x k ≠ 0 → lo ≤ k ∧ k ≤ hi
theorem Bd.mono {x : LP p} {lo hi lo' hi' : Int} (h : Bd x lo hi) (h1 : lo' ≤ lo) (h2 : hi ≤ hi') : Bd x lo' hi' := fun k hk => by have := h k hk; omega
theorem Bd.mem (hp : 0 < p) {x : LP p} {lo hi : Int} (h : Bd x lo hi) : ∀ t ∈ can x, lo ≤ t.1 ∧ t.1 ≤ hi := fun t ht => by
  obtain ⟨h1, h2⟩ := (can_mem hp x t.1 t.2).mp ht
  exact h t.1 (by omega)
theorem Bd.of (hp : 0 < p) {x : LP p} {lo hi : Int} (h : ∀ t ∈ can x, lo ≤ t.1 ∧ t.1 ≤ hi) : Bd x lo hi := fun k hk => by
  have r := cf_range hp x k
  exact h (k, cf x k) ((can_mem hp x k _).mpr ⟨rfl, by omega⟩)
theorem Bd.zero (lo hi : Int) : Bd (0 : LP p) lo hi := fun k hk => absurd (cf_zero k) hk
theorem Bd.add {x y : LP p} {lo hi : Int} (h : Bd x lo hi) (h' : Bd y lo hi) : Bd (x + y) lo hi := fun k hk => by
  by_cases e : cf x k = 0
  · by_cases e' : cf y k = 0
    · rw [cf_add, e, e'] at hk; exact absurd (Int.zero_emod p) hk
    · exact h' k e'
  · exact h k e
theorem Bd.neg {x : LP p} {lo hi : Int} (h : Bd x lo hi) : Bd (-x) lo hi := fun k hk => by
  by_cases e : cf x k = 0
  · rw [cf_neg, e] at hk; exact absurd (by simp) hk
  · exact h k e
theorem Bd.sub {x y : LP p} {lo hi : Int} (h : Bd x lo hi) (h' : Bd y lo hi) : Bd (x - y) lo hi := Bd.add h h'.neg
theorem Bd.mono_mul {x : LP p} {lo hi : Int} (h : Bd x lo hi) (k c : Int) : Bd (My.mono p k c * x) (lo + k) (hi + k) := fun j hj => by
  rw [cf_mono_mul] at hj
  by_cases e : cf x (j - k) = 0
  · rw [e] at hj; exact absurd (by simp) hj
  · have := h _ e; omega
theorem lp_cons (t : Int × Int) (a : Tm) : lp p (t :: a) = My.mono p t.1 t.2 + lp p a := rfl
theorem Bd.mul (hp : 0 < p) {x y : LP p} {lo hi lo' hi' : Int} (h : Bd x lo hi) (h' : Bd y lo' hi') : Bd (x * y) (lo + lo') (hi + hi') := by
  have go : ∀ a : Tm, (∀ t ∈ a, lo ≤ t.1 ∧ t.1 ≤ hi) → Bd (lp p a * y) (lo + lo') (hi + hi') := by
    intro a
    induction a with
    | nil => intro _; rw [← lp_zero]; rw [show (0 : LP p) * y = 0 by grind]; exact Bd.zero _ _
    | cons t a ih =>
      intro ha
      have ht := ha t (List.mem_cons_self ..)
      rw [lp_cons, show (My.mono p t.1 t.2 + lp p a) * y = My.mono p t.1 t.2 * y + lp p a * y by grind]
      exact Bd.add ((h'.mono_mul t.1 t.2).mono (by omega) (by omega)) (ih fun u hu => ha u (List.mem_cons_of_mem _ hu))
  have := go (can x) (h.mem hp)
  rwa [lp_can hp] at this
theorem Bd.lp {a : Tm} {lo hi : Int} (h : ∀ t ∈ a, lo ≤ t.1 ∧ t.1 ≤ hi) : Bd (lp p a) lo hi := fun k hk => by
  rw [cf_lp] at hk
  by_cases e : k ∈ a.map (·.1)
  · obtain ⟨t, ht, rfl⟩ := List.mem_map.mp e
    exact h t ht
  · exfalso
    refine hk ?_
    have : csum a k = 0 := by
      clear hk h
      induction a with
      | nil => rfl
      | cons t a ih =>
        rw [List.map_cons, List.mem_cons] at e
        rw [csum_cons, if_neg (fun z => e (.inl z.symm)), ih fun z => e (.inr z)]; rfl
    rw [this]; exact Int.zero_emod p
theorem sorted_length : ∀ {L : List Int} {lo hi : Int}, L.Pairwise (· < ·) → (∀ k ∈ L, lo ≤ k ∧ k ≤ hi) → (L.length : Int) ≤ max 0 (hi - lo + 1)
  | [], lo, hi, _, _ => by simp; omega
  | a :: L, lo, hi, s, h => by
    rw [List.pairwise_cons] at s
    have ha := h a (List.mem_cons_self ..)
    have := sorted_length (L := L) (lo := a + 1) (hi := hi) s.2 fun k hk => ⟨by have := s.1 k hk; omega, (h k (List.mem_cons_of_mem _ hk)).2⟩
    rw [List.length_cons]
    push_cast
    omega
theorem Bd.nt (hp : 0 < p) {x : LP p} {lo hi : Int} (h : Bd x lo hi) : (My.nt x : Int) ≤ max 0 (hi - lo + 1) := by
  have := sorted_length (can_sorted x) (lo := lo) (hi := hi) fun k hk => by
    obtain ⟨t, ht, rfl⟩ := List.mem_map.mp hk
    exact h.mem hp t ht
  rw [List.length_map] at this
  exact this
def Hi (x : LP p) (h : Int) : Prop := cf x h ≠ 0 ∧ ∀ k, h < k → cf x k = 0
def Lo (x : LP p) (l : Int) : Prop := cf x l ≠ 0 ∧ ∀ k, k < l → cf x k = 0
theorem Hi.uniq {x : LP p} {h h' : Int} (a : Hi x h) (b : Hi x h') : h = h' := by
  rcases Int.lt_trichotomy h h' with z | z | z
  · exact absurd (a.2 _ z) b.1
  · exact z
  · exact absurd (b.2 _ z) a.1
theorem Lo.uniq {x : LP p} {h h' : Int} (a : Lo x h) (b : Lo x h') : h = h' := by
  rcases Int.lt_trichotomy h h' with z | z | z
  · exact absurd (b.2 _ z) a.1
  · exact z
  · exact absurd (a.2 _ z) b.1
theorem Hi.ne {x : LP p} {h : Int} (a : Hi x h) : x ≠ 0 := fun z => a.1 (by rw [z, cf_zero])
theorem Lo.ne {x : LP p} {h : Int} (a : Lo x h) : x ≠ 0 := fun z => a.1 (by rw [z, cf_zero])
theorem Bd.of_hl {x : LP p} {h l : Int} (a : Hi x h) (b : Lo x l) : Bd x l h := fun k hk => by
  refine ⟨?_, ?_⟩
  · exact Int.not_lt.mp fun z => hk (b.2 k z)
  · exact Int.not_lt.mp fun z => hk (a.2 k z)
theorem sorted_last : ∀ {a : Tm} {t : Int × Int}, (a.map (·.1)).Pairwise (· < ·) → a.getLast? = some t → ∀ u ∈ a, u.1 ≤ t.1
  | a, t, s, h, u, hu => by
    obtain ⟨b, rfl⟩ := List.getLast?_eq_some_iff.mp h
    rw [List.map_append, List.pairwise_append] at s
    rcases List.mem_append.mp hu with z | z
    · exact Int.le_of_lt (s.2.2 u.1 (List.mem_map.mpr ⟨u, z, rfl⟩) t.1 (by simp))
    · rw [List.mem_singleton.mp z]; exact Int.le_refl _
theorem sorted_head {a : Tm} {t : Int × Int} (s : (a.map (·.1)).Pairwise (· < ·)) (h : a.head? = some t) : ∀ u ∈ a, t.1 ≤ u.1 := by
  intro u hu
  cases a with
  | nil => cases h
  | cons b a =>
    cases h
    rw [List.map_cons, List.pairwise_cons] at s
    rcases List.mem_cons.mp hu with z | z
    · rw [z]; exact Int.le_refl _
    · exact Int.le_of_lt (s.1 u.1 (List.mem_map.mpr ⟨u, z, rfl⟩))
theorem hi_of (hp : 0 < p) {x : LP p} {t : Int × Int} (h : (can x).getLast? = some t) : Hi x t.1 ∧ cf x t.1 = t.2 := by
  have hm : t ∈ can x := List.mem_of_getLast? h
  obtain ⟨h1, h2⟩ := (can_mem hp x t.1 t.2).mp hm
  refine ⟨⟨by omega, fun k hk => ?_⟩, h1.symm⟩
  have r := cf_range hp x k
  by_cases e : 0 < cf x k
  · have := sorted_last (can_sorted x) h (k, cf x k) ((can_mem hp x k _).mpr ⟨rfl, e⟩)
    dsimp only at this
    omega
  · omega
theorem lo_of (hp : 0 < p) {x : LP p} {t : Int × Int} (h : (can x).head? = some t) : Lo x t.1 ∧ cf x t.1 = t.2 := by
  have hm : t ∈ can x := List.mem_of_head? h
  obtain ⟨h1, h2⟩ := (can_mem hp x t.1 t.2).mp hm
  refine ⟨⟨by omega, fun k hk => ?_⟩, h1.symm⟩
  have r := cf_range hp x k
  by_cases e : 0 < cf x k
  · have := sorted_head (can_sorted x) h (k, cf x k) ((can_mem hp x k _).mpr ⟨rfl, e⟩)
    dsimp only at this
    omega
  · omega
theorem exists_hi (hp : 0 < p) {x : LP p} (h : x ≠ 0) : ∃ k, Hi x k := by
  cases e : (can x).getLast? with
  | none => exact absurd ((can_nil hp).mp (List.getLast?_eq_none_iff.mp e)) h
  | some t => exact ⟨t.1, (hi_of hp e).1⟩
theorem exists_lo (hp : 0 < p) {x : LP p} (h : x ≠ 0) : ∃ k, Lo x k := by
  cases e : (can x).head? with
  | none => exact absurd ((can_nil hp).mp (List.head?_eq_none_iff.mp e)) h
  | some t => exact ⟨t.1, (lo_of hp e).1⟩
theorem lo_le_hi {x : LP p} {l h : Int} (a : Lo x l) (b : Hi x h) : l ≤ h := Int.not_lt.mp fun z => a.1 (b.2 l z)
theorem dig_mul {a b : Int} (hp : isPr p = true) (ha : a % p ≠ 0) (hb : b % p ≠ 0) : (a * b) % p ≠ 0 := by
  have h1 := Int.emod_nonneg a (show p ≠ 0 by have := isPr_pos hp; omega)
  have h2 := Int.emod_lt_of_pos a (isPr_pos hp).1
  have h3 := Int.emod_nonneg b (show p ≠ 0 by have := isPr_pos hp; omega)
  have h4 := Int.emod_lt_of_pos b (isPr_pos hp).1
  rw [Int.mul_emod]
  generalize a % p = a at *
  generalize b % p = b at *
  rcases isPr_cases hp with rfl | rfl | rfl | rfl
  · have : a = 1 := by omega
    have : b = 1 := by omega
    subst a b; decide
  · have : a = 1 ∨ a = 2 := by omega
    have : b = 1 ∨ b = 2 := by omega
    rcases ‹a = 1 ∨ a = 2› with rfl | rfl <;> rcases ‹b = 1 ∨ b = 2› with rfl | rfl <;> decide
  · have : a = 1 ∨ a = 2 ∨ a = 3 ∨ a = 4 := by omega
    have : b = 1 ∨ b = 2 ∨ b = 3 ∨ b = 4 := by omega
    rcases ‹a = 1 ∨ _› with rfl | rfl | rfl | rfl <;> rcases ‹b = 1 ∨ _› with rfl | rfl | rfl | rfl <;> decide
  · have : a = 1 ∨ a = 2 ∨ a = 3 ∨ a = 4 ∨ a = 5 ∨ a = 6 := by omega
    have : b = 1 ∨ b = 2 ∨ b = 3 ∨ b = 4 ∨ b = 5 ∨ b = 6 := by omega
    rcases ‹a = 1 ∨ _› with rfl | rfl | rfl | rfl | rfl | rfl <;> rcases ‹b = 1 ∨ _› with rfl | rfl | rfl | rfl | rfl | rfl <;> decide
def invD (p a : Int) : Int := if p = 2 then 1 else if p = 3 then a else if p = 5 then (a * a * a) % 5 else (a * a * a * a * a) % 7
theorem invD_mul {a : Int} (hp : isPr p = true) (h0 : 0 < a) (h1 : a < p) : (invD p a * a) % p = 1 ∧ 1 ≤ invD p a ∧ invD p a < p := by
  unfold invD
  rcases isPr_cases hp with rfl | rfl | rfl | rfl
  · have : a = 1 := by omega
    subst a; decide
  · have : a = 1 ∨ a = 2 := by omega
    rcases this with rfl | rfl <;> decide
  · have : a = 1 ∨ a = 2 ∨ a = 3 ∨ a = 4 := by omega
    rcases this with rfl | rfl | rfl | rfl <;> decide
  · have : a = 1 ∨ a = 2 ∨ a = 3 ∨ a = 4 ∨ a = 5 ∨ a = 6 := by omega
    rcases this with rfl | rfl | rfl | rfl | rfl | rfl <;> decide
theorem cf_mul_top (hp : 0 < p) {x y : LP p} {h h' : Int} (a : ∀ k, h < k → cf x k = 0) (b : ∀ k, h' < k → cf y k = 0) : cf (x * y) (h + h') = (cf x h * cf y h') % p ∧ ∀ k, h + h' < k → cf (x * y) k = 0 := by
  have key : ∀ (l : Tm), (∀ t ∈ l, t.1 ≤ h) → (cf (lp p l * y) (h + h') = (csum l h * cf y h') % p) ∧ ∀ k, h + h' < k → cf (lp p l * y) k = 0 := by
    intro l
    induction l with
    | nil =>
      intro _
      rw [← lp_zero, show (0 : LP p) * y = 0 by grind, csum_nil]
      exact ⟨by rw [cf_zero]; simp, fun k _ => cf_zero k⟩
    | cons t l ih =>
      intro hl
      obtain ⟨i1, i2⟩ := ih fun u hu => hl u (List.mem_cons_of_mem _ hu)
      have ht := hl t (List.mem_cons_self ..)
      rw [lp_cons, show (mono p t.1 t.2 + lp p l) * y = mono p t.1 t.2 * y + lp p l * y by grind]
      refine ⟨?_, fun k hk => ?_⟩
      · rw [cf_add, i1, cf_mono_mul, csum_cons]
        by_cases e : t.1 = h
        · rw [if_pos e, e, show h + h' - h = h' by omega, ← Int.add_emod, Int.add_mul]
        · rw [if_neg e, b (h + h' - t.1) (by omega)]
          simp
      · rw [cf_add, i2 k hk, cf_mono_mul, b (k - t.1) (by omega)]
        simp
  have r := key (can x) fun t ht => by
    obtain ⟨h1, h2⟩ := (can_mem hp x t.1 t.2).mp ht
    exact Int.not_lt.mp fun z => by have := a t.1 z; omega
  rw [lp_can hp, csum_can hp] at r
  exact r
theorem cf_mul_bot (hp : 0 < p) {x y : LP p} {h h' : Int} (a : ∀ k, k < h → cf x k = 0) (b : ∀ k, k < h' → cf y k = 0) : cf (x * y) (h + h') = (cf x h * cf y h') % p ∧ ∀ k, k < h + h' → cf (x * y) k = 0 := by
  have key : ∀ (l : Tm), (∀ t ∈ l, h ≤ t.1) → (cf (lp p l * y) (h + h') = (csum l h * cf y h') % p) ∧ ∀ k, k < h + h' → cf (lp p l * y) k = 0 := by
    intro l
    induction l with
    | nil =>
      intro _
      rw [← lp_zero, show (0 : LP p) * y = 0 by grind, csum_nil]
      exact ⟨by rw [cf_zero]; simp, fun k _ => cf_zero k⟩
    | cons t l ih =>
      intro hl
      obtain ⟨i1, i2⟩ := ih fun u hu => hl u (List.mem_cons_of_mem _ hu)
      have ht := hl t (List.mem_cons_self ..)
      rw [lp_cons, show (mono p t.1 t.2 + lp p l) * y = mono p t.1 t.2 * y + lp p l * y by grind]
      refine ⟨?_, fun k hk => ?_⟩
      · rw [cf_add, i1, cf_mono_mul, csum_cons]
        by_cases e : t.1 = h
        · rw [if_pos e, e, show h + h' - h = h' by omega, ← Int.add_emod, Int.add_mul]
        · rw [if_neg e, b (h + h' - t.1) (by omega)]
          simp
      · rw [cf_add, i2 k hk, cf_mono_mul, b (k - t.1) (by omega)]
        simp
  have r := key (can x) fun t ht => by
    obtain ⟨h1, h2⟩ := (can_mem hp x t.1 t.2).mp ht
    exact Int.not_lt.mp fun z => by have := a t.1 z; omega
  rw [lp_can hp, csum_can hp] at r
  exact r
theorem Hi.mul (hp : isPr p = true) {x y : LP p} {h h' : Int} (a : Hi x h) (b : Hi y h') : Hi (x * y) (h + h') := by
  obtain ⟨c, d⟩ := cf_mul_top (isPr_pos hp).1 a.2 b.2
  exact ⟨by rw [c]; exact dig_mul hp (by rw [cf_mod]; exact a.1) (by rw [cf_mod]; exact b.1), d⟩
theorem Lo.mul (hp : isPr p = true) {x y : LP p} {h h' : Int} (a : Lo x h) (b : Lo y h') : Lo (x * y) (h + h') := by
  obtain ⟨c, d⟩ := cf_mul_bot (isPr_pos hp).1 a.2 b.2
  exact ⟨by rw [c]; exact dig_mul hp (by rw [cf_mod]; exact a.1) (by rw [cf_mod]; exact b.1), d⟩
theorem mul_ne (hp : isPr p = true) {x y : LP p} (h : x ≠ 0) (h' : y ≠ 0) : x * y ≠ 0 := by
  obtain ⟨a, ha⟩ := exists_hi (isPr_pos hp).1 h
  obtain ⟨b, hb⟩ := exists_hi (isPr_pos hp).1 h'
  exact (ha.mul hp hb).ne
theorem mul_zero_or (hp : isPr p = true) {x y : LP p} (h : x * y = 0) : x = 0 ∨ y = 0 := by
  by_cases e : x = 0
  · exact .inl e
  · by_cases e' : y = 0
    · exact .inr e'
    · exact absurd h (mul_ne hp e e')
theorem mul_cancel (hp : isPr p = true) {x y z : LP p} (hz : z ≠ 0) (h : x * z = y * z) : x = y := by
  have : (x - y) * z = 0 := by grind
  rcases mul_zero_or hp this with e | e
  · grind
  · exact absurd e hz
theorem rem_zero (hp : isPr p = true) {r q g : LP p} {l h : Int} (hl : Lo g l) (hh : Hi g h) (hr : Bd r 0 (h - l - 1)) (e : r = q * g) : r = 0 := by
  by_cases hq : q = 0
  · rw [e, hq]; grind
  · exfalso
    obtain ⟨a, ha⟩ := exists_hi (isPr_pos hp).1 hq
    obtain ⟨b, hb⟩ := exists_lo (isPr_pos hp).1 hq
    have h1 := ha.mul hp hh
    have h2 := hb.mul hp hl
    rw [← e] at h1 h2
    have := hr _ h1.1
    have := hr _ h2.1
    have := lo_le_hi hb ha
    omega
end
end My

namespace My
section
variable {p : Int}
noncomputable def lo (x : LP p) : Int := ((can x).head?.map (·.1)).getD 0
noncomputable def hi (x : LP p) : Int := ((can x).getLast?.map (·.1)).getD 0
noncomputable def sp (x : LP p) : Int := hi x - lo x
theorem lo_ok (hp : 0 < p) {x : LP p} (h : x ≠ 0) : Lo x (lo x) := by
  unfold lo
  cases e : (can x).head? with
  | none => exact absurd ((can_nil hp).mp (List.head?_eq_none_iff.mp e)) h
  | some t => exact (lo_of hp e).1
theorem hi_ok (hp : 0 < p) {x : LP p} (h : x ≠ 0) : Hi x (hi x) := by
  unfold hi
  cases e : (can x).getLast? with
  | none => exact absurd ((can_nil hp).mp (List.getLast?_eq_none_iff.mp e)) h
  | some t => exact (hi_of hp e).1
theorem sp_nonneg (hp : 0 < p) {x : LP p} (h : x ≠ 0) : 0 ≤ sp x := by
  have := lo_le_hi (lo_ok hp h) (hi_ok hp h)
  unfold sp; omega
theorem Lo.lo (hp : 0 < p) {x : LP p} {l : Int} (h : Lo x l) : My.lo x = l := (lo_ok hp h.ne).uniq h
theorem Hi.hi (hp : 0 < p) {x : LP p} {l : Int} (h : Hi x l) : My.hi x = l := (hi_ok hp h.ne).uniq h
theorem bd_hl (hp : 0 < p) {x : LP p} (h : x ≠ 0) : Bd x (lo x) (hi x) := .of_hl (hi_ok hp h) (lo_ok hp h)
theorem Bd.lo (hp : 0 < p) {x : LP p} {l h : Int} (b : Bd x l h) (hx : x ≠ 0) : l ≤ My.lo x ∧ My.lo x ≤ h := b _ (lo_ok hp hx).1
theorem Bd.hi (hp : 0 < p) {x : LP p} {l h : Int} (b : Bd x l h) (hx : x ≠ 0) : l ≤ My.hi x ∧ My.hi x ≤ h := b _ (hi_ok hp hx).1
theorem lo_mul (hp : isPr p = true) {x y : LP p} (hx : x ≠ 0) (hy : y ≠ 0) : lo (x * y) = lo x + lo y := ((lo_ok (isPr_pos hp).1 hx).mul hp (lo_ok (isPr_pos hp).1 hy)).lo (isPr_pos hp).1
theorem hi_mul (hp : isPr p = true) {x y : LP p} (hx : x ≠ 0) (hy : y ≠ 0) : hi (x * y) = hi x + hi y := ((hi_ok (isPr_pos hp).1 hx).mul hp (hi_ok (isPr_pos hp).1 hy)).hi (isPr_pos hp).1
theorem sp_mul (hp : isPr p = true) {x y : LP p} (hx : x ≠ 0) (hy : y ≠ 0) : sp (x * y) = sp x + sp y := by
  unfold sp; rw [lo_mul hp hx hy, hi_mul hp hx hy]; omega
theorem one_mod (hp : isPr p = true) : (1 : Int) % p = 1 := by rcases isPr_cases hp with rfl | rfl | rfl | rfl <;> decide
theorem mono_lo (k : Int) {c : Int} (h : c % p ≠ 0) : Lo (mono p k c) k := ⟨by rw [cf_mono, if_pos rfl]; exact h, fun j hj => by rw [cf_mono, if_neg (by omega)]⟩
theorem mono_hi (k : Int) {c : Int} (h : c % p ≠ 0) : Hi (mono p k c) k := ⟨by rw [cf_mono, if_pos rfl]; exact h, fun j hj => by rw [cf_mono, if_neg (by omega)]⟩
theorem one_ne (hp : isPr p = true) : (1 : LP p) ≠ 0 := (mono_lo (p := p) 0 (c := 1) (by rw [one_mod hp]; decide)).ne
def Dv (x y : LP p) : Prop := ∃ q, y = q * x
theorem Dv.refl (x : LP p) : Dv x x := ⟨1, by grind⟩
theorem Dv.trans {x y z : LP p} (h : Dv x y) (h' : Dv y z) : Dv x z := by
  obtain ⟨a, rfl⟩ := h
  obtain ⟨b, rfl⟩ := h'
  exact ⟨b * a, by grind⟩
theorem Dv.zero (x : LP p) : Dv x 0 := ⟨0, by grind⟩
theorem Dv.add {x y z : LP p} (h : Dv x y) (h' : Dv x z) : Dv x (y + z) := by
  obtain ⟨a, rfl⟩ := h
  obtain ⟨b, rfl⟩ := h'
  exact ⟨a + b, by grind⟩
theorem Dv.neg {x y : LP p} (h : Dv x y) : Dv x (-y) := by
  obtain ⟨a, rfl⟩ := h
  exact ⟨-a, by grind⟩
theorem Dv.sub {x y z : LP p} (h : Dv x y) (h' : Dv x z) : Dv x (y - z) := by
  obtain ⟨a, rfl⟩ := h
  obtain ⟨b, rfl⟩ := h'
  exact ⟨a - b, by grind⟩
theorem Dv.mul {x y : LP p} (h : Dv x y) (z : LP p) : Dv x (z * y) := by
  obtain ⟨a, rfl⟩ := h
  exact ⟨z * a, by grind⟩
theorem Dv.mulr {x y : LP p} (h : Dv x y) (z : LP p) : Dv (x * z) (y * z) := by
  obtain ⟨a, rfl⟩ := h
  exact ⟨a, by grind⟩
theorem dv_zero {x : LP p} (h : Dv 0 x) : x = 0 := by obtain ⟨a, rfl⟩ := h; grind
theorem unit_mono {u : LP p} {a : Int} (h : Hi u a) (l : Lo u a) : u = mono p a (cf u a) := cf_ext fun j => by
  rw [cf_mono]
  split
  · rename_i e; subst e; rw [cf_mod]
  · rename_i e
    rcases Int.lt_or_gt_of_ne (fun z => e z.symm) with z | z
    · exact l.2 j z
    · exact h.2 j z
theorem unit_of (hp : isPr p = true) {u v : LP p} (h : u * v = 1) : ∃ a c, u = mono p a c ∧ 0 < c ∧ c < p := by
  have h0 := (isPr_pos hp).1
  have hu : u ≠ 0 := fun z => one_ne hp (by rw [← h, z]; grind)
  have hv : v ≠ 0 := fun z => one_ne hp (by rw [← h, z]; grind)
  have h1 := lo_mul hp hu hv
  have h2 := hi_mul hp hu hv
  have l1 : lo (1 : LP p) = 0 := (mono_lo (p := p) 0 (c := 1) (by rw [one_mod hp]; decide)).lo h0
  have l2 : hi (1 : LP p) = 0 := (mono_hi (p := p) 0 (c := 1) (by rw [one_mod hp]; decide)).hi h0
  rw [h] at h1 h2
  have s1 := lo_le_hi (lo_ok h0 hu) (hi_ok h0 hu)
  have s2 := lo_le_hi (lo_ok h0 hv) (hi_ok h0 hv)
  have e : lo u = hi u := by omega
  have hl := lo_ok h0 hu
  rw [e] at hl
  refine ⟨hi u, cf u (hi u), unit_mono (hi_ok h0 hu) hl, ?_, (cf_range h0 u _).2⟩
  have := (cf_range h0 u (hi u)).1
  have := hl.1
  omega
theorem mono_unit (hp : isPr p = true) {a c : Int} (h0 : 0 < c) (h1 : c < p) : mono p (-a) (invD p c) * mono p a c = 1 := by
  rw [mono_mul, ← mono_mod, (invD_mul hp h0 h1).1, show -a + a = 0 by omega]
  rfl
def Nrm (x : LP p) : Prop := x = 0 ∨ (Lo x 0 ∧ cf x (hi x) = 1)
noncomputable def nrm (x : LP p) : LP p := mono p (-lo x) (invD p (cf x (hi x))) * x
theorem cf_hi (hp : 0 < p) {x : LP p} (h : x ≠ 0) : 0 < cf x (hi x) ∧ cf x (hi x) < p := by
  have := (hi_ok hp h).1
  have := cf_range hp x (hi x)
  omega
theorem cf_lo (hp : 0 < p) {x : LP p} (h : x ≠ 0) : 0 < cf x (lo x) ∧ cf x (lo x) < p := by
  have := (lo_ok hp h).1
  have := cf_range hp x (lo x)
  omega
theorem nrm_zero : nrm (0 : LP p) = 0 := by unfold nrm; grind
theorem inv_ne (hp : isPr p = true) {c : Int} (h0 : 0 < c) (h1 : c < p) : invD p c % p ≠ 0 := by
  obtain ⟨a, b, d⟩ := invD_mul hp h0 h1
  rw [Int.emod_eq_of_lt (by omega) d]
  omega
theorem nrm_unit (hp : isPr p = true) {x : LP p} (h : x ≠ 0) : ∃ u v : LP p, u * v = 1 ∧ nrm x = u * x ∧ x = v * nrm x := by
  have h0 := (isPr_pos hp).1
  obtain ⟨c0, c1⟩ := cf_hi h0 h
  have := mono_unit hp (a := lo x) c0 c1
  refine ⟨mono p (-lo x) (invD p (cf x (hi x))), mono p (lo x) (cf x (hi x)), this, rfl, ?_⟩
  unfold nrm
  grind
theorem nrm_ne (hp : isPr p = true) {x : LP p} (h : x ≠ 0) : nrm x ≠ 0 := by
  obtain ⟨u, v, e, e1, e2⟩ := nrm_unit hp h
  intro z
  rw [z] at e2
  exact h (by rw [e2]; grind)
theorem nrm_hl (hp : isPr p = true) {x : LP p} (h : x ≠ 0) : Lo (nrm x) 0 ∧ Hi (nrm x) (sp x) ∧ cf (nrm x) (sp x) = 1 := by
  have h0 := (isPr_pos hp).1
  obtain ⟨c0, c1⟩ := cf_hi h0 h
  have hi' := inv_ne hp c0 c1
  have a := (mono_lo (-lo x) hi').mul hp (lo_ok h0 h)
  have b := (mono_hi (-lo x) hi').mul hp (hi_ok h0 h)
  rw [show -lo x + lo x = 0 by omega] at a
  rw [show -lo x + hi x = sp x by unfold sp; omega] at b
  refine ⟨a, b, ?_⟩
  unfold nrm
  rw [cf_mono_mul, show sp x - -lo x = hi x by unfold sp; omega]
  exact (invD_mul hp c0 c1).1
theorem nrm_nrm (hp : isPr p = true) (x : LP p) : Nrm (nrm x) := by
  by_cases h : x = 0
  · rw [h, nrm_zero]; exact .inl rfl
  · obtain ⟨a, b, c⟩ := nrm_hl hp h
    exact .inr ⟨a, by rw [b.hi (isPr_pos hp).1]; exact c⟩
theorem sp_nrm (hp : isPr p = true) {x : LP p} (h : x ≠ 0) : sp (nrm x) = sp x := by
  obtain ⟨a, b, c⟩ := nrm_hl hp h
  unfold sp
  rw [a.lo (isPr_pos hp).1, b.hi (isPr_pos hp).1]
  unfold sp
  omega
theorem dv_nrm (hp : isPr p = true) (x : LP p) : Dv x (nrm x) := ⟨_, rfl⟩
theorem nrm_dv (hp : isPr p = true) (x : LP p) : Dv (nrm x) x := by
  by_cases h : x = 0
  · rw [h]; exact .zero _
  · obtain ⟨u, v, e, e1, e2⟩ := nrm_unit hp h
    exact ⟨v, e2⟩
theorem nrm_uniq (hp : isPr p = true) {x y : LP p} (hx : Nrm x) (hy : Nrm y) (h : Dv x y) (h' : Dv y x) : x = y := by
  have h0 := (isPr_pos hp).1
  by_cases e : x = 0
  · rw [e] at h ⊢; exact (dv_zero h).symm
  · have ey : y ≠ 0 := fun z => e (dv_zero (z ▸ h'))
    obtain ⟨u, eu⟩ := h
    obtain ⟨v, ev⟩ := h'
    have huv : u * v = 1 := mul_cancel hp e (by grind)
    obtain ⟨a, c, rfl, c0, c1⟩ := unit_of hp huv
    rcases hx with hx | ⟨lx, cx⟩
    · exact absurd hx e
    rcases hy with hy | ⟨ly, cy⟩
    · exact absurd hy ey
    have hc : c % p ≠ 0 := by rw [Int.emod_eq_of_lt (by omega) c1]; omega
    have l2 := (mono_lo a hc).mul hp lx
    have h2 := (mono_hi a hc).mul hp (hi_ok h0 e)
    rw [← eu] at l2 h2
    have ea : a = 0 := by have := l2.uniq ly; omega
    subst ea
    have e1 := h2.hi h0
    rw [e1, eu, cf_mono_mul, show 0 + hi x - 0 = hi x by omega, cx, Int.mul_one, Int.emod_eq_of_lt (by omega) c1] at cy
    rw [eu, cy, mono_one]
    grind
theorem nrm_of (hp : isPr p = true) {x : LP p} (h : Nrm x) : nrm x = x := nrm_uniq hp (nrm_nrm hp x) h (nrm_dv hp x) (dv_nrm hp x)
theorem Nrm.mul (hp : isPr p = true) {x y : LP p} (hx : Nrm x) (hy : Nrm y) : Nrm (x * y) := by
  have h0 := (isPr_pos hp).1
  by_cases ex : x = 0
  · rw [ex]; exact .inl (by grind)
  by_cases ey : y = 0
  · rw [ey]; exact .inl (by grind)
  rcases hx with hx | ⟨lx, cx⟩
  · exact absurd hx ex
  rcases hy with hy | ⟨ly, cy⟩
  · exact absurd hy ey
  refine .inr ⟨lx.mul hp ly, ?_⟩
  rw [hi_mul hp ex ey, (cf_mul_top h0 (hi_ok h0 ex).2 (hi_ok h0 ey).2).1, cx, cy, Int.mul_one]
  exact one_mod hp
def IsMod (f g r : LP p) : Prop := (∃ q, f = q * g + r) ∧ Bd r 0 (sp g - 1)
def IsQuo (f g q : LP p) : Prop := ∃ r, f = q * g + r ∧ Bd r 0 (sp g - 1)
theorem IsMod.dv {f g r : LP p} (h : IsMod f g r) : Dv g (f - r) := by obtain ⟨⟨q, e⟩, _⟩ := h; exact ⟨q, by grind⟩
theorem mod_uniq (hp : isPr p = true) {f f' g r r' : LP p} (hg : g ≠ 0) (h : IsMod f g r) (h' : IsMod f' g r') (d : Dv g (f - f')) : r = r' := by
  have h0 := (isPr_pos hp).1
  obtain ⟨q, e⟩ := (h'.dv.sub h.dv).add d
  have e : r - r' = q * g := by rw [← e]; grind
  have := rem_zero hp (lo_ok h0 hg) (hi_ok h0 hg) (r := r - r') ((h.2.sub h'.2).mono (by omega) (by unfold sp; omega)) e
  grind
theorem quo_uniq (hp : isPr p = true) {f g q q' : LP p} (hg : g ≠ 0) (h : IsQuo f g q) (h' : IsQuo f g q') : q = q' := by
  obtain ⟨r, e, b⟩ := h
  obtain ⟨r', e', b'⟩ := h'
  have := mod_uniq hp hg (f := f) (f' := f) ⟨⟨q, e⟩, b⟩ ⟨⟨q', e'⟩, b'⟩ (by rw [show f - f = 0 by grind]; exact .zero _)
  subst this
  exact mul_cancel hp hg (by grind)
theorem mod_of_dv (hp : isPr p = true) {f g r : LP p} (hg : g ≠ 0) (h : IsMod f g r) (d : Dv g f) : r = 0 :=
  mod_uniq hp hg h (f' := 0) ⟨⟨0, by grind⟩, .zero _ _⟩ (by rw [show f - 0 = f by grind]; exact d)
theorem IsMod.nrm (hp : isPr p = true) {f g r : LP p} (hg : g ≠ 0) (h : IsMod f (nrm g) r) : IsMod f g r := by
  obtain ⟨⟨q, e⟩, b⟩ := h
  obtain ⟨u, eu⟩ := dv_nrm hp g
  exact ⟨⟨q * u, by rw [e, eu]; grind⟩, by rw [← sp_nrm hp hg]; exact b⟩
def IsGcd (d f g : LP p) : Prop := Nrm d ∧ Dv d f ∧ Dv d g ∧ ∃ u v, d = u * f + v * g
theorem IsGcd.uniq (hp : isPr p = true) {d e f g : LP p} (h : IsGcd d f g) (h' : IsGcd e f g) : d = e := by
  obtain ⟨n, a, b, u, v, ed⟩ := h
  obtain ⟨n', a', b', u', v', ee⟩ := h'
  refine nrm_uniq hp n n' ?_ ?_
  · rw [ee]; exact (a.mul _).add (b.mul _)
  · rw [ed]; exact (a'.mul _).add (b'.mul _)
theorem IsGcd.of (hp : isPr p = true) {d f g : LP p} (h : IsGcd d f g) {f' g' : LP p} (h1 : Dv d f') (h2 : Dv d g') (h3 : ∃ a b, f = a * f' + b * g') (h4 : ∃ a b, g = a * f' + b * g') : IsGcd d f' g' := by
  obtain ⟨n, a, b, u, v, ed⟩ := h
  obtain ⟨c1, c2, e1⟩ := h3
  obtain ⟨c3, c4, e2⟩ := h4
  exact ⟨n, h1, h2, u * c1 + v * c3, u * c2 + v * c4, by rw [ed, e1, e2]; grind⟩
theorem IsGcd.zero (hp : isPr p = true) (f : LP p) : IsGcd (nrm f) f 0 := by
  obtain ⟨u, e⟩ := dv_nrm hp f
  exact ⟨nrm_nrm hp f, nrm_dv hp f, .zero _, u, 0, by rw [e]; grind⟩
theorem IsGcd.ne (hp : isPr p = true) {d f g : LP p} (h : IsGcd d f g) (hf : f ≠ 0 ∨ g ≠ 0) : d ≠ 0 := fun z => by
  obtain ⟨_, a, b, _⟩ := h
  rw [z] at a b
  rcases hf with hf | hf
  · exact hf (dv_zero a)
  · exact hf (dv_zero b)
theorem IsGcd.mulr (hp : isPr p = true) {d f g : LP p} (h : IsGcd d f g) (k : LP p) : IsGcd (nrm (d * k)) (f * k) (g * k) := by
  obtain ⟨n, a, b, u, v, ed⟩ := h
  obtain ⟨w, ew⟩ := dv_nrm hp (d * k)
  refine ⟨nrm_nrm hp _, (nrm_dv hp _).trans (a.mulr k), (nrm_dv hp _).trans (b.mulr k), w * u, w * v, ?_⟩
  rw [ew, ed]
  grind
def IsLcm (m f g : LP p) : Prop := ∃ d q, IsGcd d f g ∧ f * g = q * d ∧ ((f = 0 ∨ g = 0) → m = 0) ∧ (f ≠ 0 → g ≠ 0 → m = nrm q)
end
end My

namespace My
variable {p : Int}
def ac (x : LP p) (s : Int → Int) (k : Int) : Int := Quotient.liftOn x (fun a => wsum a (fun t => s (k + t)) % p) fun a b h => wsum_congr h _
theorem ac_lp (a : Tm) (s : Int → Int) (k : Int) : ac (lp p a) s k = wsum a (fun t => s (k + t)) % p := rfl
theorem ac_mod (x : LP p) (s : Int → Int) (k : Int) : ac x s k % p = ac x s k := by
  obtain ⟨a, rfl⟩ := lp_surj x
  rw [ac_lp, Int.emod_emod_of_dvd _ (Int.dvd_refl p)]
theorem ac_range (hp : 0 < p) (x : LP p) (s : Int → Int) (k : Int) : 0 ≤ ac x s k ∧ ac x s k < p := by
  rw [← ac_mod]
  exact ⟨Int.emod_nonneg _ (by omega), Int.emod_lt_of_pos _ hp⟩
theorem ac_zero (s : Int → Int) (k : Int) : ac (0 : LP p) s k = 0 := by rw [lp_zero, ac_lp, wsum_nil]; exact Int.zero_emod p
theorem ac_add (x y : LP p) (s : Int → Int) (k : Int) : ac (x + y) s k = (ac x s k + ac y s k) % p := by
  obtain ⟨a, rfl⟩ := lp_surj x
  obtain ⟨b, rfl⟩ := lp_surj y
  rw [lp_add, ac_lp, ac_lp, ac_lp, wsum_append, Int.add_emod]
theorem ac_mono (t c : Int) (s : Int → Int) (k : Int) : ac (mono p t c) s k = (c * s (k + t)) % p := by
  unfold mono
  rw [ac_lp, wsum_cons, wsum_nil, Int.add_zero]
theorem wsum_mod {p : Int} (a : Tm) (f : Int → Int) : wsum a (fun t => f t % p) % p = wsum a f % p := wsum_congr_f a fun k => Int.emod_emod_of_dvd _ (Int.dvd_refl p)
theorem ac_mul (x y : LP p) (s : Int → Int) (k : Int) : ac (x * y) s k = ac x (ac y s) k := by
  obtain ⟨a, rfl⟩ := lp_surj x
  obtain ⟨b, rfl⟩ := lp_surj y
  rw [lp_mul, ac_lp, ac_lp, wsum_prods]
  have : (fun t => ac (lp p b) s (k + t)) = fun t => wsum b (fun u => s (k + t + u)) % p := rfl
  rw [this, wsum_mod]
  congr 2
  funext i
  congr 1
  funext j
  rw [Int.add_assoc]
theorem ac_neg (x : LP p) (s : Int → Int) (k : Int) : ac (-x) s k = (-ac x s k) % p := by
  have h := ac_add (-x) x s k
  rw [show -x + x = (0 : LP p) by grind, ac_zero] at h
  have h2 : (ac (-x) s k) % p = (ac (-x) s k + ac x s k - ac x s k) % p := by congr 1; omega
  rw [Int.sub_emod, ← h, Int.zero_sub, ac_mod, ac_mod] at h2
  exact h2
theorem ac_sub (x y : LP p) (s : Int → Int) (k : Int) : ac (x - y) s k = (ac x s k - ac y s k) % p := by
  rw [show x - y = x + -y by grind, ac_add, ac_neg, Int.add_emod, Int.emod_emod_of_dvd _ (Int.dvd_refl p), ← Int.add_emod]
  rfl
def Dg (p : Int) (s : Int → Int) : Prop := ∀ k, 0 ≤ s k ∧ s k < p
theorem Dg.mod {s : Int → Int} (h : Dg p s) (k : Int) : s k % p = s k := Int.emod_eq_of_lt (h k).1 (h k).2
theorem Dg.ac (hp : 0 < p) (x : LP p) (s : Int → Int) : Dg p (ac x s) := fun k => ac_range hp x s k
theorem at_ac {s : Int → Int} (h : Dg p s) (k : Int) : s k = ac (mono p k 1) s 0 := by rw [ac_mono, Int.one_mul, Int.zero_add, h.mod]
theorem ac_at (x : LP p) (s : Int → Int) (k : Int) : ac x s k = ac (mono p k 1 * x) s 0 := by
  obtain ⟨a, rfl⟩ := lp_surj x
  unfold mono
  rw [lp_mul, ac_lp, ac_lp, prods_cons, show prods [] a = [] from rfl, List.append_nil]
  congr 1
  unfold wsum
  rw [List.map_map]
  congr 1
  refine List.map_congr_left fun t _ => ?_
  show t.2 * s (k + t.1) = (1 * t.2) * s (0 + (k + t.1))
  rw [Int.one_mul, Int.zero_add]
def Ru (x : LP p) (s : Int → Int) : Prop := ∀ k, ac x s k = 0
theorem Ru.mul {x : LP p} {s : Int → Int} (h : Ru x s) (y : LP p) : Ru (y * x) s := fun k => by
  rw [ac_mul]
  obtain ⟨a, rfl⟩ := lp_surj y
  rw [ac_lp]
  have : (fun t => ac x s (k + t)) = fun _ => 0 := by funext t; exact h _
  rw [this]
  unfold wsum
  rw [show (a.map fun t => t.2 * (0 : Int)) = a.map (fun _ => (0 : Int)) from List.map_congr_left fun t _ => Int.mul_zero _]
  have : (a.map fun _ => (0 : Int)).sum = 0 := by
    induction a with
    | nil => rfl
    | cons t a ih => rw [List.map_cons, List.sum_cons, ih]; rfl
  rw [this, Int.zero_emod]
theorem Ru.dv {x y : LP p} {s : Int → Int} (h : Ru x s) (d : Dv x y) : Ru y s := by
  obtain ⟨q, rfl⟩ := d
  exact h.mul q
theorem Ru.add {x y : LP p} {s : Int → Int} (h : Ru x s) (h' : Ru y s) : Ru (x + y) s := fun k => by rw [ac_add, h, h']; exact Int.zero_emod p
theorem Ru.sub {x y : LP p} {s : Int → Int} (h : Ru x s) (h' : Ru y s) : Ru (x - y) s := fun k => by rw [ac_sub, h, h']; exact Int.zero_emod p
theorem Ru.nrm (hp : isPr p = true) {x : LP p} {s : Int → Int} : Ru (nrm x) s ↔ Ru x s := ⟨fun h => h.dv (nrm_dv hp x), fun h => h.dv (dv_nrm hp x)⟩
theorem ac_congr {g x y : LP p} {s : Int → Int} (h : Ru g s) (d : Dv g (x - y)) (k : Int) : ac x s k = ac y s k := by
  have h1 := (h.dv d) k
  have e : x = y + (x - y) := by grind
  rw [e, ac_add, h1, Int.add_zero, ac_mod]
def lf (m : Nat) (f : Nat → Int) (d : Nat → Int) : Int := ((List.range m).map fun i => f i * d i).sum
theorem ac_bd {r : LP p} {m : Nat} (h : Bd r 0 ((m : Int) - 1)) (s : Int → Int) (k : Int) : ac r s k = lf m (fun i => cf r i) (fun i => s (k + i)) % p := by
  have e : r = lp p ((List.range m).map fun (i : Nat) => ((i : Int), cf r (i : Int))) := by
    refine cf_ext fun k => ?_
    rw [cf_lp]
    have : ∀ m : Nat, csum ((List.range m).map fun (i : Nat) => ((i : Int), cf r (i : Int))) k = if 0 ≤ k ∧ k < m then cf r k else 0 := fun m => by
      induction m with
      | zero => rw [if_neg (by omega)]; rfl
      | succ m ih =>
        rw [List.range_succ, List.map_append, csum_append, ih, List.map_cons, List.map_nil, csum_cons, csum_nil]
        by_cases h : (m : Int) = k
        · subst h
          rw [if_neg (by omega), if_pos rfl, if_pos (by push_cast; omega)]; omega
        · rw [if_neg (show ¬ ((m : Int), cf r (m : Int)).1 = k from h)]
          by_cases h2 : 0 ≤ k ∧ k < (m : Int)
          · rw [if_pos h2, if_pos (by push_cast; omega)]; omega
          · rw [if_neg h2, if_neg (by push_cast; omega)]; rfl
    rw [this]
    split
    · rw [cf_mod]
    · by_cases z : cf r k = 0
      · rw [z, Int.zero_emod]
      · have := h k z; omega
  conv => lhs; rw [e]
  rw [ac_lp]
  unfold wsum lf
  rw [List.map_map]
  rfl
theorem lf_congr {m : Nat} {f f' d d' : Nat → Int} (h : ∀ i, i < m → f i = f' i) (h' : ∀ i, i < m → d i = d' i) : lf m f d = lf m f' d' := by
  unfold lf
  congr 1
  refine List.map_congr_left fun i hi => ?_
  rw [List.mem_range] at hi
  rw [h i hi, h' i hi]
def Dvr (g : LP p) (m : Nat) : Prop := Lo g 0 ∧ Hi g m ∧ cf g m = 1
theorem Dvr.bd {g : LP p} {m : Nat} (h : Dvr g m) : Bd g 0 m := .of_hl h.2.1 h.1
theorem Dvr.sp (hp : 0 < p) {g : LP p} {m : Nat} (h : Dvr g m) : sp g = m := by
  unfold My.sp
  rw [h.1.lo hp, h.2.1.hi hp]; omega
theorem Dvr.nrm (hp : isPr p = true) {g : LP p} (h : g ≠ 0) : Dvr (nrm g) (My.sp g).toNat := by
  obtain ⟨n1, n2, n3⟩ := nrm_hl hp h
  have := sp_nonneg (isPr_pos hp).1 h
  rw [show My.sp g = ((My.sp g).toNat : Int) by omega] at n2 n3
  exact ⟨n1, n2, n3⟩
theorem Nrm.dvr (hp : isPr p = true) {g : LP p} (h : Nrm g) (h0 : g ≠ 0) : Dvr g (My.sp g).toNat := by
  have := Dvr.nrm hp h0
  rwa [nrm_of hp h] at this
theorem rem_up {g r : LP p} {m : Nat} (hg : Dvr g m) (h : Bd r 0 ((m : Int) - 1)) : Bd (mono p 1 1 * r - mono p 0 (cf r ((m : Int) - 1)) * g) 0 ((m : Int) - 1) := fun k hk => by
  rw [cf_sub, cf_mono_mul, cf_mono_mul, Int.one_mul, cf_mod, Int.sub_zero] at hk
  by_cases hm : k = m
  · exfalso
    apply hk
    rw [hm, hg.2.2, Int.mul_one, cf_mod, Int.sub_self, Int.zero_emod]
  by_cases h1 : cf r (k - 1) = 0
  · by_cases h2 : cf g k = 0
    · rw [h1, h2] at hk; simp at hk
    · have := hg.bd k h2
      omega
  · have := h _ h1
    omega
theorem rem_down (hp : isPr p = true) {g r : LP p} {m : Nat} (hg : Dvr g m) (h : Bd r 0 ((m : Int) - 1)) : Bd (mono p (-1) 1 * r - mono p (-1) (cf r 0 * invD p (cf g 0)) * g) 0 ((m : Int) - 1) := fun k hk => by
  have hp0 := (isPr_pos hp).1
  rw [cf_sub, cf_mono_mul, cf_mono_mul, Int.one_mul, cf_mod, show k - -1 = k + 1 by omega] at hk
  by_cases hm : k = -1
  · exfalso
    apply hk
    have gl := cf_lo hp0 hg.1.ne
    rw [hg.1.lo hp0] at gl
    have hi := (invD_mul hp gl.1 gl.2).1
    rw [hm, show (-1 : Int) + 1 = 0 by rfl, Int.mul_assoc, Int.mul_emod, hi, Int.mul_one, Int.emod_emod_of_dvd _ (Int.dvd_refl p), cf_mod, Int.sub_self, Int.zero_emod]
  by_cases h1 : cf r (k + 1) = 0
  · by_cases h2 : cf g (k + 1) = 0
    · rw [h1, h2] at hk; simp at hk
    · have := hg.bd _ h2
      omega
  · have := h _ h1
    omega
theorem mono_rem (hp : isPr p = true) {g : LP p} {m : Nat} (hg : Dvr g m) : ∀ n : Nat, (∃ r, Dv g (mono p (n : Int) 1 - r) ∧ Bd r 0 ((m : Int) - 1)) ∧ ∃ r, Dv g (mono p (-(n : Int)) 1 - r) ∧ Bd r 0 ((m : Int) - 1)
  | 0 => by
    have h : ∃ r, Dv g (mono p 0 1 - r) ∧ Bd r 0 ((m : Int) - 1) := by
      by_cases hm : m = 0
      · refine ⟨0, ?_, .zero _ _⟩
        have e1 : g = 1 := by
          subst hm
          rw [unit_mono hg.2.1 hg.1, hg.2.2]
          exact mono_one
        rw [e1]
        exact ⟨_, (by grind : mono p 0 1 - 0 = (mono p 0 1 - 0) * 1)⟩
      · refine ⟨mono p 0 1, by rw [show mono p 0 1 - mono p 0 1 = 0 by grind]; exact .zero _, fun k hk => ?_⟩
        rw [cf_mono] at hk
        split at hk
        · omega
        · exact absurd rfl hk
    exact ⟨h, h⟩
  | n + 1 => by
    obtain ⟨⟨r, d, b⟩, ⟨r', d', b'⟩⟩ := mono_rem hp hg n
    refine ⟨⟨_, ?_, rem_up hg b⟩, ⟨_, ?_, rem_down hp hg b'⟩⟩
    · have : mono p ((n + 1 : Nat) : Int) 1 - (mono p 1 1 * r - mono p 0 (cf r ((m : Int) - 1)) * g) = mono p 1 1 * (mono p (n : Int) 1 - r) + mono p 0 (cf r ((m : Int) - 1)) * g := by
        have e : mono p ((n + 1 : Nat) : Int) 1 = mono p 1 1 * mono p (n : Int) 1 := by
          rw [mono_mul, Int.mul_one]; congr 1; push_cast; omega
        rw [e]; grind
      rw [this]
      exact (d.mul _).add ((Dv.refl g).mul _)
    · have : mono p (-((n + 1 : Nat) : Int)) 1 - (mono p (-1) 1 * r' - mono p (-1) (cf r' 0 * invD p (cf g 0)) * g) = mono p (-1) 1 * (mono p (-(n : Int)) 1 - r') + mono p (-1) (cf r' 0 * invD p (cf g 0)) * g := by
        have e : mono p (-((n + 1 : Nat) : Int)) 1 = mono p (-1) 1 * mono p (-(n : Int)) 1 := by
          rw [mono_mul, Int.mul_one]; congr 1; push_cast; omega
        rw [e]; grind
      rw [this]
      exact (d'.mul _).add ((Dv.refl g).mul _)
theorem monoZ_rem (hp : isPr p = true) {g : LP p} {m : Nat} (hg : Dvr g m) (k : Int) : ∃ r, Dv g (mono p k 1 - r) ∧ Bd r 0 ((m : Int) - 1) := by
  by_cases h : 0 ≤ k
  · have := (mono_rem hp hg k.toNat).1
    rwa [Int.toNat_of_nonneg h] at this
  · have := (mono_rem hp hg (-k).toNat).2
    rwa [Int.toNat_of_nonneg (by omega), Int.neg_neg] at this
theorem Bd.smul {x : LP p} {lo hi : Int} (h : Bd x lo hi) (c : Int) : Bd (My.mono p 0 c * x) lo hi := (h.mono_mul 0 c).mono (by omega) (by omega)
theorem rem_ex (hp : isPr p = true) {g : LP p} {m : Nat} (hg : Dvr g m) (x : LP p) : ∃ r, Dv g (x - r) ∧ Bd r 0 ((m : Int) - 1) := by
  obtain ⟨a, rfl⟩ := lp_surj x
  induction a with
  | nil => exact ⟨0, by rw [← lp_zero, show (0 : LP p) - 0 = 0 by grind]; exact .zero _, .zero _ _⟩
  | cons t a ih =>
    obtain ⟨r, d, b⟩ := ih
    obtain ⟨r', d', b'⟩ := monoZ_rem hp hg t.1
    refine ⟨mono p 0 t.2 * r' + r, ?_, (b'.smul _).add b⟩
    have e : mono p t.1 t.2 = mono p 0 t.2 * mono p t.1 1 := by rw [mono_mul, Int.mul_one, Int.zero_add]
    rw [lp_cons, e, show mono p 0 t.2 * mono p t.1 1 + lp p a - (mono p 0 t.2 * r' + r) = mono p 0 t.2 * (mono p t.1 1 - r') + (lp p a - r) by grind]
    exact (d'.mul _).add d
theorem exists_mod (hp : isPr p = true) {g : LP p} (hg : g ≠ 0) (x : LP p) : ∃ r, IsMod x g r := by
  obtain ⟨r, ⟨q, e⟩, b⟩ := rem_ex hp (Dvr.nrm hp hg) x
  have := sp_nonneg (isPr_pos hp).1 hg
  refine ⟨r, IsMod.nrm hp hg ⟨⟨q, by rw [← e]; grind⟩, ?_⟩⟩
  rw [sp_nrm hp hg, show My.sp g = ((My.sp g).toNat : Int) by omega]
  exact b
theorem ru_eq (hp : isPr p = true) {g : LP p} {m : Nat} (hg : Dvr g m) {s t : Int → Int} (hs : Dg p s) (ht : Dg p t) (rs : Ru g s) (rt : Ru g t) (h : ∀ i : Nat, i < m → s i = t i) : s = t := by
  funext k
  obtain ⟨r, d, b⟩ := monoZ_rem hp hg k
  rw [at_ac hs, at_ac ht, ac_congr rs d, ac_congr rt d, ac_bd b, ac_bd b]
  congr 1
  exact lf_congr (fun _ _ => rfl) fun i hi => by rw [Int.zero_add]; exact h i hi
theorem ru_ex (hp : isPr p = true) {g : LP p} {m : Nat} (hg : Dvr g m) (d : Nat → Int) (hd : ∀ i, i < m → 0 ≤ d i ∧ d i < p) : ∃ s, Dg p s ∧ Ru g s ∧ ∀ i : Nat, i < m → s i = d i := by
  have hp0 := (isPr_pos hp).1
  let rm : LP p → LP p := fun x => Classical.choose (rem_ex hp hg x)
  have rs : ∀ x, Dv g (x - rm x) ∧ Bd (rm x) 0 ((m : Int) - 1) := fun x => Classical.choose_spec (rem_ex hp hg x)
  have ru : ∀ x r, Dv g (x - r) → Bd r 0 ((m : Int) - 1) → rm x = r := fun x r h b => by
    have h1 := (rs x).1
    have h2 : Dv g (rm x - r) := by
      have := h.sub h1
      rwa [show x - r - (x - rm x) = rm x - r by grind] at this
    obtain ⟨q, e⟩ := h2
    have := rem_zero hp hg.1 hg.2.1 (r := rm x - r) (q := q) (by rw [Int.sub_zero]; exact (rs x).2.sub b) e
    have e2 : rm x = (rm x - r) + r := by grind
    rw [this] at e2
    rw [e2]; grind
  let D : Int → Int := fun k => if 0 ≤ k ∧ k < m then d k.toNat else 0
  let s : Int → Int := fun k => ac (rm (mono p k 1)) D 0
  have lin : ∀ a : Tm, wsum a s % p = ac (rm (lp p a)) D 0 := fun a => by
    induction a with
    | nil =>
      rw [wsum_nil, ru (lp p []) 0 (by rw [← lp_zero, show (0 : LP p) - 0 = 0 by grind]; exact .zero _) (.zero _ _), ac_zero]; exact Int.zero_emod p
    | cons t a ih =>
      have e : mono p t.1 t.2 = mono p 0 t.2 * mono p t.1 1 := by rw [mono_mul, Int.mul_one, Int.zero_add]
      rw [ru (lp p (t :: a)) (mono p 0 t.2 * rm (mono p t.1 1) + rm (lp p a)) (by
        rw [lp_cons, e, show mono p 0 t.2 * mono p t.1 1 + lp p a - (mono p 0 t.2 * rm (mono p t.1 1) + rm (lp p a)) = mono p 0 t.2 * (mono p t.1 1 - rm (mono p t.1 1)) + (lp p a - rm (lp p a)) by grind]
        exact ((rs _).1.mul _).add (rs _).1) (((rs _).2.smul _).add (rs _).2), ac_add, ← ih, wsum_cons, ac_mul, ac_mono, Int.add_zero, ← Int.add_emod]
  have key : ∀ x : LP p, ∀ k, ac x s k = ac (rm (mono p k 1 * x)) D 0 := fun x k => by
    obtain ⟨a, rfl⟩ := lp_surj x
    rw [ac_at]
    unfold mono
    rw [lp_mul, ac_lp, ← lin]
    congr 2
    funext t
    rw [Int.zero_add]
  refine ⟨s, fun k => ac_range hp0 _ _ _, fun k => ?_, fun i hi => ?_⟩
  · rw [key, ru _ 0 (by rw [show mono p k 1 * g - 0 = mono p k 1 * g by grind]; exact (Dv.refl g).mul _) (.zero _ _), ac_zero]
  · show ac (rm (mono p i 1)) D 0 = d i
    rw [ru _ (mono p i 1) (by rw [show mono p (i : Int) 1 - mono p (i : Int) 1 = 0 by grind]; exact .zero _) (fun k hk => by
      rw [cf_mono] at hk
      split at hk
      · omega
      · exact absurd rfl hk), ac_mono, Int.one_mul, Int.zero_add]
    show (if 0 ≤ (i : Int) ∧ (i : Int) < m then d (i : Int).toNat else 0) % p = d i
    rw [if_pos (by omega), Int.toNat_natCast]
    exact Int.emod_eq_of_lt (hd i hi).1 (hd i hi).2
end My

namespace My
variable {p : Int}
def hor (g : LP p) (m : Nat) : Nat → LP p
  | 0 => 0
  | j + 1 => mono p 1 1 * hor g m j + mono p 0 (cf g ((m : Int) - j))
theorem cf_hor (hp : 0 < p) (g : LP p) (m : Nat) : ∀ (j : Nat) (k : Int), cf (hor g m j) k = if 0 ≤ k ∧ k < j then cf g ((m : Int) - j + 1 + k) else 0
  | 0, k => by rw [hor, cf_zero, if_neg (by omega)]
  | j + 1, k => by
    rw [hor, cf_add, cf_mono_mul, cf_mono, cf_hor hp g m j, Int.one_mul]
    by_cases h0 : (0 : Int) = k
    · rw [if_neg (show ¬ (0 ≤ k - 1 ∧ k - 1 < (j : Int)) by omega), if_pos h0, if_pos (by push_cast; omega), Int.zero_emod, Int.zero_add, cf_mod, cf_mod]
      congr 1; push_cast; omega
    · rw [if_neg h0, Int.add_zero]
      by_cases h1 : 0 ≤ k - 1 ∧ k - 1 < (j : Int)
      · rw [if_pos h1, if_pos (by push_cast; omega), cf_mod, cf_mod]
        congr 1; push_cast; omega
      · rw [if_neg h1, if_neg (by push_cast; omega)]; simp
theorem bd_hor (hp : 0 < p) (g : LP p) (m j : Nat) : Bd (hor g m j) 0 ((j : Int) - 1) := fun k hk => by
  rw [cf_hor hp] at hk
  split at hk
  · omega
  · exact absurd rfl hk
theorem hor_all (hp : 0 < p) {g : LP p} {m : Nat} (h : Dvr g m) : hor g m (m + 1) = g := cf_ext fun k => by
  rw [cf_hor hp]
  by_cases hk : 0 ≤ k ∧ k < ((m + 1 : Nat) : Int)
  · rw [if_pos hk]; congr 1; push_cast; omega
  · rw [if_neg hk]
    by_cases z : cf g k = 0
    · exact z.symm
    · have := h.bd k z
      push_cast at hk; omega
def hs (g : LP p) (m : Nat) (s : Int → Int) : LP p := lp p ((List.range m).map fun (i : Nat) => ((i : Int), ac (hor g m (m - i)) s 0))
theorem csum_rng (f : Nat → Int) (k : Int) : ∀ m : Nat, csum ((List.range m).map fun (i : Nat) => ((i : Int), f i)) k = if 0 ≤ k ∧ k < m then f k.toNat else 0
  | 0 => by rw [if_neg (by omega)]; rfl
  | m + 1 => by
    rw [List.range_succ, List.map_append, csum_append, csum_rng f k m, List.map_cons, List.map_nil, csum_cons, csum_nil]
    by_cases h : (m : Int) = k
    · subst h
      rw [if_neg (by omega), if_pos rfl, if_pos (by push_cast; omega), Int.toNat_natCast]; omega
    · rw [if_neg (show ¬ ((m : Int), f m).1 = k from h)]
      by_cases h2 : 0 ≤ k ∧ k < (m : Int)
      · rw [if_pos h2, if_pos (by push_cast; omega)]; omega
      · rw [if_neg h2, if_neg (by push_cast; omega)]; rfl
theorem cf_hs (g : LP p) (m : Nat) (s : Int → Int) (k : Int) : cf (hs g m s) k = if 0 ≤ k ∧ k < m then ac (hor g m (m - k.toNat)) s 0 else 0 := by
  unfold hs
  rw [cf_lp, csum_rng (fun i => ac (hor g m (m - i)) s 0)]
  split
  · rw [ac_mod]
  · exact Int.zero_emod p
theorem bd_hs (g : LP p) (m : Nat) (s : Int → Int) : Bd (hs g m s) 0 ((m : Int) - 1) := fun k hk => by
  rw [cf_hs] at hk
  split at hk
  · omega
  · exact absurd rfl hk
def sg (t : Int) (s : Int → Int) : Int → Int := fun k => s (k + t)
theorem ac_sg (x : LP p) (t : Int) (s : Int → Int) (k : Int) : ac x (sg t s) k = ac x s (k + t) := by
  obtain ⟨a, rfl⟩ := lp_surj x
  rw [ac_lp, ac_lp]
  congr 2
  funext u
  show s (k + u + t) = _
  congr 1; omega
theorem Ru.sg {x : LP p} {s : Int → Int} (h : Ru x s) (t : Int) : Ru x (sg t s) := fun k => by rw [ac_sg]; exact h _
theorem Dg.sg {s : Int → Int} (h : Dg p s) (t : Int) : Dg p (sg t s) := fun k => h _
theorem Ru.ac {x : LP p} {s : Int → Int} (h : Ru x s) (f : LP p) : Ru x (ac f s) := fun k => by
  rw [← ac_mul, show x * f = f * x by grind]
  exact h.mul f k
theorem ac_hor_succ (g : LP p) (m j : Nat) (s : Int → Int) (k : Int) : ac (hor g m (j + 1)) s k = (ac (hor g m j) s (k + 1) + cf g ((m : Int) - j) * s k) % p := by
  rw [hor, ac_add, ac_mul, ac_mono, Int.one_mul, ac_mono, Int.add_zero, ac_mod, Int.add_emod, Int.emod_emod_of_dvd _ (Int.dvd_refl p), ← Int.add_emod]
theorem hs_up (hp : isPr p = true) {g : LP p} {m : Nat} (hg : Dvr g m) {s : Int → Int} (r : Ru g s) : mono p 1 1 * hs g m s - mono p 0 (s 0) * g = hs g m (sg 1 s) := cf_ext fun k => by
  have hp0 := (isPr_pos hp).1
  rw [cf_sub, cf_mono_mul, cf_mono_mul, Int.one_mul, cf_mod, Int.sub_zero, cf_hs, cf_hs, ac_sg, Int.zero_add]
  by_cases h1 : 0 ≤ k - 1 ∧ k - 1 < (m : Int)
  · rw [if_pos h1]
    obtain ⟨j, hj⟩ : ∃ j : Nat, (j : Int) = m - k := ⟨(m - k).toNat, by omega⟩
    have e1 : m - (k - 1).toNat = j + 1 := by omega
    rw [e1, ac_hor_succ, show (m : Int) - j = k by omega, Int.zero_add, ← Int.sub_emod, show ac (hor g m j) s 1 + cf g k * s 0 - s 0 * cf g k = ac (hor g m j) s 1 by rw [Int.mul_comm]; omega, ac_mod]
    by_cases h2 : 0 ≤ k ∧ k < (m : Int)
    · rw [if_pos h2, show m - k.toNat = j by omega]
    · rw [if_neg h2, show j = 0 by omega, hor, ac_zero]
  · rw [if_neg h1]
    by_cases h0 : k = 0
    · subst h0
      have hz := r 0
      rw [← hor_all hp0 hg, ac_hor_succ, Int.sub_self, Int.zero_add] at hz
      have e : (0 - s 0 * cf g 0 % p) % p = ac (hor g m m) s 1 := by
        have h2 : (ac (hor g m m) s 1) % p = (ac (hor g m m) s 1 + cf g 0 * s 0 - s 0 * cf g 0) % p := by
          congr 1; rw [Int.mul_comm]; omega
        rw [Int.sub_emod, hz, ac_mod] at h2
        rw [h2]
      by_cases hm : 0 < m
      · rw [if_pos (by omega), Int.toNat_zero, Nat.sub_zero]; exact e
      · rw [if_neg (by omega), e, show m = 0 by omega, hor, ac_zero]
    · rw [if_neg (by omega)]
      have : cf g k = 0 := by
        by_cases z : cf g k = 0
        · exact z
        · have := hg.bd k z; omega
      rw [this]; simp
theorem hs_sg (hp : isPr p = true) {g : LP p} {m : Nat} (hg : Dvr g m) : ∀ (n : Nat) {s : Int → Int}, Ru g s → Dv g (mono p (n : Int) 1 * hs g m s - hs g m (sg n s)) ∧ Dv g (mono p (-(n : Int)) 1 * hs g m s - hs g m (sg (-n) s))
  | 0, s, r => by
    have e : sg 0 s = s := by funext k; show s (k + 0) = s k; rw [Int.add_zero]
    have h : Dv g (mono p 0 1 * hs g m s - hs g m (sg 0 s)) := by
      rw [e, mono_one, show 1 * hs g m s - hs g m s = 0 by grind]; exact .zero _
    exact ⟨h, h⟩
  | n + 1, s, r => by
    obtain ⟨h1, _⟩ := hs_sg hp hg n (r.sg 1)
    obtain ⟨_, h2⟩ := hs_sg hp hg n (r.sg (-1))
    refine ⟨?_, ?_⟩
    · have u := hs_up hp hg r
      have e1 : sg (n : Int) (sg 1 s) = sg ((n + 1 : Nat) : Int) s := by
        funext k; show s (k + n + 1) = s (k + ((n + 1 : Nat) : Int)); congr 1; push_cast; omega
      have e2 : mono p ((n + 1 : Nat) : Int) 1 = mono p (n : Int) 1 * mono p 1 1 := by rw [mono_mul, Int.mul_one]; rfl
      rw [e1, ← u] at h1
      have e3 : mono p ((n + 1 : Nat) : Int) 1 * hs g m s - hs g m (sg ((n + 1 : Nat) : Int) s) = (mono p (n : Int) 1 * (mono p 1 1 * hs g m s - mono p 0 (s 0) * g) - hs g m (sg ((n + 1 : Nat) : Int) s)) + (mono p (n : Int) 1 * mono p 0 (s 0)) * g := by
        rw [e2]; grind
      rw [e3]
      exact h1.add ((Dv.refl g).mul _)
    · have u := hs_up hp hg (r.sg (-1))
      have e0 : sg 1 (sg (-1) s) = s := by funext k; show s (k + 1 + -1) = s k; congr 1; omega
      rw [e0] at u
      have e1 : sg (-(n : Int)) (sg (-1) s) = sg (-((n + 1 : Nat) : Int)) s := by
        funext k; show s (k + -(n : Int) + -1) = s (k + -((n + 1 : Nat) : Int)); congr 1; push_cast; omega
      have e2 : mono p (-((n + 1 : Nat) : Int)) 1 * mono p 1 1 = mono p (-(n : Int)) 1 := by
        rw [mono_mul, Int.mul_one]; congr 1; push_cast; omega
      rw [e1] at h2
      have e3 : mono p (-((n + 1 : Nat) : Int)) 1 * hs g m s - hs g m (sg (-((n + 1 : Nat) : Int)) s) = (mono p (-(n : Int)) 1 * hs g m (sg (-1) s) - hs g m (sg (-((n + 1 : Nat) : Int)) s)) - (mono p (-((n + 1 : Nat) : Int)) 1 * mono p 0 (sg (-1) s 0)) * g := by
        calc mono p (-((n + 1 : Nat) : Int)) 1 * hs g m s - hs g m (sg (-((n + 1 : Nat) : Int)) s) = mono p (-((n + 1 : Nat) : Int)) 1 * (mono p 1 1 * hs g m (sg (-1) s) - mono p 0 (sg (-1) s 0) * g) - hs g m (sg (-((n + 1 : Nat) : Int)) s) := by rw [u]
          _ = (mono p (-((n + 1 : Nat) : Int)) 1 * mono p 1 1) * hs g m (sg (-1) s) - (mono p (-((n + 1 : Nat) : Int)) 1 * mono p 0 (sg (-1) s 0)) * g - hs g m (sg (-((n + 1 : Nat) : Int)) s) := by grind
          _ = _ := by rw [e2]; grind
      rw [e3]
      exact h2.sub ((Dv.refl g).mul _)
theorem hs_sgZ (hp : isPr p = true) {g : LP p} {m : Nat} (hg : Dvr g m) {s : Int → Int} (r : Ru g s) (t : Int) : Dv g (mono p t 1 * hs g m s - hs g m (sg t s)) := by
  by_cases h : 0 ≤ t
  · have := (hs_sg hp hg t.toNat r).1
    rwa [Int.toNat_of_nonneg h] at this
  · have := (hs_sg hp hg (-t).toNat r).2
    rwa [Int.toNat_of_nonneg (by omega), Int.neg_neg] at this
theorem ac_lin (x : LP p) (c : Int) (s u : Int → Int) (k : Int) : ac x (fun j => (c * s j + u j) % p) k = (c * ac x s k + ac x u k) % p := by
  obtain ⟨a, rfl⟩ := lp_surj x
  rw [ac_lp, ac_lp, ac_lp, wsum_mod a (fun t => c * s (k + t) + u (k + t)), wsum_add, wsum_mul, Int.add_emod, Int.mul_emod, Int.add_emod (c * (wsum a (fun t => s (k + t)) % p)), Int.mul_emod c (wsum a (fun t => s (k + t)) % p), Int.emod_emod_of_dvd _ (Int.dvd_refl p), Int.emod_emod_of_dvd _ (Int.dvd_refl p)]
theorem hs_lin (hp : 0 < p) (g : LP p) (m : Nat) (c : Int) (s u : Int → Int) : hs g m (fun j => (c * s j + u j) % p) = mono p 0 c * hs g m s + hs g m u := cf_ext fun k => by
  rw [cf_add, cf_mono_mul, Int.sub_zero, cf_hs, cf_hs, cf_hs]
  split
  · rw [ac_lin, Int.add_emod, ac_mod]
  · simp
theorem hs_zero (g : LP p) (m : Nat) : hs g m (fun _ => 0) = 0 := cf_ext fun k => by
  rw [cf_hs, cf_zero]
  split
  · obtain ⟨a, e⟩ := lp_surj (hor g m (m - k.toNat))
    rw [← e, ac_lp]
    unfold wsum
    rw [show (a.map fun t => t.2 * (0 : Int)) = a.map (fun _ => (0 : Int)) from List.map_congr_left fun t _ => Int.mul_zero _]
    have : ∀ a : Tm, (a.map fun _ => (0 : Int)).sum = 0 := fun a => by
      induction a with
      | nil => rfl
      | cons t a ih => rw [List.map_cons, List.sum_cons, ih]; rfl
    rw [this, Int.zero_emod]
  · rfl
theorem hs_ac (hp : isPr p = true) {g : LP p} {m : Nat} (hg : Dvr g m) {s : Int → Int} (hd : Dg p s) (r : Ru g s) (f : LP p) : Dv g (f * hs g m s - hs g m (ac f s)) := by
  have hp0 := (isPr_pos hp).1
  obtain ⟨a, rfl⟩ := lp_surj f
  induction a with
  | nil =>
    have e : ac (lp p []) s = fun _ => 0 := by funext k; rw [← lp_zero, ac_zero]
    rw [e, hs_zero, ← lp_zero, show (0 : LP p) * hs g m s - 0 = 0 by grind]; exact .zero _
  | cons t a ih =>
    have e : ac (lp p (t :: a)) s = fun k => (t.2 * sg t.1 s k + ac (lp p a) s k) % p := by
      funext k
      rw [lp_cons, ac_add, ac_mono, Int.add_emod, Int.emod_emod_of_dvd _ (Int.dvd_refl p), ← Int.add_emod]
      rfl
    rw [e, hs_lin hp0]
    have e2 : mono p t.1 t.2 = mono p 0 t.2 * mono p t.1 1 := by rw [mono_mul, Int.mul_one, Int.zero_add]
    rw [lp_cons, e2, show (mono p 0 t.2 * mono p t.1 1 + lp p a) * hs g m s - (mono p 0 t.2 * hs g m (sg t.1 s) + hs g m (ac (lp p a) s)) = mono p 0 t.2 * (mono p t.1 1 * hs g m s - hs g m (sg t.1 s)) + (lp p a * hs g m s - hs g m (ac (lp p a) s)) by grind]
    exact ((hs_sgZ hp hg r t.1).mul _).add ih
theorem hs_inj (hp : isPr p = true) {g : LP p} {m : Nat} (hg : Dvr g m) {s : Int → Int} (hd : Dg p s) (r : Ru g s) (h : hs g m s = 0) : s = fun _ => 0 := by
  have hp0 := (isPr_pos hp).1
  refine ru_eq hp hg hd (fun k => ⟨Int.le_refl 0, hp0⟩) r (fun k => ?_) fun i hi => ?_
  · have := hs_zero (p := p) g m
    obtain ⟨a, e⟩ := lp_surj g
    rw [← e, ac_lp]
    unfold wsum
    rw [show (a.map fun t => t.2 * (0 : Int)) = a.map (fun _ => (0 : Int)) from List.map_congr_left fun t _ => Int.mul_zero _]
    have : ∀ a : Tm, (a.map fun _ => (0 : Int)).sum = 0 := fun a => by
      induction a with
      | nil => rfl
      | cons t a ih => rw [List.map_cons, List.sum_cons, ih]; rfl
    rw [this, Int.zero_emod]
  · have key : ∀ i : Nat, i < m → ∀ j : Nat, j ≤ i → s j = 0 := fun i => by
      induction i with
      | zero =>
        intro hm j hj
        have hc : cf (hs g m s) ((m : Int) - 1) = 0 := by rw [h, cf_zero]
        rw [cf_hs, if_pos (by omega), show m - ((m : Int) - 1).toNat = 0 + 1 by omega, ac_hor_succ, hor, ac_zero, show (m : Int) - ((0 : Nat) : Int) = m by omega, hg.2.2, Int.one_mul, Int.zero_add, hd.mod] at hc
        rw [show j = 0 by omega]; exact hc
      | succ i ih =>
        intro hm j hj
        by_cases hj2 : j ≤ i
        · exact ih (by omega) j hj2
        obtain rfl : j = i + 1 := by omega
        have hc : cf (hs g m s) ((m : Int) - (i + 2)) = 0 := by rw [h, cf_zero]
        rw [cf_hs, if_pos (by omega), show m - ((m : Int) - (i + 2)).toNat = i + 2 by omega, ac_bd (bd_hor hp0 g m (i + 2))] at hc
        unfold lf at hc
        rw [List.range_succ, List.map_append, List.sum_append, List.map_cons, List.map_nil, List.sum_cons, List.sum_nil, Int.add_zero] at hc
        have z : ((List.range (i + 1)).map fun (l : Nat) => cf (hor g m (i + 2)) (l : Int) * s (0 + (l : Int))).sum = 0 := by
          rw [show ((List.range (i + 1)).map fun (l : Nat) => cf (hor g m (i + 2)) (l : Int) * s (0 + (l : Int))) = (List.range (i + 1)).map (fun _ => (0 : Int)) from List.map_congr_left fun l hl => by
            rw [List.mem_range] at hl
            rw [Int.zero_add, ih (by omega) l (by omega), Int.mul_zero]]
          have : ∀ a : List Nat, (a.map fun _ => (0 : Int)).sum = 0 := fun a => by
            induction a with
            | nil => rfl
            | cons t a ih => rw [List.map_cons, List.sum_cons, ih]; rfl
          exact this _
        rw [z, Int.zero_add] at hc
        have hc : cf (hor g m (i + 2)) ((i + 1 : Nat) : Int) * s (0 + ((i + 1 : Nat) : Int)) % p = 0 := hc
        rw [cf_hor hp0, if_pos (by push_cast; omega), show (m : Int) - ((i + 2 : Nat) : Int) + 1 + ((i + 1 : Nat) : Int) = m by push_cast; omega, hg.2.2, Int.one_mul, Int.zero_add, hd.mod] at hc
        exact hc
    exact key i hi i (Nat.le_refl i)
theorem ru_iff (hp : isPr p = true) {g : LP p} {m : Nat} (hg : Dvr g m) {s : Int → Int} (hd : Dg p s) (r : Ru g s) (f : LP p) : Ru f s ↔ Dv g (f * hs g m s) := by
  have hp0 := (isPr_pos hp).1
  have h := hs_ac hp hg hd r f
  constructor
  · intro hf
    have e : ac f s = fun _ => 0 := by funext k; exact hf k
    rwa [e, hs_zero, show f * hs g m s - 0 = f * hs g m s by grind] at h
  · intro hf
    have h1 : Dv g (hs g m (ac f s)) := by
      have := hf.sub h
      rwa [show f * hs g m s - (f * hs g m s - hs g m (ac f s)) = hs g m (ac f s) by grind] at this
    obtain ⟨q, e⟩ := h1
    have z := rem_zero hp hg.1 hg.2.1 (r := hs g m (ac f s)) (q := q) (by rw [Int.sub_zero]; exact bd_hs g m _) e
    have := hs_inj hp hg (Dg.ac hp0 f s) (r.ac f) z
    intro k
    rw [this]
structure IsLr (g : LP p) (s : Int → Int) : Prop where
  ne : g ≠ 0
  nm : Nrm g
  ru : Ru g s
  le : ∀ f, Ru f s → Dv g f
theorem IsLr.uniq (hp : isPr p = true) {g g' : LP p} {s : Int → Int} (h : IsLr g s) (h' : IsLr g' s) : g = g' := nrm_uniq hp h.nm h'.nm (h.le _ h'.ru) (h'.le _ h.ru)
end My

namespace My
section
variable {p : Int}
abbrev Vc (p : Int) := Nat → LP p
inductive Cb (R : List (Vc p)) : Vc p → Prop
  | zero : Cb R (fun _ => 0)
  | step {v r : Vc p} (c : LP p) : Cb R v → r ∈ R → Cb R (fun i => v i + c * r i)
theorem Cb.congr {R : List (Vc p)} {u v : Vc p} (h : Cb R u) (e : ∀ i, v i = u i) : Cb R v := by
  rw [show v = u from funext e]; exact h
theorem Cb.mul {R : List (Vc p)} {v : Vc p} (h : Cb R v) (c : LP p) : Cb R (fun i => c * v i) := by
  induction h with
  | zero => exact Cb.zero.congr fun i => by grind
  | step d h m ih => exact (Cb.step (c * d) ih m).congr fun i => by grind
theorem Cb.add {R : List (Vc p)} {u v : Vc p} (h : Cb R u) (h' : Cb R v) : Cb R (fun i => u i + v i) := by
  induction h' with
  | zero => exact h.congr fun i => by grind
  | step d h m ih => exact (Cb.step d ih m).congr fun i => by grind
theorem Cb.axpy {R : List (Vc p)} {u v : Vc p} (h : Cb R u) (c : LP p) (h' : Cb R v) : Cb R (fun i => u i + c * v i) := h.add (h'.mul c)
theorem Cb.axmy {R : List (Vc p)} {u v : Vc p} (h : Cb R u) (c : LP p) (h' : Cb R v) : Cb R (fun i => u i - c * v i) := (h.add (h'.mul (-c))).congr fun i => by grind
theorem Cb.sub {R : List (Vc p)} {u v : Vc p} (h : Cb R u) (h' : Cb R v) : Cb R (fun i => u i - v i) := (h.axmy 1 h').congr fun i => by grind
theorem Cb.mem {R : List (Vc p)} {r : Vc p} (h : r ∈ R) : Cb R r := (Cb.step (1 : LP p) Cb.zero h).congr fun i => by grind
theorem Cb.le {R R' : List (Vc p)} {v : Vc p} (h : Cb R v) (s : ∀ r ∈ R, Cb R' r) : Cb R' v := by
  induction h with
  | zero => exact .zero
  | step d h m ih => exact ih.axpy d (s _ m)
def Same (R R' : List (Vc p)) : Prop := ∀ v, Cb R v ↔ Cb R' v
theorem Same.refl (R : List (Vc p)) : Same R R := fun _ => Iff.rfl
theorem Same.symm {R R' : List (Vc p)} (h : Same R R') : Same R' R := fun v => (h v).symm
theorem Same.trans {R R' S : List (Vc p)} (h : Same R R') (h' : Same R' S) : Same R S := fun v => (h v).trans (h' v)
theorem Same.of {R R' : List (Vc p)} (h : ∀ r ∈ R, Cb R' r) (h' : ∀ r ∈ R', Cb R r) : Same R R' := fun v => ⟨fun c => c.le h, fun c => c.le h'⟩
theorem Same.perm {R R' : List (Vc p)} (h : ∀ r, r ∈ R ↔ r ∈ R') : Same R R' := .of (fun r m => .mem ((h r).mp m)) fun r m => .mem ((h r).mpr m)
theorem Cb.cons {r : Vc p} {R : List (Vc p)} {v : Vc p} (h : Cb (r :: R) v) : ∃ (a : LP p) (u : Vc p), Cb R u ∧ ∀ i, v i = a * r i + u i := by
  induction h with
  | zero => exact ⟨0, _, .zero, fun i => by grind⟩
  | step d h m ih =>
    obtain ⟨a, u, hu, e⟩ := ih
    rcases List.mem_cons.mp m with m | m
    · subst m; exact ⟨a + d, u, hu, fun i => by have := e i; grind⟩
    · exact ⟨a, _, .step d hu m, fun i => by have := e i; grind⟩
theorem Cb.nil {v : Vc p} (h : Cb [] v) : ∀ i, v i = 0 := by
  cases h with
  | zero => exact fun _ => rfl
  | step d h m => exact nomatch m
theorem Cb.zero_at {R : List (Vc p)} {v : Vc p} {i : Nat} (h : Cb R v) (z : ∀ r ∈ R, r i = 0) : v i = 0 := by
  induction h with
  | zero => rfl
  | step d h m ih => show _ + _ * _ = _; rw [ih, z _ m]; grind
def Rd (f g : LP p) : Prop := Bd f 0 (sp g - 1)
theorem Rd.zero (g : LP p) : Rd 0 g := Bd.zero _ _
theorem Rd.sub {f f' g : LP p} (h : Rd f g) (h' : Rd f' g) : Rd (f - f') g := Bd.sub h h'
theorem Rd.dv (hp : isPr p = true) {f g : LP p} (hg : g ≠ 0) (h : Rd f g) (d : Dv g f) : f = 0 := mod_of_dv hp hg ⟨⟨0, by grind⟩, h⟩ d
def Ech : Nat → List (Nat × Vc p) → Prop
  | _, [] => True
  | c0, x :: l => c0 ≤ x.1 ∧ (∀ i, i < x.1 → x.2 i = 0) ∧ x.2 x.1 ≠ 0 ∧ Nrm (x.2 x.1) ∧ (∀ y ∈ l, Rd (x.2 y.1) (y.2 y.1)) ∧ Ech (x.1 + 1) l
def rws (L : List (Nat × Vc p)) : List (Vc p) := L.map (·.2)
theorem Ech.mem {c0 : Nat} {L : List (Nat × Vc p)} (h : Ech c0 L) {x : Nat × Vc p} (m : x ∈ L) : c0 ≤ x.1 ∧ (∀ i, i < x.1 → x.2 i = 0) ∧ x.2 x.1 ≠ 0 ∧ Nrm (x.2 x.1) := by
  induction L generalizing c0 with
  | nil => exact nomatch m
  | cons y l ih =>
    obtain ⟨h1, h2, h3, h4, h5, h6⟩ := h
    rcases List.mem_cons.mp m with m | m
    · subst m; exact ⟨h1, h2, h3, h4⟩
    · obtain ⟨a, b⟩ := ih h6 m
      exact ⟨by omega, b⟩
theorem Ech.before {c0 : Nat} {L : List (Nat × Vc p)} (h : Ech c0 L) {v : Vc p} (hv : Cb (rws L) v) {i : Nat} (hi : i < c0) : v i = 0 := hv.zero_at fun r m => by
  obtain ⟨x, hx, rfl⟩ := List.mem_map.mp m
  obtain ⟨a, b, _⟩ := h.mem hx
  exact b i (by omega)
theorem Ech.mono {c0 c1 : Nat} {L : List (Nat × Vc p)} (h : Ech c0 L) (l : c1 ≤ c0) : Ech c1 L := by
  cases L with
  | nil => trivial
  | cons x l' => exact ⟨by have := h.1; omega, h.2⟩
theorem Ech.zero (hp : isPr p = true) {c0 : Nat} {L : List (Nat × Vc p)} (h : Ech c0 L) {v : Vc p} (hv : Cb (rws L) v) (hr : ∀ x ∈ L, Rd (v x.1) (x.2 x.1)) : ∀ i, v i = 0 := by
  induction L generalizing c0 v with
  | nil => exact hv.nil
  | cons x l ih =>
    obtain ⟨h1, h2, h3, h4, h5, h6⟩ := h
    obtain ⟨a, u, hu, e⟩ := hv.cons
    have uz : u x.1 = 0 := h6.before hu (by omega)
    have ez : v x.1 = a * x.2 x.1 := by rw [e, uz]; grind
    have vz : v x.1 = 0 := (hr x (List.mem_cons_self)).dv hp h3 ⟨a, ez⟩
    have az : a = 0 := by
      refine Classical.byContradiction fun na => ?_
      exact mul_ne hp na h3 (ez.symm.trans vz)
    have ev : v = u := funext fun i => by rw [e, az]; grind
    rw [ev]
    exact ih h6 hu fun y hy => by rw [← ev]; exact hr y (List.mem_cons_of_mem _ hy)
theorem Ech.lead (hp : isPr p = true) {c0 : Nat} {L : List (Nat × Vc p)} (h : Ech c0 L) {v : Vc p} (hv : Cb (rws L) v) {c : Nat} (hz : ∀ i, i < c → v i = 0) (hc : v c ≠ 0) : ∃ x ∈ L, x.1 = c ∧ Dv (x.2 c) (v c) := by
  induction L generalizing c0 v with
  | nil => exact absurd (hv.nil c) hc
  | cons x l ih =>
    obtain ⟨h1, h2, h3, h4, h5, h6⟩ := h
    obtain ⟨a, u, hu, e⟩ := hv.cons
    have uz : u x.1 = 0 := h6.before hu (by omega)
    have ez : v x.1 = a * x.2 x.1 := by rw [e, uz]; grind
    by_cases na : a = 0
    · have ev : v = u := funext fun i => by rw [e, na]; grind
      obtain ⟨y, hy, e1, e2⟩ := ih h6 hu (by rw [← ev]; exact hz) (by rw [← ev]; exact hc)
      exact ⟨y, List.mem_cons_of_mem _ hy, e1, by rw [ev]; exact e2⟩
    · have vn : v x.1 ≠ 0 := by rw [ez]; exact mul_ne hp na h3
      have : x.1 = c := by
        rcases Nat.lt_trichotomy x.1 c with l | l | l
        · exact absurd (hz _ l) vn
        · exact l
        · exfalso
          have e2 := h2 c l
          have e3 := h6.before hu (show c < x.1 + 1 by omega)
          have e4 : v c = a * x.2 c + u c := e c
          exact hc (by rw [e4, e2, e3]; grind)
      subst this
      exact ⟨x, List.mem_cons_self, rfl, a, ez⟩
theorem Ech.sorted {c0 : Nat} {L : List (Nat × Vc p)} (h : Ech c0 L) : L.Pairwise (fun x y => x.1 < y.1) := by
  induction L generalizing c0 with
  | nil => exact .nil
  | cons x l ih =>
    obtain ⟨h1, h2, h3, h4, h5, h6⟩ := h
    exact .cons (fun y hy => by have := (h6.mem hy).1; omega) (ih h6)
theorem Ech.red {c0 : Nat} {L : List (Nat × Vc p)} (h : Ech c0 L) {x y : Nat × Vc p} (hx : x ∈ L) (hy : y ∈ L) (ne : x.1 ≠ y.1) : Rd (x.2 y.1) (y.2 y.1) := by
  induction L generalizing c0 with
  | nil => exact nomatch hx
  | cons z l ih =>
    obtain ⟨h1, h2, h3, h4, h5, h6⟩ := h
    rcases List.mem_cons.mp hx with ax | ax
    · subst ax
      rcases List.mem_cons.mp hy with ay | ay
      · subst ay; exact absurd rfl ne
      · exact h5 y ay
    · rcases List.mem_cons.mp hy with ay | ay
      · subst ay
        have := h6.mem ax
        rw [this.2.1 _ (by omega)]; exact Rd.zero _
      · exact ih h6 ax ay
theorem Ech.uniq1 (hp : isPr p = true) {c0 c1 : Nat} {L L' : List (Nat × Vc p)} (h : Ech c0 L) (h' : Ech c1 L') (s : Same (rws L) (rws L')) : ∀ x ∈ L, x ∈ L' := by
  have head : ∀ {c0 c1 : Nat} {L L' : List (Nat × Vc p)}, Ech c0 L → Ech c1 L' → Same (rws L) (rws L') → ∀ x ∈ L, ∃ y ∈ L', y.1 = x.1 ∧ Dv (y.2 x.1) (x.2 x.1) := fun h h' s x hx => by
    obtain ⟨a, b, c, d⟩ := h.mem hx
    exact h'.lead hp ((s _).mp (.mem (List.mem_map.mpr ⟨x, hx, rfl⟩))) b c
  have headE : ∀ x ∈ L, ∃ y ∈ L', y.1 = x.1 ∧ y.2 x.1 = x.2 x.1 := fun x hx => by
    obtain ⟨y, hy, e, d⟩ := head h h' s x hx
    obtain ⟨z, hz, e', d'⟩ := head h' h s.symm y hy
    have hs := h.sorted
    have : z = x := by
      refine Classical.byContradiction fun ne => ?_
      rcases List.pairwise_iff_getElem.mp hs with hs'
      obtain ⟨i, hi, rfl⟩ := List.mem_iff_getElem.mp hz
      obtain ⟨j, hj, rfl⟩ := List.mem_iff_getElem.mp hx
      rcases Nat.lt_trichotomy i j with l | l | l
      · have := hs' i j hi hj l; omega
      · subst l; exact ne rfl
      · have := hs' j i hj hi l; omega
    subst this
    rw [e] at d'
    have n1 := (h.mem hx).2.2.2
    have n2 := (h'.mem hy).2.2.2
    rw [e] at n2
    exact ⟨y, hy, e, nrm_uniq hp n2 n1 d d'⟩
  intro x hx
  obtain ⟨y, hy, e, eq⟩ := headE x hx
  have cx : Cb (rws L) x.2 := .mem (List.mem_map.mpr ⟨x, hx, rfl⟩)
  have cy : Cb (rws L) y.2 := (s _).mpr (.mem (List.mem_map.mpr ⟨y, hy, rfl⟩))
  have z := h.zero hp (cx.sub cy) fun z hz => by
    by_cases ne : x.1 = z.1
    · rw [← ne]
      show Rd (x.2 x.1 - y.2 x.1) _
      rw [eq, show x.2 x.1 - x.2 x.1 = 0 by grind]; exact .zero _
    · obtain ⟨t, ht, e1, e2⟩ := headE z hz
      have r1 := h.red hx hz ne
      have r2 := h'.red hy ht (by omega)
      rw [e1, e2] at r2
      exact r1.sub r2
  have : y.2 = x.2 := funext fun i => by have := z i; grind
  have : y = x := Prod.ext e this
  rw [← this]; exact hy
theorem sorted_ext : ∀ {L L' : List (Nat × Vc p)}, L.Pairwise (fun x y => x.1 < y.1) → L'.Pairwise (fun x y => x.1 < y.1) → (∀ x, x ∈ L ↔ x ∈ L') → L = L'
  | [], [], _, _, _ => rfl
  | [], y :: l, _, _, h => absurd ((h y).mpr List.mem_cons_self) List.not_mem_nil
  | x :: l, [], _, _, h => absurd ((h x).mp List.mem_cons_self) List.not_mem_nil
  | x :: l, y :: l', s, s', h => by
    rw [List.pairwise_cons] at s s'
    have e : x = y := by
      rcases List.mem_cons.mp ((h x).mp List.mem_cons_self) with m | m
      · exact m
      · rcases List.mem_cons.mp ((h y).mpr List.mem_cons_self) with m' | m'
        · exact m'.symm
        · have := s.1 y m'
          have := s'.1 x m
          omega
    subst e
    congr 1
    refine sorted_ext s.2 s'.2 fun z => ⟨fun m => ?_, fun m => ?_⟩
    · rcases List.mem_cons.mp ((h z).mp (List.mem_cons_of_mem _ m)) with e | m'
      · subst e; have := s.1 z m; omega
      · exact m'
    · rcases List.mem_cons.mp ((h z).mpr (List.mem_cons_of_mem _ m)) with e | m'
      · subst e; have := s'.1 z m; omega
      · exact m'
theorem Ech.uniq (hp : isPr p = true) {c0 c1 : Nat} {L L' : List (Nat × Vc p)} (h : Ech c0 L) (h' : Ech c1 L') (s : Same (rws L) (rws L')) : L = L' :=
  sorted_ext h.sorted h'.sorted fun x => ⟨h.uniq1 hp h' s x, h'.uniq1 hp h s.symm x⟩
def IsRest (L : List (Nat × Vc p)) (v r : Vc p) : Prop := Cb (rws L) (fun i => v i - r i) ∧ ∀ x ∈ L, Rd (r x.1) (x.2 x.1)
theorem IsRest.uniq (hp : isPr p = true) {c0 : Nat} {L : List (Nat × Vc p)} (h : Ech c0 L) {v v' r r' : Vc p} (a : IsRest L v r) (b : IsRest L v' r') (s : Cb (rws L) (fun i => v i - v' i)) : r = r' := by
  have c := ((s.sub a.1).add b.1).congr (v := fun i => r i - r' i) fun i => by grind
  have z := h.zero hp c fun x hx => (a.2 x hx).sub (b.2 x hx)
  exact funext fun i => by have := z i; grind
end
end My

namespace My
section
variable {p : Int}
theorem bez (hp : isPr p = true) : ∀ (n : Nat) (f g : LP p), (g ≠ 0 → (sp g).toNat < n) → ∃ d u v, d = u * f + v * g ∧ Dv d f ∧ Dv d g
  | 0, f, g, h => by
    have g0 : g = 0 := Classical.byContradiction fun z => absurd (h z) (Nat.not_lt_zero _)
    exact ⟨f, 1, 0, by grind, .refl f, by rw [g0]; exact .zero _⟩
  | n + 1, f, g, h => by
    by_cases g0 : g = 0
    · exact ⟨f, 1, 0, by grind, .refl f, by rw [g0]; exact .zero _⟩
    · have hp0 := (isPr_pos hp).1
      obtain ⟨r, ⟨q, e⟩, b⟩ := exists_mod hp g0 f
      obtain ⟨d, u, v, e1, d1, d2⟩ := bez hp n g r fun r0 => by
        have h1 := h g0
        have h2 := b.lo hp0 r0
        have h3 := b.hi hp0 r0
        have h4 := sp_nonneg hp0 r0
        have h5 : sp r = hi r - lo r := rfl
        omega
      refine ⟨d, v, u - v * q, ?_, ?_, d1⟩
      · rw [e1]
        have : r = f - q * g := by rw [e]; grind
        rw [this]; grind
      · rw [e]; exact (d1.mul q).add d2
theorem cyc (hp : isPr p = true) {g : LP p} {m : Nat} (hg : Dvr g m) {x t : Int → Int} (hx : Dg p x) (lx : IsLr g x) (ht : Dg p t) (rt : Ru g t) : ∃ f : LP p, Bd f 0 ((m : Int) - 1) ∧ t = ac f x := by
  have hp0 := (isPr_pos hp).1
  have g0 := hg.1.ne
  obtain ⟨d, u, v, e, ⟨g', eg⟩, ⟨h', eh⟩⟩ := bez hp ((sp (hs g m x)).toNat + 1) g (hs g m x) fun _ => Nat.lt_succ_self _
  have g'0 : g' ≠ 0 := fun z => g0 (by rw [eg, z]; grind)
  have hgh : g' * hs g m x = h' * g := by
    have : h' * g = h' * (g' * d) := by rw [← eg]
    rw [eh, this]; grind
  obtain ⟨c, ec⟩ : Dv g g' := lx.le g' ((ru_iff hp hg hx lx.ru g').mpr ⟨h', hgh⟩)
  have one : c * d = 1 := by
    have z : g' * (c * d - 1) = 0 := by
      have : g' = c * (g' * d) := by rw [← eg]; exact ec
      grind
    refine Classical.byContradiction fun ne => ?_
    exact mul_ne hp g'0 (fun z2 => ne (by grind)) z
  have key : Dv g (hs g m t * c * v * hs g m x - hs g m t) := ⟨-(hs g m t * c * u), by
    have : v * hs g m x = d - u * g := by rw [e]; grind
    grind⟩
  obtain ⟨f, df, bf⟩ := rem_ex hp hg (hs g m t * c * v)
  refine ⟨f, bf, ?_⟩
  have e2 : ac f x = ac (hs g m t * c * v) x := funext fun k => (ac_congr lx.ru df k).symm
  rw [e2]
  have h1 := hs_ac hp hg hx lx.ru (hs g m t * c * v)
  obtain ⟨q, eq⟩ : Dv g (hs g m (ac (hs g m t * c * v) x) - hs g m t) := by
    have := key.sub h1
    rwa [show hs g m t * c * v * hs g m x - hs g m t - (hs g m t * c * v * hs g m x - hs g m (ac (hs g m t * c * v) x)) = hs g m (ac (hs g m t * c * v) x) - hs g m t by grind] at this
  have z := rem_zero hp hg.1 hg.2.1 (r := hs g m (ac (hs g m t * c * v) x) - hs g m t) (q := q) (by rw [Int.sub_zero]; exact (bd_hs g m _).sub (bd_hs g m _)) eq
  have w := hs_lin hp0 g m (-1) t (ac (hs g m t * c * v) x)
  have mneg : mono p 0 (-1) * hs g m t = -hs g m t := cf_ext fun k => by rw [cf_mono_mul, cf_neg, Int.sub_zero, Int.neg_one_mul]
  rw [mneg, show -hs g m t + hs g m (ac (hs g m t * c * v) x) = hs g m (ac (hs g m t * c * v) x) - hs g m t by grind, z] at w
  have dz : Dg p (fun j => (-1 * t j + ac (hs g m t * c * v) x j) % p) := fun k => ⟨Int.emod_nonneg _ (by omega), Int.emod_lt_of_pos _ hp0⟩
  have rz : Ru g (fun j => (-1 * t j + ac (hs g m t * c * v) x j) % p) := fun k => by
    rw [ac_lin, rt, (lx.ru.ac _) k]; simp
  have zz := hs_inj hp hg dz rz w
  funext k
  have zk : (-1 * t k + ac (hs g m t * c * v) x k) % p = 0 := congrFun zz k
  have r1 := ht k
  have r2 := ac_range hp0 (hs g m t * c * v) x k
  have : (ac (hs g m t * c * v) x k - t k) % p = 0 := by rw [← zk]; congr 1; omega
  have := Int.emod_eq_emod_iff_emod_sub_eq_zero.mpr this
  rw [Int.emod_eq_of_lt r1.1 r1.2, Int.emod_eq_of_lt r2.1 r2.2] at this
  exact this.symm
def io (p : Int) (a : Int) : LP p := mono p 0 a
theorem io_add (a b : Int) : io p (a + b) = io p a + io p b := (mono_add 0 a b).symm
theorem io_mul (a b : Int) : io p (a * b) = io p a * io p b := by unfold io; rw [mono_mul]; rfl
theorem io_mod (a : Int) : io p (a % p) = io p a := mono_mod 0 a
theorem io_zero : io p 0 = 0 := cf_ext fun k => by unfold io; rw [cf_mono, cf_zero]; split <;> simp
theorem io_sub (a b : Int) : io p (a - b) = io p a - io p b := by
  have := io_add (p := p) (a - b) b
  rw [Int.sub_add_cancel] at this
  grind
theorem io_inj {a b : Int} (h : io p a = io p b) : a % p = b % p := by
  have := congrArg (fun x => cf x 0) h
  unfold io at this
  simpa [cf_mono] using this
theorem io_eq0 {a : Int} (h : io p a = 0) : a % p = 0 := by
  have := io_inj (p := p) (a := a) (b := 0) (by rw [h, io_zero])
  rwa [Int.zero_emod] at this
inductive Gn (p : Int) (R : List (Int → Int)) : (Int → Int) → Prop
  | zero {t : Int → Int} : (∀ k, io p (t k) = 0) → Gn p R t
  | step {t u r : Int → Int} (a : Int) : Gn p R u → r ∈ R → (∀ k, io p (t k) = io p (u k) + io p a * io p (r k)) → Gn p R t
theorem Gn.congr {R : List (Int → Int)} {t t' : Int → Int} (h : Gn p R t) (e : ∀ k, io p (t' k) = io p (t k)) : Gn p R t' := by
  cases h with
  | zero z => exact .zero fun k => by rw [e, z]
  | step a h m z => exact .step a h m fun k => by rw [e, z]
theorem Gn.at0 {R : List (Int → Int)} {t : Int → Int} {c : Int} (h : Gn p R t) (z : ∀ r ∈ R, r c = 0) : io p (t c) = 0 := by
  induction h with
  | zero e => exact e c
  | step a h m e ih => rw [e, ih, z _ m, io_zero]; grind
def clr (p c : Int) (h r : Int → Int) : Int → Int := fun k => (r k - r c * invD p (h c) * h k) % p
theorem io_clr (c : Int) (h r : Int → Int) (k : Int) : io p (clr p c h r k) = io p (r k) - io p (r c) * io p (invD p (h c)) * io p (h k) := by
  unfold clr
  rw [io_mod, io_sub, io_mul, io_mul]
theorem Gn.clear {R R' : List (Int → Int)} {h : Int → Int} {c : Int} (hm : ∀ r ∈ R, r = h ∨ clr p c h r ∈ R') {t : Int → Int} (g : Gn p R t) : ∃ (u : Int → Int) (b : LP p), Gn p R' u ∧ ∀ k, io p (t k) = io p (u k) + b * io p (h k) := by
  induction g with
  | zero e => exact ⟨fun _ => 0, 0, .zero fun k => io_zero, fun k => by rw [e, io_zero]; grind⟩
  | @step t u r a g m e ih =>
    obtain ⟨v, b, gv, ev⟩ := ih
    rcases hm _ m with rfl | m'
    · exact ⟨v, b + io p a, gv, fun k => by rw [e, ev]; grind⟩
    · refine ⟨fun k => v k + a * clr p c h r k, b + io p a * (io p (r c) * io p (invD p (h c))), .step a gv m' fun k => by rw [io_add, io_mul], fun k => ?_⟩
      rw [e, ev, io_add, io_mul, io_clr]; grind
structure Iv (g : LP p) (R : List (Int → Int)) (c : Nat) : Prop where
  dg : ∀ r ∈ R, Dg p r
  ru : ∀ r ∈ R, Ru g r
  z : ∀ r ∈ R, ∀ k : Nat, k < c → r k = 0
  gen : ∀ t, Dg p t → Ru g t → (∀ k : Nat, k < c → t k = 0) → Gn p R t
theorem Iv.none (hp : isPr p = true) {g : LP p} {m c : Nat} (hg : Dvr g m) {R : List (Int → Int)} (h : Iv g R c) (hc : m ≤ c) : ∀ r ∈ R, r = fun _ => 0 := fun r hr =>
  ru_eq hp hg (h.dg r hr) (fun k => ⟨Int.le_refl 0, (isPr_pos hp).1⟩) (h.ru r hr) (fun k => by
    have := ac_lin g 0 (fun _ => 0) (fun _ => 0) k
    have e : (fun _ : Int => ((0 : Int) * 0 + 0) % p) = fun _ => 0 := by funext j; rw [Int.zero_mul, Int.zero_add, Int.zero_emod]
    have e2 : ac g (ac (0 : LP p) r) k = 0 := by rw [← ac_mul, show g * 0 = (0 : LP p) by grind, ac_zero]
    have e3 : ac (0 : LP p) r = fun _ => (0 : Int) := by funext j; rw [ac_zero]
    rwa [e3] at e2) fun i hi => h.z r hr i (by omega)
theorem Iv.some (hp : isPr p = true) {g : LP p} {m c : Nat} (hg : Dvr g m) {R : List (Int → Int)} (h : Iv g R c) (hc : c < m) : ∃ r ∈ R, r c ≠ 0 := by
  refine Classical.byContradiction fun no => ?_
  have hp0 := isPr_pos hp
  have hp2 : 2 ≤ p := by rcases isPr_cases hp with h | h | h | h <;> omega
  obtain ⟨t, t1, t2, t3⟩ := ru_ex hp hg (fun i => if i = c then 1 else 0) fun i hi => by split <;> omega
  have gt := h.gen t t1 t2 fun k hk => by rw [t3 k (by omega), if_neg (by omega)]
  have := io_eq0 (gt.at0 (c := c) fun r hr => Classical.byContradiction fun z => no ⟨r, hr, z⟩)
  rw [t3 c hc, if_pos rfl, one_mod hp] at this
  cases this
theorem clr_lin (c : Int) (h r : Int → Int) : clr p c h r = fun j => (-(r c * invD p (h c)) * h j + r j) % p := by
  funext j
  unfold clr
  congr 1
  grind
theorem Iv.next (hp : isPr p = true) {g : LP p} {c : Nat} {R R' : List (Int → Int)} (h : Iv g R c) {hd : Int → Int} (hh : hd ∈ R) (h0 : hd c ≠ 0) (a : ∀ r ∈ R, r = hd ∨ clr p c hd r ∈ R') (b : ∀ r' ∈ R', ∃ r ∈ R, r' = clr p c hd r) : Iv g R' (c + 1) := by
  have hp0 := (isPr_pos hp).1
  have hcr := h.dg hd hh c
  have inv : io p (invD p (hd c)) * io p (hd c) = 1 := by
    rw [← io_mul]
    unfold io
    have := (invD_mul hp (a := hd c) (by omega) hcr.2).1
    rw [← mono_mod, this]; rfl
  have hc0 : io p (hd c) ≠ 0 := fun z => by
    have := io_eq0 z
    rw [Int.emod_eq_of_lt hcr.1 hcr.2] at this
    exact h0 this
  refine ⟨fun r' hr' => ?_, fun r' hr' => ?_, fun r' hr' k hk => ?_, fun t t1 t2 t3 => ?_⟩
  · obtain ⟨r, hr, rfl⟩ := b r' hr'
    exact fun k => ⟨Int.emod_nonneg _ (by omega), Int.emod_lt_of_pos _ hp0⟩
  · obtain ⟨r, hr, rfl⟩ := b r' hr'
    rw [clr_lin]
    intro k
    rw [ac_lin, h.ru hd hh, h.ru r hr]; simp
  · obtain ⟨r, hr, rfl⟩ := b r' hr'
    have z : io p (clr p c hd r k) = 0 := by
      rw [io_clr]
      by_cases e : k = c
      · subst e
        have : io p (r ↑k) - io p (r ↑k) * io p (invD p (hd ↑k)) * io p (hd ↑k) = io p (r ↑k) * (1 - io p (invD p (hd ↑k)) * io p (hd ↑k)) := by grind
        rw [this, inv]; grind
      · rw [h.z r hr k (by omega), h.z hd hh k (by omega), io_zero]; grind
    have := io_eq0 z
    unfold clr at this ⊢
    rwa [Int.emod_emod_of_dvd _ (Int.dvd_refl p)] at this
  · obtain ⟨u, bb, gu, eu⟩ := (h.gen t t1 t2 fun k hk => t3 k (by omega)).clear a
    have uc : io p (u c) = 0 := gu.at0 fun r' hr' => by
      obtain ⟨r, hr, rfl⟩ := b r' hr'
      have z : io p (clr p c hd r c) = 0 := by
        rw [io_clr]
        have : io p (r ↑c) - io p (r ↑c) * io p (invD p (hd ↑c)) * io p (hd ↑c) = io p (r ↑c) * (1 - io p (invD p (hd ↑c)) * io p (hd ↑c)) := by grind
        rw [this, inv]; grind
      have := io_eq0 z
      unfold clr at this ⊢
      rwa [Int.emod_emod_of_dvd _ (Int.dvd_refl p)] at this
    have bz : bb = 0 := by
      have e := eu c
      rw [t3 c (by omega), io_zero, uc] at e
      refine Classical.byContradiction fun nb => ?_
      exact mul_ne hp nb hc0 (by grind)
    exact gu.congr fun k => by rw [eu, bz]; grind
theorem Gn.sum {R : List (Int → Int)} {x : Int → Int} (f : Nat → Int) : ∀ n : Nat, (∀ i, i < n → sg (i : Int) x ∈ R) → Gn p R (fun k => lf n f fun i => x (k + i))
  | 0, _ => .zero fun k => io_zero
  | n + 1, h => by
    refine .step (f n) (Gn.sum f n fun i hi => h i (by omega)) (h n (by omega)) fun k => ?_
    have e : lf (n + 1) f (fun i => x (k + i)) = lf n f (fun i => x (k + i)) + f n * x (k + n) := by
      unfold lf
      rw [List.range_succ, List.map_append, List.sum_append, List.map_cons, List.map_nil, List.sum_cons, List.sum_nil, Int.add_zero]
    rw [e, io_add, io_mul]; rfl
theorem Iv.init (hp : isPr p = true) {g : LP p} {m N : Nat} (hg : Dvr g m) (hN : m ≤ N) {x : Int → Int} (hx : Dg p x) (lx : IsLr g x) : Iv g ((List.range N).map fun (i : Nat) => sg (i : Int) x) 0 := by
  refine ⟨fun r hr => ?_, fun r hr => ?_, fun r hr k hk => absurd hk (Nat.not_lt_zero k), fun t t1 t2 _ => ?_⟩
  · obtain ⟨i, _, rfl⟩ := List.mem_map.mp hr
    exact hx.sg _
  · obtain ⟨i, _, rfl⟩ := List.mem_map.mp hr
    exact lx.ru.sg _
  · obtain ⟨f, bf, e⟩ := cyc hp hg hx lx t1 t2
    refine (Gn.sum (R := (List.range N).map fun (i : Nat) => sg (i : Int) x) (fun i => cf f i) m fun i hi => List.mem_map.mpr ⟨i, List.mem_range.mpr (by omega), rfl⟩).congr fun k => ?_
    rw [e, ac_bd bf, io_mod]
end
end My

namespace My
open PySem PySem.Spec L2 DL
def okD (d : D) : Prop := ∃ t, tyD d = some t ∧ ∀ c, t = .own c → c ∈ CS
def isInt : D → Bool
  | .int _ => true
  | _ => false
def isLst : D → Bool
  | .lst _ => true
  | .tup _ => true
  | .rol _ => true
  | _ => false
def trm (t : Int × Int) : D := .tup [.int t.1, .int t.2]
def kvp (t : Int × Int) : Key × D := (.inl t.1, .int t.2)
def flt (p : Int) (ts : Tm) : List (Str × D) := [("prime", .int p), ("kept", .lst (ts.map trm)), ("held", .dct (ts.map kvp))]
def fob (p : Int) (ts : Tm) : D := .obj "Filter" (flt p ts)
theorem find_kvp (k : Int) : ∀ m : Tm, (m.map kvp).find? (fun kv => decide (kv.1 = Sum.inl k)) = (m.find? fun t => decide (t.1 = k)).map kvp
  | [] => rfl
  | t :: m => by
    rw [List.map_cons, List.find?_cons, List.find?_cons, find_kvp k m]
    have e : decide ((kvp t).1 = (Sum.inl k : Key)) = decide (t.1 = k) := by simp [kvp]
    rw [e]
    cases decide (t.1 = k) <;> rfl
theorem get_kvp (m : Tm) (k : Int) : (DL.getD (m.map kvp) (.inl k)).getD (.int 0) = .int (getI m k) := by
  unfold DL.getD getI
  rw [find_kvp]
  cases m.find? (fun t => decide (t.1 = k)) <;> rfl
theorem get_kvp' {m : Tm} {k : Int} (h : k ∈ m.map (·.1)) : DL.getD (m.map kvp) (.inl k) = some (.int (getI m k)) := by
  have e := get_kvp m k
  cases q : DL.getD (m.map kvp) (.inl k) with
  | some d => rw [q] at e; exact congrArg some e
  | none =>
    unfold DL.getD at q
    rw [find_kvp] at q
    have q1 := Option.map_eq_none_iff.mp (Option.map_eq_none_iff.mp q)
    rw [List.find?_eq_none] at q1
    obtain ⟨t, h1, h2⟩ := List.mem_map.mp h
    exact absurd (by simpa using h2) (q1 t h1)
theorem put_kvp (m : Tm) (k v : Int) : putD (m.map kvp) (.inl k) (.int v) = (putI m k v).map kvp := by
  have e : ((m.map kvp).any fun kv => decide (kv.1 = Sum.inl k)) = m.any fun t => decide (t.1 = k) := by
    rw [List.any_map]
    congr 1
    funext t
    simp [kvp]
  unfold putD putI
  rw [e]
  split
  · rw [List.map_map, List.map_map]
    refine List.map_congr_left fun t _ => ?_
    by_cases h : t.1 = k
    · simp [kvp, h]
    · simp [kvp, h]
  · rw [List.map_append]
    rfl
theorem keys_kvp (m : Tm) : ((m.map kvp).map fun kv => DL.keyOf kv.1) = (m.map (·.1)).map D.int := by
  rw [List.map_map, List.map_map]
  rfl
theorem ok_int (i : Int) : okD (.int i) := ⟨_, rfl, fun c e => nomatch e⟩
theorem ok_tup (ds : List D) : okD (.tup ds) := ⟨_, rfl, fun c e => nomatch e⟩
theorem isa_int_int : isaB "int" (.b "int") = true := by decide
theorem isa_int_bool : isaB "int" (.b "bool") = true := by decide
theorem isa_int_list : isaB "int" (.b "list") = false := by decide
theorem isa_int_tuple : isaB "int" (.b "tuple") = false := by decide
theorem isa_int_str : isaB "int" (.b "str") = false := by decide
theorem isa_int_NoneType : isaB "int" (.b "NoneType") = false := by decide
theorem isa_int_dict : isaB "int" (.b "dict") = false := by decide
theorem isa_int_own (c : Str) : isaB "int" (.own c) = false := rfl
theorem isa_bool_int : isaB "bool" (.b "int") = false := by decide
theorem isa_bool_bool : isaB "bool" (.b "bool") = true := by decide
theorem isa_bool_list : isaB "bool" (.b "list") = false := by decide
theorem isa_bool_tuple : isaB "bool" (.b "tuple") = false := by decide
theorem isa_bool_str : isaB "bool" (.b "str") = false := by decide
theorem isa_bool_NoneType : isaB "bool" (.b "NoneType") = false := by decide
theorem isa_bool_dict : isaB "bool" (.b "dict") = false := by decide
theorem isa_bool_own (c : Str) : isaB "bool" (.own c) = false := rfl
theorem isa_list_int : isaB "list" (.b "int") = false := by decide
theorem isa_list_bool : isaB "list" (.b "bool") = false := by decide
theorem isa_list_list : isaB "list" (.b "list") = true := by decide
theorem isa_list_tuple : isaB "list" (.b "tuple") = false := by decide
theorem isa_list_str : isaB "list" (.b "str") = false := by decide
theorem isa_list_NoneType : isaB "list" (.b "NoneType") = false := by decide
theorem isa_list_dict : isaB "list" (.b "dict") = false := by decide
theorem isa_list_own (c : Str) : isaB "list" (.own c) = false := rfl
theorem isa_tuple_int : isaB "tuple" (.b "int") = false := by decide
theorem isa_tuple_bool : isaB "tuple" (.b "bool") = false := by decide
theorem isa_tuple_list : isaB "tuple" (.b "list") = false := by decide
theorem isa_tuple_tuple : isaB "tuple" (.b "tuple") = true := by decide
theorem isa_tuple_str : isaB "tuple" (.b "str") = false := by decide
theorem isa_tuple_NoneType : isaB "tuple" (.b "NoneType") = false := by decide
theorem isa_tuple_dict : isaB "tuple" (.b "dict") = false := by decide
theorem isa_tuple_own (c : Str) : isaB "tuple" (.own c) = false := rfl
theorem ty_int (i : Int) : tyD (.int i) = some (.b "int") := rfl
theorem ty_bl (i : Bool) : tyD (.bl i) = some (.b "bool") := rfl
theorem ty_str (i : Str) : tyD (.str i) = some (.b "str") := rfl
theorem ty_lst (i : List D) : tyD (.lst i) = some (.b "list") := rfl
theorem ty_rol (i : List D) : tyD (.rol i) = some (.b "list") := rfl
theorem ty_tup (i : List D) : tyD (.tup i) = some (.b "tuple") := rfl
theorem ty_dct (i : List (Key × D)) : tyD (.dct i) = some (.b "dict") := rfl
theorem ty_non : tyD .non = some (.b "NoneType") := rfl
theorem ty_obj (c : Str) (fs : List (Str × D)) : tyD (.obj c fs) = some (.own c) := rfl
theorem own_b {P : Str → Prop} (s : String) : (∀ c, Ty.b s = .own c → P c) ↔ True := ⟨fun _ => trivial, fun _ c e => nomatch e⟩
def enumF (i : Nat) : List D → List D
  | [] => []
  | d :: ds => .tup [.int (i : Int), d] :: enumF (i + 1) ds
theorem enumF_get : ∀ (ds : List D) (i j : Nat), (enumF i ds)[j]? = ds[j]?.map fun d => D.tup [.int ((i + j : Nat) : Int), d]
  | [], i, j => by simp [enumF]
  | d :: ds, i, 0 => by simp [enumF]
  | d :: ds, i, j + 1 => by
    rw [enumF, List.getElem?_cons_succ, List.getElem?_cons_succ, enumF_get ds (i + 1) j]
    rw [show i + 1 + j = i + (j + 1) by omega]
theorem enumD_eq (ds : List D) : enumD ds = enumF 0 ds := by
  refine List.ext_getElem? fun j => ?_
  rw [enumF_get, enumD, List.getElem?_map]
  by_cases h : j < ds.length
  · rw [List.getElem?_range h, List.getElem?_eq_getElem h]
    simp [List.getD, h]
  · rw [List.getElem?_eq_none (by simpa using h), List.getElem?_eq_none (by omega)]
    rfl
theorem forD_cons {γ : DG} {b : DS} {E : DEnds} {ρ : DL.Env} {n : Nat} {d : D} {ds : List D} : forD γ b (d :: ds) E ρ n = γ d ρ fun ρ1 => b { E with nx := forD γ b ds E, ct := forD γ b ds E, bk := E.nx } ρ1 n := rfl
theorem ix0 (a b : D) : atI [a, b] 0 = some a := rfl
theorem ix1 (a b : D) : atI [a, b] 1 = some b := rfl
theorem lcD_map {w : Wd} {γ : DG} {tt : DT} {te : DE} {ρ : DL.Env} {n : Nat} (f : D → Option D) : ∀ (ds acc : List D) (q : List D → Nat → Prop), (∀ d ∈ ds, ∀ K : Option D → Nat → Prop, K (f d) n → γ d ρ fun ρ1 => tt (x0 w) ρ1 n fun b n1 => if b = true then te (x0 w) ρ1 n1 (fun y n2 => K (some y) n2) else K none n1) →
    acc.length + ds.length < 16777216 → q (acc ++ ds.filterMap f) n → lcD w γ tt te ds ρ n acc q
  | [], acc, q, _, _, h => by simpa [lcD] using h
  | d :: ds, acc, q, hs, hl, h => by
    rw [List.length_cons] at hl
    refine hs d (List.mem_cons_self ..) (fun o n' => match o with
      | some y => acc.length < 16777216 ∧ lcD w γ tt te ds ρ n' (acc ++ [y]) q
      | none => lcD w γ tt te ds ρ n' acc q) ?_
    rw [List.filterMap_cons] at h
    cases e : f d with
    | none =>
      rw [e] at h
      exact lcD_map f ds acc q (fun d hd => hs d (List.mem_cons_of_mem _ hd)) (by omega) h
    | some y =>
      rw [e] at h
      refine ⟨by omega, lcD_map f ds (acc ++ [y]) q (fun d hd => hs d (List.mem_cons_of_mem _ hd)) (by rw [List.length_append, List.length_singleton]; omega) ?_⟩
      rw [List.append_assoc]
      exact h
theorem lcD_of {α : Type} {w : Wd} {γ : DG} {tt : DT} {te : DE} {ρ : DL.Env} {n : Nat} (g : α → D) (f : α → Option D) : ∀ (xs : List α) (acc : List D) (q : List D → Nat → Prop), (∀ a ∈ xs, ∀ K : Option D → Nat → Prop, K (f a) n → γ (g a) ρ fun ρ1 => tt (x0 w) ρ1 n fun b n1 => if b = true then te (x0 w) ρ1 n1 (fun y n2 => K (some y) n2) else K none n1) →
    acc.length + xs.length < 16777216 → q (acc ++ xs.filterMap f) n → lcD w γ tt te (xs.map g) ρ n acc q
  | [], acc, q, _, _, h => by simpa [lcD] using h
  | d :: ds, acc, q, hs, hl, h => by
    rw [List.length_cons] at hl
    rw [List.map_cons]
    refine hs d (List.mem_cons_self ..) (fun o n' => match o with
      | some y => acc.length < 16777216 ∧ lcD w γ tt te (ds.map g) ρ n' (acc ++ [y]) q
      | none => lcD w γ tt te (ds.map g) ρ n' acc q) ?_
    rw [List.filterMap_cons] at h
    cases e : f d with
    | none =>
      rw [e] at h
      exact lcD_of g f ds acc q (fun d hd => hs d (List.mem_cons_of_mem _ hd)) (by omega) h
    | some y =>
      rw [e] at h
      refine ⟨by omega, lcD_of g f ds (acc ++ [y]) q (fun d hd => hs d (List.mem_cons_of_mem _ hd)) (by rw [List.length_append, List.length_singleton]; omega) ?_⟩
      rw [List.append_assoc]
      exact h
theorem lcD_all {α : Type} {w : Wd} {γ : DG} {tt : DT} {te : DE} {ρ : DL.Env} {n : Nat} (g f : α → D) (xs : List α) (q : List D → Nat → Prop) (h : ∀ a ∈ xs, ∀ K : Option D → Nat → Prop, K (some (f a)) n → γ (g a) ρ fun ρ1 => tt (x0 w) ρ1 n fun b n1 => if b = true then te (x0 w) ρ1 n1 (fun y n2 => K (some y) n2) else K none n1)
    (hl : xs.length < 16777216) (hq : q (xs.map f) n) : lcD w γ tt te (xs.map g) ρ n [] q := by
  refine lcD_of g (fun a => some (f a)) xs [] q h (by simpa using hl) ?_
  rw [List.nil_append]
  have : xs.filterMap (fun a => some (f a)) = xs.map f := by
    clear h hl hq
    induction xs with
    | nil => rfl
    | cons a xs ih => rw [List.filterMap_cons]; simp [ih]
  rw [this]
  exact hq
theorem intsD_map : ∀ ks : List Int, intsD (ks.map D.int) = some ks
  | [] => rfl
  | k :: ks => by rw [List.map_cons, intsD, intsD_map ks]; rfl
theorem fm_some (ds : List D) : ds.filterMap some = ds := List.filterMap_some ..
theorem fm_if (g : Int → Bool) (h : Int → D) : ∀ ks : List Int, (ks.filterMap fun k => if g k = true then some (h k) else none) = (ks.filter g).map h
  | [] => rfl
  | k :: ks => by
    rw [List.filterMap_cons, List.filter_cons]
    cases e : g k
    · rw [if_neg Bool.false_ne_true, if_neg Bool.false_ne_true, fm_if g h ks]
    · rw [if_pos rfl, if_pos rfl, List.map_cons, fm_if g h ks]
theorem pairs_trm : ∀ m : Tm, pairsD (m.map trm) = some (m.map kvp)
  | [] => rfl
  | t :: m => by
    rw [List.map_cons, List.map_cons]
    show ((keyD (D.int t.1)).bind fun j => (pairsD (m.map trm)).map ((j, D.int t.2) :: ·)) = _
    rw [pairs_trm m]
    rfl
theorem merge_kvp : ∀ (m a : Tm), ((a ++ m).map (·.1)).Nodup → mergeD (a.map kvp) (m.map kvp) = (a ++ m).map kvp
  | [], a, _ => by rw [List.append_nil]; rfl
  | t :: m, a, h => by
    rw [List.map_cons]
    show mergeD (putD (a.map kvp) (.inl t.1) (.int t.2)) (m.map kvp) = _
    have nm : t.1 ∉ a.map (·.1) := fun z => by
      rw [List.map_append, List.nodup_append] at h
      exact h.2.2 t.1 z t.1 (by rw [List.map_cons]; exact List.mem_cons_self ..) rfl
    have e : putI a t.1 t.2 = a ++ [t] := by
      unfold putI
      rw [if_neg (fun z => nm ((any_iff a t.1).mp z))]
    rw [put_kvp, e, merge_kvp m (a ++ [t]) (by rw [List.append_assoc]; exact h), List.append_assoc]
    rfl
theorem merge_kvp0 {m : Tm} (h : (m.map (·.1)).Nodup) : mergeD [] (m.map kvp) = m.map kvp := merge_kvp m [] h
theorem hsum_key {p : Int} {ts : Tm} {k : Int} (h : k ∈ srt ((hsum p ts).map (·.1))) : k ∈ (hsum p ts).map (·.1) := (srt_perm _).mem_iff.mp h
def keepF (S : Tm) : D → Option D
  | .int k => if decide (0 < getI S k) = true then some (trm (k, getI S k)) else none
  | _ => none
theorem keepF_eq (p : Int) (ts : Tm) : ((srt ((hsum p ts).map (·.1))).map D.int).filterMap (keepF (hsum p ts)) = (canon p ts).map trm := by
  rw [List.filterMap_map]
  have e := fm_if (fun k => decide (0 < getI (hsum p ts) k)) (fun k => trm (k, getI (hsum p ts) k)) (srt ((hsum p ts).map (·.1)))
  exact e.trans (by unfold canon; rw [List.map_map]; rfl)
theorem lk_kept (a b : D) : List.lookup ("kept" : Str) (setF "kept" b (setF "prime" a [])) = some b := rfl
theorem lk1 (p : Int) (ts : Tm) : List.lookup ("prime" : Str) (flt p ts) = some (.int p) := rfl
theorem lk2 (p : Int) (ts : Tm) : List.lookup ("kept" : Str) (flt p ts) = some (.lst (ts.map trm)) := rfl
theorem lk3 (p : Int) (ts : Tm) : List.lookup ("held" : Str) (flt p ts) = some (.dct (ts.map kvp)) := rfl
theorem lkT (p : Int) (ts : Tm) : List.lookup ("terms" : Str) (flt p ts) = none := rfl
def pairF (S : Tm) : D → Option D
  | .int k => some (trm (k, getI S k))
  | _ => none
theorem pairF_eq' (S : Tm) : ∀ ts : Tm, (∀ t ∈ ts, getI S t.1 = t.2) → ((ts.map (·.1)).map D.int).filterMap (pairF S) = ts.map trm
  | [], _ => rfl
  | t :: ts, h => by
    rw [List.map_cons, List.map_cons, List.filterMap_cons, pairF_eq' S ts (fun u hu => h u (List.mem_cons_of_mem _ hu))]
    simp only [pairF]
    rw [h t (List.mem_cons_self ..)]
    rfl
theorem pairF_eq {ts : Tm} (h : (ts.map (·.1)).Nodup) : ((ts.map (·.1)).map D.int).filterMap (pairF ts) = ts.map trm := pairF_eq' ts ts fun t ht => getI_mem h ht
theorem putI_new {m : Tm} {k : Int} (v : Int) (h : k ∉ m.map (·.1)) : putI m k v = m ++ [(k, v)] := by
  unfold putI
  rw [if_neg (fun z => h ((any_iff m k).mp z))]
theorem rng_len (lo : Int) (n : Nat) : (rngD lo n).length = n := by simp [rngD]
theorem sh_int (i : Int) : SeqAt.shaped (pyD (.int i)) = true := rfl
theorem sh_bl (b : Bool) : SeqAt.shaped (pyD (.bl b)) = true := rfl
theorem eq_int (i : Int) : (pyD (.int i)).eqv (pyD (.int i)) = true := SeqAt.eqv_refl _ rfl
theorem eq_bl (b : Bool) : (pyD (.bl b)).eqv (pyD (.bl b)) = true := SeqAt.eqv_refl _ rfl
theorem zip_self (ds : List D) : zipD ds ds = ds.map fun d => D.tup [d, d] := by
  unfold zipD
  induction ds with
  | nil => rfl
  | cons d ds ih => rw [List.zip_cons_cons, List.map_cons, List.map_cons, ih]
def yesF : D → Option D := fun _ => some (.bl true)
theorem bools_yes : ∀ ds : List D, boolsD (ds.filterMap yesF) = some (List.replicate ds.length true)
  | [] => rfl
  | d :: ds => by
    show (boolsD (ds.filterMap yesF)).map (true :: ·) = _
    rw [bools_yes ds]
    rfl
theorem all_yes (n : Nat) : (List.replicate n true).all id = true := by simp
theorem forD_ind {γ : DG} {b : DS} {E : DEnds} (I : DL.Env → Nat → Nat → Prop)
    (step : ∀ (ρ : DL.Env) (n k : Nat) (d : D) (R : DL.Env → Nat → Prop), I ρ n (k + 1) → (∀ ρ' n', I ρ' n' k → R ρ' n') → γ d ρ fun ρ1 => b { E with nx := R, ct := R, bk := E.nx } ρ1 n)
    (done : ∀ ρ n, I ρ n 0 → E.nx ρ n) : ∀ (ds : List D) (ρ : DL.Env) (n : Nat), I ρ n ds.length → forD γ b ds E ρ n
  | [], ρ, n, h => done ρ n h
  | d :: ds, ρ, n, h => step ρ n ds.length d (forD γ b ds E) h fun ρ' n' h' => forD_ind I step done ds ρ' n' h'

theorem forD_pre {α : Type} {γ : DG} {b : DS} {E : DEnds} {f : α → D} (xs : List α) (I : List α → DL.Env → Nat → Prop)
    (step : ∀ pre a post, xs = pre ++ a :: post → ∀ (ρ : DL.Env) (n : Nat) (R : DL.Env → Nat → Prop), I pre ρ n → (∀ ρ' n', I (pre ++ [a]) ρ' n' → R ρ' n') → γ (f a) ρ fun ρ1 => b { E with nx := R, ct := R, bk := E.nx } ρ1 n)
    (done : ∀ ρ n, I xs ρ n → E.nx ρ n) {ρ : DL.Env} {n : Nat} (h0 : I [] ρ n) : forD γ b (xs.map f) E ρ n := by
  have go : ∀ (post pre : List α), xs = pre ++ post → ∀ ρ n, I pre ρ n → forD γ b (post.map f) E ρ n := by
    intro post
    induction post with
    | nil => intro pre e ρ n h; rw [List.append_nil] at e; subst e; exact done ρ n h
    | cons a post ih =>
      intro pre e ρ n h
      rw [List.map_cons, forD_cons]
      exact step pre a post e ρ n _ h fun ρ' n' h' => ih (pre ++ [a]) (by rw [e, List.append_assoc]; rfl) ρ' n' h'
  exact go xs [] rfl ρ n h0
theorem dSeq_at {a b : DS} {E : DEnds} {ρ : DL.Env} {n : Nat} (h : ∀ R, R = b E → a { E with nx := R } ρ n) : dSeq a b E ρ n := h _ rfl
theorem lcD_pre {α : Type} {w : Wd} {γ : DG} {tt : DT} {te : DE} {ρ : DL.Env} {q : List D → Nat → Prop} (g : α → D) (xs : List α) (I : List α → List D → Nat → Prop)
    (step : ∀ pre a post, xs = pre ++ a :: post → ∀ (acc : List D) (n : Nat) (R : List D → Nat → Prop), I pre acc n → (∀ acc' n', I (pre ++ [a]) acc' n' → R acc' n') → γ (g a) ρ fun ρ1 => tt (x0 w) ρ1 n fun b n1 => if b = true then te (x0 w) ρ1 n1 (fun y n2 => acc.length < 16777216 ∧ R (acc ++ [y]) n2) else R acc n1)
    (done : ∀ acc n, I xs acc n → q acc n) {n : Nat} (h0 : I [] [] n) : lcD w γ tt te (xs.map g) ρ n [] q := by
  have go : ∀ (post pre : List α), xs = pre ++ post → ∀ acc n, I pre acc n → lcD w γ tt te (post.map g) ρ n acc q := by
    intro post
    induction post with
    | nil =>
      intro pre e acc n h
      rw [List.append_nil] at e
      exact done acc n (e ▸ h)
    | cons a post ih =>
      intro pre e acc n h
      exact step pre a post e acc n (fun acc' n' => lcD w γ tt te (post.map g) ρ n' acc' q) h fun acc' n' h' => ih (pre ++ [a]) (by rw [e, List.append_assoc]; rfl) acc' n' h'
  exact go xs [] rfl [] n h0
theorem rngD_map (lo : Int) (n : Nat) : rngD lo n = (List.range n).map fun (i : Nat) => D.int (lo + (i : Int)) := rfl
theorem eqv_int (a b : Int) : (pyD (.int a)).eqv (pyD (.int b)) = decide (a = b) := by
  show PyData.eqv (.int a) (.int b) = _
  simp [PyData.eqv]
  rfl
theorem eqv_trm (t u : Int × Int) : (pyD (trm t)).eqv (pyD (trm u)) = decide (t = u) := by
  obtain ⟨a, b⟩ := t
  obtain ⟨c, d⟩ := u
  have e1 := eqv_int a c
  have e2 := eqv_int b d
  simp only [pyD] at e1 e2
  simp only [trm, pyD, pyL, PyData.eqv, PyData.eqvAll, Prod.mk.injEq] at e1 e2 ⊢
  simp [Bool.and_true, e1, e2]
theorem eqvAll_trm : ∀ ts us : Tm, PyData.eqvAll (pyL (ts.map trm)) (pyL (us.map trm)) = decide (ts = us)
  | [], [] => by simp [pyL, PyData.eqvAll]
  | [], u :: us => by simp [pyL, PyData.eqvAll]
  | t :: ts, [] => by simp [pyL, PyData.eqvAll]
  | t :: ts, u :: us => by
    rw [List.map_cons, List.map_cons, pyL, pyL, PyData.eqvAll, eqv_trm, eqvAll_trm ts us]
    by_cases h1 : t = u <;> by_cases h2 : ts = us <;> simp [h1, h2]
theorem eqv_trms (ts us : Tm) : (pyD (.lst (ts.map trm))).eqv (pyD (.lst (us.map trm))) = decide (ts = us) := by
  simp only [pyD, PyData.eqv]
  exact eqvAll_trm ts us
theorem lay_trms : ∀ ts : Tm, PyData.canLayAll0 (pyL (ts.map trm)) = true
  | [] => rfl
  | t :: ts => by
    rw [List.map_cons, pyL]
    show (PyData.canLay0 (pyD (trm t)) && PyData.canLayAll0 (pyL (ts.map trm))) = true
    rw [lay_trms ts]
    rfl
theorem depth_trms : ∀ ts : Tm, PyData.depthAll (pyL (ts.map trm)) ≤ 2
  | [] => by decide
  | t :: ts => by
    rw [List.map_cons, pyL]
    have := depth_trms ts
    show max (PyData.depth (pyD (trm t))) (PyData.depthAll (pyL (ts.map trm))) ≤ 2
    have : PyData.depth (pyD (trm t)) ≤ 2 := by simp [trm, pyD, pyL, PyData.depth, PyData.depthAll]
    omega
theorem sh_trms (ts : Tm) : SeqAt.shaped (pyD (.lst (ts.map trm))) = true := by
  unfold SeqAt.shaped
  rw [Bool.and_eq_true_iff]
  refine ⟨by simpa [pyD, PyData.canLay0] using lay_trms ts, ?_⟩
  have := depth_trms ts
  simp only [pyD, PyData.depth]
  exact decide_eq_true (by omega)
theorem at0 (a : D) (l : List D) : atI (a :: l) 0 = some a := atI_nat (j := 0) rfl
def F_is_integer : DF := fun _ ds n q _ => match ds with
  | [d] => okD d ∧ q (.bl (isInt d)) n
  | _ => False
def F_is_list : DF := fun _ ds n q _ => match ds with
  | [d] => okD d ∧ q (.bl (isLst d)) n
  | _ => False
def F_is_prime : DF := fun _ ds n q _ => match ds with
  | [.int p] => q (.bl (isPr p)) n
  | _ => False
def F_is_term : DF := fun _ ds n q _ => match ds with
  | [.tup [.int _, .int _]] => q (.bl true) n
  | _ => False
def F_Filter___init__ : DFI := fun _ ds n q _ => ∃ p d ts, ds = [.int p, d] ∧ seqD d = some (ts.map trm) ∧ isPr p = true ∧ ts.length < 8000000 ∧ q (flt p (canon p ts)) n
def F__law_pick : DF := fun W ds n q _ => match ds with
  | [.hnd s, .lst es] => (∃ c, W = sprW s c) ∧ 0 < es.length ∧ es.length < 1000000 ∧ n < 1000000 ∧ ∀ d ∈ es, q d (n + 1)
  | _ => False
def pl : Nat → D → Prop
  | 0, d => match d with
    | .int _ => True
    | .bl _ => True
    | _ => False
  | k + 1, d => match d with
    | .lst ds => ds.length < 10000000 ∧ ∀ d ∈ ds, pl k d
    | .tup ds => ds.length < 10000000 ∧ ∀ d ∈ ds, pl k d
    | .int _ => True
    | .bl _ => True
    | _ => False
def F__law_same (k : Nat) : DF := fun _ ds n q _ => ∃ d, ds = [d, d] ∧ pl k d ∧ q (.bl true) n
abbrev F__law_same3 : DF := F__law_same 3
def F__law_held : DF := fun _ ds n q _ => ∃ p ts, ds = [.int p, .lst (ts.map trm)] ∧ 0 < p ∧ ts.length < 1000000 ∧ q (.dct ((canon p ts).map kvp)) n
def F__law_pairs : DF := fun _ ds n q _ => ∃ ts : Tm, ds = [.dct (ts.map kvp)] ∧ (ts.map (·.1)).Nodup ∧ ts.length < 1000000 ∧ q (.lst (ts.map trm)) n
def F__law_prime : DF := fun W ds n q _ => ∃ s, ds = [.hnd s] ∧ (∃ c, W = sprW s c) ∧ n < 1000000 ∧ ∀ p, isPr p = true → q (.int p) (n + 1)
end My

namespace My
open PySem PySem.Spec L2 DL
noncomputable def fo {p : Int} (x : LP p) : D := fob p (can x)
noncomputable def dk {p : Int} (x : LP p) : D := .dct ((can x).map kvp)
noncomputable def tl {p : Int} (x : LP p) : D := .lst ((can x).map trm)
noncomputable def dg {p : Int} (x : LP p) (n : Nat) : List Int := (List.range n).map fun (i : Nat) => cf x (i : Int)
def F_Filter_terms : DF := fun _ ds n q _ => ∃ p ts, ds = [fob p ts] ∧ q (.lst (ts.map trm)) n
def F_Filter___eq__ : DF := fun _ ds n q _ => ∃ p ts p' ts', ds = [fob p ts, fob p' ts'] ∧ ts.length < 1000000 ∧ ts'.length < 1000000 ∧ q (.bl (decide (p = p' ∧ ts = ts'))) n
def F__law_drawn : DF := fun W ds n q _ => ∃ s p, ∃ most reach : Nat, ds = [.hnd s, .int p, .int most, .int reach] ∧ (∃ c, W = sprW s c) ∧ isPr p = true ∧ most < 100 ∧ reach < 1000 ∧ n < 900000 ∧ ∀ (x : LP p) (n' : Nat), nt x ≤ most → Bd x (-(reach : Int)) reach → n' ≤ n + 1 + 2 * most → q (dk x) n'
def F__law_made : DF := fun _ ds n q _ => ∃ p, ∃ x : LP p, ds = [.int p, dk x] ∧ isPr p = true ∧ nt x < 1000000 ∧ q (fo x) n
def F__law_is : DF := fun _ ds n q _ => ∃ p, ∃ x : LP p, ds = [fo x, .int p, dk x] ∧ isPr p = true ∧ nt x < 1000000 ∧ q (.bl true) n
theorem Nrm.bd {p : Int} (hp : 0 < p) {x : LP p} (h : Nrm x) : Bd x 0 (sp x) := by
  by_cases e : x = 0
  · rw [e]; exact .zero _ _
  · rcases h with h | ⟨h1, h2⟩
    · exact absurd h e
    · have := bd_hl hp e
      have l := h1.lo hp
      unfold sp
      rw [l] at this ⊢
      rw [Int.sub_zero]
      exact this
theorem range_split {n : Nat} {pre post : List Nat} {a : Nat} (h : List.range n = pre ++ a :: post) : a = pre.length ∧ pre.length < n := by
  have h1 : (List.range n)[pre.length]? = some a := by rw [h]; simp
  have h2 : pre.length < n := by
    have := congrArg List.length h
    simp at this
    omega
  rw [List.getElem?_range h2] at h1
  exact ⟨(Option.some.inj h1).symm, h2⟩
end My

namespace My
open PySem PySem.Spec L2 DL
def Nb {p : Int} (x : LP p) (a : Nat) : Prop := Bd x (-(a : Int)) (a : Int)
section
variable {p : Int} {x y : LP p} {a b : Nat} {W : Wd} {n : Nat} {q : D → Nat → Prop} {xx : DL.Xn → Nat → Prop}
theorem Nb.le (h : Nb x a) (l : a ≤ b) : Nb x b := Bd.mono h (by omega) (by omega)
theorem Nb.add (h : Nb x a) (h' : Nb y b) : Nb (x + y) (a + b) := Bd.add (h.le (by omega)) (h'.le (by omega))
theorem Nb.sub (h : Nb x a) (h' : Nb y b) : Nb (x - y) (a + b) := Bd.sub (h.le (by omega)) (h'.le (by omega))
theorem Nb.neg (h : Nb x a) : Nb (-x) a := Bd.neg h
theorem Nb.mul (hp : isPr p = true) (h : Nb x a) (h' : Nb y b) : Nb (x * y) (a + b) := Bd.mono (Bd.mul (isPr_pos hp).1 h h') (by omega) (by omega)
theorem Nb.nt (hp : isPr p = true) (h : Nb x a) : My.nt x ≤ 2 * a + 1 := by
  have := Bd.nt (isPr_pos hp).1 h
  omega
theorem Nb.int (c : Int) : Nb ((c : Int) : LP p) 0 := fun k hk => by
  have e : ((c : Int) : LP p) = ((c : Int) : LP p) * 1 := by grind
  have e2 : cf (1 : LP p) k ≠ 0 := fun z => hk (by rw [e, cf_int_mul, z, Int.mul_zero]; exact Int.zero_emod p)
  have e3 := cf_mono (p := p) 0 1 k
  rw [mono_one] at e3
  by_cases h : (0 : Int) = k
  · omega
  · rw [if_neg h] at e3; exact absurd e3 e2
theorem Nb.one (hp : isPr p = true) : Nb (1 : LP p) 0 := fun k hk => by
  have e3 := cf_mono (p := p) 0 1 k
  rw [mono_one] at e3
  by_cases h : (0 : Int) = k
  · omega
  · rw [if_neg h] at e3; exact absurd e3 hk
theorem Nb.sp (hp : isPr p = true) (h : Nb x a) (hx : x ≠ 0) : My.sp x ≤ 2 * a := by
  have h1 := Bd.lo (isPr_pos hp).1 h hx
  have h2 := Bd.hi (isPr_pos hp).1 h hx
  unfold My.sp
  omega
theorem Nb.nrm (hp : isPr p = true) (h : Nb x a) : Nb (nrm x) (2 * a) := by
  by_cases e : x = 0
  · rw [e, nrm_zero]; exact .zero _ _
  · have := h.sp hp e
    have z := (nrm_nrm hp x).bd (isPr_pos hp).1
    rw [sp_nrm hp e] at z
    exact z.mono (by omega) (by omega)
theorem Nb.of_nrm (hp : isPr p = true) (h : Nrm x) (l : x ≠ 0 → My.sp x ≤ a) : Nb x a := by
  by_cases e : x = 0
  · rw [e]; exact .zero _ _
  · have := l e
    exact (h.bd (isPr_pos hp).1).mono (by omega) (by omega)
theorem sp_dv (hp : isPr p = true) {d f : LP p} (h : Dv d f) (hf : f ≠ 0) : d ≠ 0 ∧ My.sp d ≤ My.sp f := by
  obtain ⟨q, e⟩ := h
  have hd : d ≠ 0 := fun z => hf (by rw [e, z]; grind)
  have hq : q ≠ 0 := fun z => hf (by rw [e, z]; grind)
  refine ⟨hd, ?_⟩
  rw [e, sp_mul hp hq hd]
  have := sp_nonneg (isPr_pos hp).1 hq
  omega
theorem Nb.gcd (hp : isPr p = true) {d : LP p} (h : IsGcd d x y) (hx : Nb x a) (hy : Nb y b) : Nb d (2 * (a + b)) := by
  refine .of_nrm hp h.1 fun hd => ?_
  by_cases e : x = 0
  · by_cases e2 : y = 0
    · obtain ⟨_, _, _, u, v, z⟩ := h
      exact absurd (by rw [z, e, e2]; grind) hd
    · have := (sp_dv hp h.2.2.1 e2).2
      have := hy.sp hp e2
      omega
  · have := (sp_dv hp h.2.1 e).2
    have := hx.sp hp e
    omega
theorem Nb.lcm (hp : isPr p = true) {m : LP p} (h : IsLcm m x y) (hx : Nb x a) (hy : Nb y b) : Nb m (2 * (a + b)) := by
  obtain ⟨d, q, hd, e, h1, h2⟩ := h
  by_cases ex : x = 0
  · rw [h1 (.inl ex)]; exact .zero _ _
  by_cases ey : y = 0
  · rw [h1 (.inr ey)]; exact .zero _ _
  rw [h2 ex ey]
  have exy := mul_ne hp ex ey
  have := sp_dv hp (d := q) (f := x * y) ⟨d, by rw [e]; grind⟩ exy
  refine .of_nrm hp (nrm_nrm hp q) fun _ => ?_
  rw [sp_nrm hp this.1]
  have z := (hx.mul hp hy).sp hp exy
  omega
theorem Nb.mod (hp : isPr p = true) {r g : LP p} (h : IsMod x g r) (hg : Nb g b) (g0 : g ≠ 0) : Nb r (2 * b) := by
  have := hg.sp hp g0
  exact h.2.mono (by omega) (by omega)
theorem Nb.quo (hp : isPr p = true) {r g : LP p} (h : IsQuo x g r) (hx : Nb x a) (hg : Nb g b) (g0 : g ≠ 0) : Nb r (a + 3 * b) := by
  obtain ⟨s, e, hs⟩ := h
  by_cases r0 : r = 0
  · rw [r0]; exact .zero _ _
  have hp0 := (isPr_pos hp).1
  have hsN : Nb s (2 * b) := Nb.mod hp (x := x) ⟨⟨r, e⟩, hs⟩ hg g0
  have e2 : r * g = x - s := by rw [e]; grind
  have n0 := mul_ne hp r0 g0
  have b2 : Nb (r * g) (a + 2 * b) := by rw [e2]; exact hx.sub hsN
  have h1 := Bd.lo hp0 b2 n0
  have h2 := Bd.hi hp0 b2 n0
  rw [lo_mul hp r0 g0] at h1
  rw [hi_mul hp r0 g0] at h2
  have h3 := Bd.lo hp0 hg g0
  have h4 := Bd.hi hp0 hg g0
  exact (bd_hl hp0 r0).mono (by omega) (by omega)
theorem Nb.pow (hp : isPr p = true) (hx : Nb x a) : ∀ k : Nat, Nb (x ^ k) (k * a)
  | 0 => by
    have e : x ^ 0 = 1 := rfl
    rw [e]; exact (Nb.one hp).le (by omega)
  | k + 1 => by
    have e : x ^ (k + 1) = x ^ k * x := rfl
    rw [e, Nat.succ_mul]; exact (Nb.pow hp hx k).mul hp hx
end
inductive EqPr (p : Int) : List D → Prop
  | nil : EqPr p []
  | cons {x y : LP p} {a : Nat} {l : List D} (h : Nb x a) (la : a < 1000) (e : x = y) (t : EqPr p l) : EqPr p (.tup [fo x, fo y] :: l)
end My

namespace My
open PySem PySem.Spec L2 DL
def sd (s : Int → Int) (a : Int) (n : Nat) : List D := (List.range n).map fun (i : Nat) => D.int (s (a + (i : Int)))
noncomputable def sqf {p : Int} (g : LP p) (s : Int → Int) : List (Str × D) := [("prime", .int p), ("ruler", fo g), ("front", .lst (sd s 0 (sp g).toNat)), ("divisor", .lst ((dg g ((sp g).toNat + 1)).map D.int))]
noncomputable def so {p : Int} (g : LP p) (s : Int → Int) : D := .obj "Sequence" (sqf g s)
theorem lkS1 {p : Int} (g : LP p) (s : Int → Int) : List.lookup ("prime" : Str) (sqf g s) = some (.int p) := rfl
theorem lkS2 {p : Int} (g : LP p) (s : Int → Int) : List.lookup ("ruler" : Str) (sqf g s) = some (fo g) := rfl
theorem lkS3 {p : Int} (g : LP p) (s : Int → Int) : List.lookup ("front" : Str) (sqf g s) = some (.lst (sd s 0 (sp g).toNat)) := rfl
theorem lkS4 {p : Int} (g : LP p) (s : Int → Int) : List.lookup ("divisor" : Str) (sqf g s) = some (.lst ((dg g ((sp g).toNat + 1)).map D.int)) := rfl
structure Sq {p : Int} (g : LP p) (s : Int → Int) (b : Nat) : Prop where
  pr : isPr p = true
  dg : Dg p s
  lr : IsLr g s
  sp : sp g ≤ b
theorem Sq.le {p : Int} {g : LP p} {s : Int → Int} {a b : Nat} (h : Sq g s a) (l : a ≤ b) : Sq g s b := ⟨h.pr, h.dg, h.lr, by have := h.sp; omega⟩
theorem Sq.dvr {p : Int} {g : LP p} {s : Int → Int} {b : Nat} (h : Sq g s b) : Dvr g (My.sp g).toNat := h.lr.nm.dvr h.pr h.lr.ne
theorem Sq.sp0 {p : Int} {g : LP p} {s : Int → Int} {b : Nat} (h : Sq g s b) : 0 ≤ My.sp g := sp_nonneg (isPr_pos h.pr).1 h.lr.ne
theorem Sq.nt {p : Int} {g : LP p} {s : Int → Int} {b : Nat} (h : Sq g s b) : nt g ≤ b + 1 := by
  have := (h.lr.nm.bd (isPr_pos h.pr).1).nt (isPr_pos h.pr).1
  have := h.sp
  have := h.sp0
  omega
theorem zip_maps {α : Type} (f g : α → D) (l : List α) : zipD (l.map f) (l.map g) = l.map fun a => D.tup [f a, g a] := by
  unfold zipD
  induction l with
  | nil => rfl
  | cons a l ih => rw [List.map_cons, List.map_cons, List.zip_cons_cons, List.map_cons, ih]; rfl
theorem seq_cases {d : D} {l : List D} (h : seqD d = some l) : d = .lst l ∨ d = .tup l ∨ d = .rol l := by
  cases d with
  | lst l' => cases h; exact .inl rfl
  | tup l' => cases h; exact .inr (.inl rfl)
  | rol l' => cases h; exact .inr (.inr rfl)
  | _ => cases h
def fr (s : Int → Int) (n : Nat) : List Int := (List.range n).map fun (i : Nat) => s (0 + (i : Int))
def tyOk (d : D) : Prop := ∃ t, tyD d = some t ∧ ∀ c, t = .own c → c ∈ CS
def F_Sequence___eq__ : DF := fun _ ds n q _ => ∃ p, ∃ g : LP p, ∃ s : Int → Int, Sq g s 1000 ∧ ((∃ p', ∃ g' : LP p', ∃ s' : Int → Int, ds = [so g s, so g' s'] ∧ Sq g' s' 1000 ∧ ∀ b : Bool, (b = true ↔ (p = p' ∧ s = s')) → q (.bl b) n) ∨ ∃ d t, ds = [so g s, d] ∧ tyD d = some t ∧ (∀ c, t = .own c → c ∈ CS) ∧ t ≠ .own "Sequence" ∧ q (.bl false) n)
def sadd (p : Int) (s t : Int → Int) : Int → Int := fun k => (s k + t k) % p
def smul (p : Int) (i : Int) (s : Int → Int) : Int → Int := fun k => (i * s k) % p
theorem IsLr.sg {p : Int} {g : LP p} {s : Int → Int} (h : IsLr g s) (t : Int) : IsLr g (My.sg t s) := by
  refine ⟨h.ne, h.nm, h.ru.sg t, fun f hf => h.le f ?_⟩
  have := hf.sg (-t)
  have e : My.sg (-t) (My.sg t s) = s := by funext k; show s (k + -t + t) = s k; congr 1; omega
  rwa [e] at this
theorem Sq.sg {p : Int} {g : LP p} {s : Int → Int} {b : Nat} (h : Sq g s b) (t : Int) : Sq g (My.sg t s) b := ⟨h.pr, h.dg.sg t, h.lr.sg t, h.sp⟩
theorem IsLr.sp_le {p : Int} (hp : isPr p = true) {g f : LP p} {s : Int → Int} (h : IsLr g s) (hf : f ≠ 0) (r : Ru f s) : My.sp g ≤ My.sp f := (sp_dv hp (h.le f r) hf).2
theorem ac_sadd {p : Int} (x : LP p) (s t : Int → Int) (k : Int) : ac x (sadd p s t) k = (ac x s k + ac x t k) % p := by
  have := ac_lin x 1 s t k
  rw [Int.one_mul] at this
  rw [← this]
  congr 1
  funext j
  unfold sadd
  rw [Int.one_mul]
theorem ac_fun0 {p : Int} (x : LP p) (k : Int) : ac x (fun _ => 0) k = 0 := by
  have := ac_lin x 0 (fun _ => 0) (fun _ => 0) k
  have e : (fun _ : Int => ((0 : Int) * 0 + 0) % p) = fun _ => 0 := by funext j; rw [Int.zero_mul, Int.zero_add, Int.zero_emod]
  have z : Ru x (ac (0 : LP p) (fun _ => 0)) := (show Ru (0 : LP p) (fun _ => 0) from fun k => ac_zero _ _).ac 0 |>.mul 0 |> fun _ => by
    intro k
    rw [← ac_mul, show x * 0 = (0 : LP p) by grind, ac_zero]
  have e2 : ac (0 : LP p) (fun _ => 0) = fun _ => (0 : Int) := by funext j; rw [ac_zero]
  rw [e2] at z
  exact z k
theorem ac_smul {p : Int} (x : LP p) (i : Int) (s : Int → Int) (k : Int) : ac x (smul p i s) k = (i * ac x s k) % p := by
  have := ac_lin x i s (fun _ => 0) k
  rw [ac_fun0, Int.add_zero] at this
  rw [← this]
  congr 1
  funext j
  unfold smul
  rw [Int.add_zero]
theorem Dg.sadd {p : Int} (hp : 0 < p) (s t : Int → Int) : Dg p (My.sadd p s t) := fun k => ⟨Int.emod_nonneg _ (by omega), Int.emod_lt_of_pos _ hp⟩
theorem Dg.smul {p : Int} (hp : 0 < p) (i : Int) (s : Int → Int) : Dg p (My.smul p i s) := fun k => ⟨Int.emod_nonneg _ (by omega), Int.emod_lt_of_pos _ hp⟩
theorem Dg.fun0 {p : Int} (hp : 0 < p) : Dg p (fun _ => 0) := fun k => ⟨Int.le_refl 0, hp⟩
theorem Ru.sadd {p : Int} {x : LP p} {s t : Int → Int} (h : Ru x s) (h' : Ru x t) : Ru x (My.sadd p s t) := fun k => by rw [ac_sadd, h, h']; exact Int.zero_emod p
theorem Ru.smul {p : Int} {x : LP p} {s : Int → Int} (h : Ru x s) (i : Int) : Ru x (My.smul p i s) := fun k => by rw [ac_smul, h, Int.mul_zero]; exact Int.zero_emod p
theorem Ru.fun0 {p : Int} (x : LP p) : Ru x (fun _ => 0) := fun k => ac_fun0 x k
end My

namespace My
open PySem PySem.Spec L2 DL
section
variable {p : Int}
noncomputable def sh (z : LP p) : LP p := mono p (-lo z) 1 * z
end
end My

namespace My
open PySem PySem.Spec L2 DL
end My

namespace My
open PySem PySem.Spec L2 DL
section
variable {p : Int} {g h : LP p} {s t : Int → Int} {a b : Nat} {W : Wd} {n : Nat} {q : D → Nat → Prop} {xx : DL.Xn → Nat → Prop}
theorem Sq.of {b : Nat} (hp : isPr p = true) (hd : Dg p s) (hl : IsLr g s) {f : LP p} (hf : f ≠ 0) (r : Ru f s) (l : My.sp f ≤ b) : Sq g s b := ⟨hp, hd, hl, by have := hl.sp_le hp hf r; omega⟩
end
end My

namespace My
open PySem PySem.Spec L2 DL
section
variable {p : Int}
noncomputable def rowL (r : List (LP p)) : D := .lst (r.map fo)
noncomputable def rowT (r : List (LP p)) : D := .tup (r.map fo)
noncomputable def tbf (p : Int) (w : Nat) (R : List (List (LP p))) : List (Str × D) := [("prime", .int p), ("width", .int (w : Int)), ("kept", .lst (R.map rowT))]
noncomputable def tb (w : Nat) (R : List (List (LP p))) : D := .obj "Table" (tbf p w R)
theorem lkT1 (w : Nat) (R : List (List (LP p))) : List.lookup ("prime" : Str) (tbf p w R) = some (.int p) := rfl
theorem lkT2 (w : Nat) (R : List (List (LP p))) : List.lookup ("width" : Str) (tbf p w R) = some (.int (w : Int)) := rfl
theorem lkT3 (w : Nat) (R : List (List (LP p))) : List.lookup ("kept" : Str) (tbf p w R) = some (.lst (R.map rowT)) := rfl
def Rws (w a : Nat) (R : List (List (LP p))) : Prop := ∀ r ∈ R, r.length = w ∧ ∀ x ∈ r, Nb x a
end
theorem enum_map {α : Type} (f : α → D) (z : α) (L : List α) : enumD (L.map f) = (List.range L.length).map fun (i : Nat) => D.tup [.int (i : Int), f (L.getD i z)] := by
  unfold enumD
  rw [List.length_map]
  refine List.map_congr_left fun i hi => ?_
  rw [List.mem_range] at hi
  rw [List.getD_eq_getElem?_getD, List.getElem?_map, List.getD_eq_getElem?_getD, List.getElem?_eq_getElem hi]
  rfl
theorem getD_mem {α : Type} {z : α} {L : List α} {i : Nat} (h : i < L.length) : L.getD i z ∈ L := by
  rw [List.getD_eq_getElem?_getD, List.getElem?_eq_getElem h, Option.getD_some]
  exact List.getElem_mem h
theorem set_tbf (a b c : D) : setF "kept" c (setF "width" b (setF "prime" a [])) = ([("prime", a), ("width", b), ("kept", c)] : List (Str × D)) := rfl
theorem tyOk_seq {d : D} {l : List D} (h : seqD d = some l) : tyOk d := by
  rcases seq_cases h with rfl | rfl | rfl <;> exact ⟨_, rfl, fun c e => nomatch e⟩
def RwD {p : Int} (Z : List (D × List (LP p))) (w : Nat) : Prop := ∀ z ∈ Z, seqD z.1 = some (z.2.map fo) ∧ z.2.length = w
theorem sh_trmsL : ∀ ts us : Tm, ShL (ts.map trm) (us.map trm)
  | [], _ => by unfold List.map ShL; trivial
  | _ :: _, [] => by unfold List.map ShL; trivial
  | t :: ts, u :: us => by
    rw [List.map_cons, List.map_cons, ShL]
    exact ⟨by simp [trm, Sh, ShL], sh_trmsL ts us⟩
theorem sh_kvpK : ∀ ts us : Tm, ShK (ts.map kvp) (us.map kvp)
  | [], _ => by unfold List.map ShK; trivial
  | _ :: _, [] => by unfold List.map ShK; trivial
  | t :: ts, u :: us => by
    rw [List.map_cons, List.map_cons, kvp, kvp, ShK]
    refine ⟨?_, sh_kvpK ts us⟩
    unfold Sh
    trivial
theorem sh_fo {p p' : Int} (x : LP p) (y : LP p') : Sh (fo x) (fo y) := by
  unfold fo fob flt
  simp only [Sh, ShF, true_and, and_true]
  exact ⟨sh_trmsL _ _, sh_kvpK _ _⟩
theorem pure_fo {p p' : Int} {x : LP p} {y : LP p'} (hx : nt x < 1000000) (hy : nt y < 1000000) : Pure2 F_Filter___eq__ (fo x) (fo y) (decide (p = p' ∧ can x = can y)) := fun W n q xx h => ⟨p, can x, p', can y, rfl, hx, hy, h⟩
theorem allB_iff {b : Nat → Bool} : ∀ (k i : Nat), allB b i k = true ↔ ∀ j, i ≤ j → j < i + k → b j = true
  | 0, i => ⟨fun _ j h1 h2 => by omega, fun _ => rfl⟩
  | k + 1, i => by
    rw [allB, Bool.and_eq_true_iff, allB_iff k (i + 1)]
    constructor
    · rintro ⟨h1, h2⟩ j l1 l2
      by_cases e : j = i
      · rw [e]; exact h1
      · exact h2 j (by omega) (by omega)
    · exact fun h => ⟨h i (Nat.le_refl i) (by omega), fun j l1 l2 => h j (by omega) (by omega)⟩
abbrev QF : Str → D → D → Bool → Prop := fun c' u v r => c' = "Filter" ∧ Pure2 F_Filter___eq__ u v r
theorem eqx_fo {p : Int} (hp : isPr p = true) {x y : LP p} {a : Nat} (hx : Nb x a) (hy : Nb y a) (ha : a ≤ 400000) (k : Nat) : EqX QF (k + 1) (fo x) (fo y) (decide (p = p ∧ can x = can y)) := by
  have n1 := hx.nt hp
  have n2 := hy.nt hp
  refine .inr (.inr (.inr (.inl ⟨"Filter", _, _, rfl, rfl, ⟨rfl, pure_fo (by omega) (by omega)⟩, sh_fo x y, fun h => ?_⟩)))
  have : can x = can y := by
    unfold fo fob flt at h
    injection h with _ h
    injection h with _ h
    injection h with h _
    injection h with _ h
    injection h with h
    refine List.map_inj_right (f := trm) (fun s t e => ?_) |>.mp h
    unfold trm at e
    injection e with e
    injection e with e1 e2
    injection e2 with e2 _
    injection e1 with e1
    injection e2 with e2
    exact Prod.ext e1 e2
  exact decide_eq_true ⟨rfl, this⟩
theorem eqx_row {p : Int} (hp : isPr p = true) {r r' : List (LP p)} {a : Nat} (hl : r.length = r'.length) (hr : ∀ x ∈ r, Nb x a) (hr' : ∀ x ∈ r', Nb x a) (ha : a ≤ 400000) (k : Nat) : ∃ c : Bool, (c = true ↔ r = r') ∧ EqX QF (k + 2) (rowT r) (rowT r') c ∧ EqX QF (k + 2) (rowL r) (rowL r') c := by
  have hp0 := isPr_pos hp
  let b : Nat → Bool := fun i => decide (p = p ∧ can (r.getD i 0) = can (r'.getD i 0))
  have hb : ∀ i x y, (r.map fo)[i]? = some x → (r'.map fo)[i]? = some y → EqX QF (k + 1) x y (b i) := fun i x y h1 h2 => by
    rw [List.getElem?_map] at h1 h2
    obtain ⟨u, eu, rfl⟩ := Option.map_eq_some_iff.mp h1
    obtain ⟨v, ev, rfl⟩ := Option.map_eq_some_iff.mp h2
    have e1 : r.getD i 0 = u := by rw [List.getD_eq_getElem?_getD, eu]; rfl
    have e2 : r'.getD i 0 = v := by rw [List.getD_eq_getElem?_getD, ev]; rfl
    show EqX QF (k + 1) (fo u) (fo v) (decide (p = p ∧ can (r.getD i 0) = can (r'.getD i 0)))
    rw [e1, e2]
    exact eqx_fo hp (hr u (List.mem_of_getElem? eu)) (hr' v (List.mem_of_getElem? ev)) ha k
  refine ⟨allB b 0 r.length, ?_, .inr (.inl ⟨r.map fo, r'.map fo, .inr ⟨rfl, rfl⟩, by rw [List.length_map, List.length_map, hl], b, by rw [List.length_map], hb⟩), .inr (.inl ⟨r.map fo, r'.map fo, .inl ⟨rfl, rfl⟩, by rw [List.length_map, List.length_map, hl], b, by rw [List.length_map], hb⟩)⟩
  rw [allB_iff]
  constructor
  · intro h
    refine List.ext_getElem hl fun i h1 h2 => ?_
    have := of_decide_eq_true (h i (Nat.zero_le i) (by omega))
    rw [List.getD_eq_getElem?_getD, List.getD_eq_getElem?_getD, List.getElem?_eq_getElem h1, List.getElem?_eq_getElem h2] at this
    exact can_inj hp0.1 this.2
  · rintro rfl j _ _
    exact decide_eq_true ⟨rfl, rfl⟩
theorem eqx_rows {p : Int} (hp : isPr p = true) {R R' : List (List (LP p))} {w a : Nat} (hR : Rws w a R) (hR' : Rws w a R') (ha : a ≤ 400000) : ∃ c : Bool, (c = true ↔ R = R') ∧ EqX QF 4 (.lst (R.map rowT)) (.lst (R'.map rowT)) c := by
  by_cases hl : R.length = R'.length
  · have ch : ∀ i : Nat, ∃ c : Bool, i < R.length → (c = true ↔ R.getD i [] = R'.getD i []) ∧ EqX QF 3 (rowT (R.getD i [])) (rowT (R'.getD i [])) c := fun i => by
      by_cases hi : i < R.length
      · have m1 := hR _ (getD_mem (z := []) hi)
        have m2 := hR' _ (getD_mem (z := []) (show i < R'.length by omega))
        obtain ⟨c, h1, h2, _⟩ := eqx_row hp (m1.1.trans m2.1.symm) m1.2 m2.2 ha 1
        exact ⟨c, fun _ => ⟨h1, h2⟩⟩
      · exact ⟨true, fun h => absurd h hi⟩
    let b : Nat → Bool := fun i => Classical.choose (ch i)
    have hb : ∀ i, i < R.length → (b i = true ↔ R.getD i [] = R'.getD i []) ∧ EqX QF 3 (rowT (R.getD i [])) (rowT (R'.getD i [])) (b i) := fun i => Classical.choose_spec (ch i)
    refine ⟨allB b 0 R.length, ?_, .inr (.inl ⟨_, _, .inl ⟨rfl, rfl⟩, by rw [List.length_map, List.length_map, hl], b, by rw [List.length_map], fun i x y h1 h2 => ?_⟩)⟩
    · rw [allB_iff]
      constructor
      · intro h
        refine List.ext_getElem hl fun i h1 h2 => ?_
        have := (hb i h1).1.mp (h i (Nat.zero_le i) (by omega))
        rwa [List.getD_eq_getElem?_getD, List.getD_eq_getElem?_getD, List.getElem?_eq_getElem h1, List.getElem?_eq_getElem h2] at this
      · rintro rfl j _ hj
        exact (hb j (by omega)).1.mpr rfl
    · rw [List.getElem?_map] at h1 h2
      obtain ⟨u, eu, rfl⟩ := Option.map_eq_some_iff.mp h1
      obtain ⟨v, ev, rfl⟩ := Option.map_eq_some_iff.mp h2
      have hi : i < R.length := (List.getElem?_eq_some_iff.mp eu).1
      have := (hb i hi).2
      rwa [List.getD_eq_getElem?_getD, List.getD_eq_getElem?_getD, eu, ev] at this
  · exact ⟨false, ⟨(fun h => nomatch h), fun h => absurd (congrArg List.length h) hl⟩, .inr (.inr (.inl ⟨_, _, rfl, rfl, by rw [List.length_map, List.length_map]; exact hl, rfl⟩))⟩
theorem nb0 {p : Int} (c : Nat) : Nb (0 : LP p) c := .zero _ _
def BadE (p : Int) (x : D) : Prop := (tyOk x ∧ ∀ c fs, x ≠ .obj c fs) ∨ ∃ (p' : Int) (y : LP p'), p' ≠ p ∧ x = fo y
def BadEl (p : Int) (l : List D) : Prop := l.length < 1000000 ∧ (∀ x ∈ l, (∃ y : LP p, x = fo y) ∨ BadE p x) ∧ ∃ x ∈ l, BadE p x
open Classical in
noncomputable def isF (p : Int) (x : D) : Bool := decide (∃ y : LP p, x = fo y)
def F_is_row : DF := fun _ ds n q _ => ∃ (p : Int) (w : Int) (d : D), ds = [.int p, .int w, d] ∧ tyOk d ∧ ((seqD d = none ∧ q (.bl false) n) ∨ (∃ l, seqD d = some l ∧ ((l.length : Int) ≠ w ∨ BadEl p l) ∧ q (.bl false) n) ∨ ∃ r : List (LP p), seqD d = some (r.map fo) ∧ (r.length : Int) = w ∧ r.length < 1000000 ∧ q (.bl true) n)
def F_Table___init__ : DFI := fun _ ds n q _ => ∃ (p : Int) (w : Nat) (d : D) (Z : List (D × List (LP p))), ds = [.int p, .int w, d] ∧ isPr p = true ∧ 0 < w ∧ w ≤ 1000 ∧ seqD d = some (Z.map (·.1)) ∧ Z.length < 1000000 ∧ RwD Z w ∧ q (tbf p w (Z.map (·.2))) n
def F_Table___len__ : DF := fun _ ds n q _ => ∃ (p : Int) (w : Nat) (R : List (List (LP p))), ds = [tb w R] ∧ q (.int R.length) n
def F_Table___eq__ : DF := fun _ ds n q _ => ∃ (p : Int) (w w' : Nat) (R R' : List (List (LP p))), ds = [tb w R, tb w' R'] ∧ isPr p = true ∧ Rws w 400000 R ∧ Rws w' 400000 R' ∧ ∀ c : Bool, (c = true ↔ (w = w' ∧ R = R')) → q (.bl c) n
theorem all_yesB {α : Type} : ∀ L : List α, boolsD (L.map fun _ => D.bl true) = some (L.map fun _ => true)
  | [] => rfl
  | a :: L => by rw [List.map_cons, boolsD, all_yesB L]; rfl
theorem all_yesA {α : Type} (L : List α) : (L.map fun _ => true).all id = true := by
  rw [List.all_map]; exact List.all_eq_true.mpr fun _ _ => rfl
abbrev QS : Str → D → D → Bool → Prop := fun c' u v r => c' = "Sequence" ∧ Pure2 F_Sequence___eq__ u v r
end My

namespace My
open PySem PySem.Spec L2 DL
section
variable {p : Int}
def vec (r : List (LP p)) : Vc p := fun i => r.getD i 0
def vs (R : List (List (LP p))) : List (Vc p) := R.map vec
theorem vs_app (R S : List (List (LP p))) : vs (R ++ S) = vs R ++ vs S := List.map_append
theorem mem_vs {R : List (List (LP p))} {r : List (LP p)} (h : r ∈ R) : vec r ∈ vs R := List.mem_map.mpr ⟨r, h, rfl⟩
def lessR (r : List (LP p)) (c : LP p) (o : List (LP p)) : List (LP p) := List.zipWith (fun e x => e - c * x) r o
theorem lessR_len {r o : List (LP p)} (c : LP p) (h : r.length = o.length) : (lessR r c o).length = o.length := by
  unfold lessR; rw [List.length_zipWith]; omega
theorem vec_lt {r : List (LP p)} {i : Nat} (h : i < r.length) : vec r i = r[i] := by
  unfold vec; rw [List.getD_eq_getElem?_getD, List.getElem?_eq_getElem h]; rfl
theorem vec_ge {r : List (LP p)} {i : Nat} (h : r.length ≤ i) : vec r i = 0 := by
  unfold vec; rw [List.getD_eq_getElem?_getD, List.getElem?_eq_none h]; rfl
theorem vec_inj {r o : List (LP p)} (h : r.length = o.length) (e : vec r = vec o) : r = o :=
  List.ext_getElem h fun i h1 h2 => by rw [← vec_lt h1, ← vec_lt h2, e]
theorem lessR_at {r o : List (LP p)} (c : LP p) (h : r.length = o.length) (i : Nat) : vec (lessR r c o) i = vec r i - c * vec o i := by
  by_cases hi : i < o.length
  · rw [vec_lt (by rw [lessR_len c h]; exact hi), vec_lt (h ▸ hi), vec_lt hi]
    unfold lessR
    rw [List.getElem_zipWith]
  · rw [vec_ge (by rw [lessR_len c h]; omega), vec_ge (by omega), vec_ge (by omega)]; grind
theorem mulv_at (c : LP p) (r : List (LP p)) (i : Nat) : vec (r.map (c * ·)) i = c * vec r i := by
  by_cases hi : i < r.length
  · rw [vec_lt (by rw [List.length_map]; exact hi), vec_lt hi, List.getElem_map]
  · rw [vec_ge (by rw [List.length_map]; omega), vec_ge (by omega)]; grind
theorem nb_vec {r : List (LP p)} {a : Nat} (h : ∀ x ∈ r, Nb x a) (i : Nat) : Nb (vec r i) a := by
  by_cases hi : i < r.length
  · rw [vec_lt hi]; exact h _ (List.getElem_mem hi)
  · rw [vec_ge (by omega)]; exact nb0 a
theorem vec_nb {r : List (LP p)} {a : Nat} (h : ∀ i, Nb (vec r i) a) : ∀ x ∈ r, Nb x a := fun x hx => by
  obtain ⟨i, hi, rfl⟩ := List.mem_iff_getElem.mp hx
  rw [← vec_lt hi]; exact h i
theorem lessR_nb (hp : isPr p = true) {r o : List (LP p)} {c : LP p} {a b e : Nat} (h : r.length = o.length) (hr : ∀ x ∈ r, Nb x e) (ho : ∀ x ∈ o, Nb x b) (hc : Nb c a) (l : e ≤ a + b) : ∀ x ∈ lessR r c o, Nb x (a + b) := vec_nb fun i => by
  rw [lessR_at c h]
  exact Bd.sub ((nb_vec hr i).le l) (hc.mul hp (nb_vec ho i))
open Classical in
noncomputable def quo (x g : LP p) : LP p := if h : ∃ q, IsQuo x g q then Classical.choose h else 0
theorem quo_is (hp : isPr p = true) {g : LP p} (g0 : g ≠ 0) (x : LP p) : IsQuo x g (quo x g) := by
  have h : ∃ q, IsQuo x g q := by
    obtain ⟨r, ⟨q, e⟩, b⟩ := exists_mod hp g0 x
    exact ⟨q, r, e, b⟩
  unfold quo
  rw [dif_pos h]
  exact Classical.choose_spec h
theorem quo_eq (hp : isPr p = true) {x g q : LP p} (g0 : g ≠ 0) (h : IsQuo x g q) : q = quo x g := quo_uniq hp g0 h (quo_is hp g0 x)
theorem quo_rd (hp : isPr p = true) {g : LP p} (g0 : g ≠ 0) (x : LP p) : Rd (x - quo x g * g) g := by
  obtain ⟨r, e, b⟩ := quo_is hp g0 x
  have : x - quo x g * g = r := by grind
  rw [this]; exact b
theorem quo_bd (hp : isPr p = true) {x g : LP p} {α β γ δ : Int} (g0 : g ≠ 0) (hx : Bd x α β) (hg : Bd g γ δ) (l : α ≤ 0) : Bd (quo x g) (α - (δ - sp g)) (max β (sp g - 1) - (γ + sp g)) := by
  have hp0 := (isPr_pos hp).1
  obtain ⟨r, e, b⟩ := quo_is hp g0 x
  by_cases q0 : quo x g = 0
  · rw [q0]; exact .zero _ _
  have e2 : quo x g * g = x - r := by grind
  have n0 := mul_ne hp q0 g0
  have b2 : Bd (quo x g * g) α (max β (sp g - 1)) := by
    rw [e2]; exact Bd.sub (hx.mono (by omega) (by omega)) (b.mono (by omega) (by omega))
  have h1 := Bd.lo hp0 b2 n0
  have h2 := Bd.hi hp0 b2 n0
  rw [lo_mul hp q0 g0] at h1
  rw [hi_mul hp q0 g0] at h2
  have h3 := Bd.lo hp0 hg g0
  have h4 := Bd.hi hp0 hg g0
  have h5 : sp g = hi g - lo g := rfl
  exact (bd_hl hp0 q0).mono (by omega) (by omega)
open Classical in
noncomputable def nzr (c : Nat) (R : List (List (LP p))) : List (List (LP p)) := R.filter fun r => decide (vec r c ≠ 0)
open Classical in
noncomputable def zrr (c : Nat) (R : List (List (LP p))) : List (List (LP p)) := R.filter fun r => decide (vec r c = 0)
open Classical in
theorem nzr_all {c : Nat} {R : List (List (LP p))} (h : ∀ r ∈ R, vec r c ≠ 0) : nzr c R = R := List.filter_eq_self.mpr fun r hr => decide_eq_true (h r hr)
open Classical in
theorem zrr_none {c : Nat} {R : List (List (LP p))} (h : ∀ r ∈ R, vec r c ≠ 0) : zrr c R = [] := List.filter_eq_nil_iff.mpr fun r hr z => h r hr (of_decide_eq_true z)
open Classical in
theorem nzr_none {c : Nat} {R : List (List (LP p))} (h : ∀ r ∈ R, vec r c = 0) : nzr c R = [] := List.filter_eq_nil_iff.mpr fun r hr z => of_decide_eq_true z (h r hr)
open Classical in
theorem zrr_all {c : Nat} {R : List (List (LP p))} (h : ∀ r ∈ R, vec r c = 0) : zrr c R = R := List.filter_eq_self.mpr fun r hr => decide_eq_true (h r hr)
open Classical in
theorem nzr_nz {c : Nat} {R : List (List (LP p))} : ∀ r ∈ nzr c R, vec r c ≠ 0 := fun r hr => of_decide_eq_true (List.mem_filter.mp hr).2
def Trn (c : Nat) (R S L : List (List (LP p))) : Prop := (S = [] ∧ L = R) ∨ 2 ≤ (nzr c R).length ∨ (S = zrr c R ∧ L = nzr c R)
theorem Trn.filt {c : Nat} {R S L : List (List (LP p))} (h : Trn c R S L) : Trn c R (S ++ zrr c L) (nzr c L) := by
  rcases h with ⟨rfl, rfl⟩ | h | ⟨rfl, rfl⟩
  · exact .inr (.inr ⟨rfl, rfl⟩)
  · exact .inr (.inl h)
  · exact .inr (.inr ⟨by rw [zrr_none nzr_nz, List.append_nil], nzr_all nzr_nz⟩)
theorem Trn.step {c : Nat} {R S L : List (List (LP p))} (h : Trn c R S L) (nz : ∀ r ∈ L, vec r c ≠ 0) (l2 : 2 ≤ L.length) : 2 ≤ (nzr c R).length := by
  rcases h with ⟨rfl, rfl⟩ | h | ⟨rfl, rfl⟩
  · rw [nzr_all nz]; exact l2
  · exact h
  · exact l2
theorem Trn.one {c : Nat} {R S : List (List (LP p))} {P : List (LP p)} (h : Trn c R S [P]) (P0 : vec P c ≠ 0) : 2 ≤ (nzr c R).length ∨ (S = zrr c R ∧ nzr c R = [P]) := by
  rcases h with ⟨rfl, e⟩ | h | ⟨rfl, e⟩
  · have hp : ∀ r ∈ R, vec r c ≠ 0 := fun r hr => by rw [← e] at hr; rw [List.mem_singleton.mp hr]; exact P0
    exact .inr ⟨(zrr_none hp).symm, by rw [nzr_all hp, e]⟩
  · exact .inl h
  · exact .inr ⟨rfl, e.symm⟩
theorem Trn.nil {c : Nat} {R S : List (List (LP p))} (h : Trn c R S []) : 2 ≤ (nzr c R).length ∨ (S = zrr c R ∧ nzr c R = []) := by
  rcases h with ⟨rfl, e⟩ | h | ⟨rfl, e⟩
  · exact .inr ⟨by rw [← e]; rfl, by rw [← e]; rfl⟩
  · exact .inl h
  · exact .inr ⟨rfl, e.symm⟩
inductive HdR (c : Nat) : List (List (LP p)) → List (List (LP p)) → Option (List (LP p)) → List (List (LP p)) → Prop
  | none {S L : List (List (LP p))} (h : nzr c L = []) : HdR c S L none (S ++ zrr c L)
  | one {S L : List (List (LP p))} {P : List (LP p)} (h : nzr c L = [P]) : HdR c S L (some (P.map (quo (nrm (vec P c)) (vec P c) * ·))) (S ++ zrr c L)
  | step {S L X Y o : List (List (LP p))} {P : List (LP p)} {h : Option (List (LP p))} (e : nzr c L = X ++ P :: Y) (ne : X ++ Y ≠ []) (h1 : ∀ r ∈ X, sp (vec P c) < sp (vec r c)) (h2 : ∀ r ∈ Y, sp (vec P c) ≤ sp (vec r c)) (nx : HdR c (S ++ zrr c L) (P :: (X ++ Y).map fun r => lessR r (quo (vec r c) (vec P c)) P) h o) : HdR c S L h o
theorem first_min {α : Type} {f : α → Int} {X Y : List α} {P : α} : ∀ {X' Y' : List α} {P' : α}, X ++ P :: Y = X' ++ P' :: Y' → (∀ r ∈ X, f P < f r) → (∀ r ∈ Y, f P ≤ f r) → (∀ r ∈ X', f P' < f r) → (∀ r ∈ Y', f P' ≤ f r) → X = X' ∧ P = P' ∧ Y = Y' := by
  induction X with
  | nil =>
    intro X' Y' P' e h1 h2 h3 h4
    cases X' with
    | nil => cases e; exact ⟨rfl, rfl, rfl⟩
    | cons x X' =>
      cases e
      have a1 := h3 _ (List.mem_cons_self ..)
      have a2 := h2 P' (by simp)
      omega
  | cons y X ih =>
    intro X' Y' P' e h1 h2 h3 h4
    cases X' with
    | nil =>
      cases e
      have a1 := h1 _ (List.mem_cons_self ..)
      have a2 := h4 P (by simp)
      omega
    | cons x X' =>
      rw [List.cons_append, List.cons_append] at e
      obtain ⟨e1, e2⟩ := List.cons.inj e
      subst e1
      obtain ⟨rfl, rfl, rfl⟩ := ih e2 (fun r hr => h1 r (List.mem_cons_of_mem _ hr)) h2 (fun r hr => h3 r (List.mem_cons_of_mem _ hr)) h4
      exact ⟨rfl, rfl, rfl⟩
theorem HdR.uniq {c : Nat} {S L o o' : List (List (LP p))} {h h' : Option (List (LP p))} (a : HdR c S L h o) (b : HdR c S L h' o') : h = h' ∧ o = o' := by
  induction a with
  | none e =>
    cases b with
    | none e' => exact ⟨rfl, rfl⟩
    | one e' => rw [e] at e'; cases e'
    | step e' => rw [e] at e'; simp at e'
  | one e =>
    cases b with
    | none e' => rw [e] at e'; cases e'
    | one e' => rw [e] at e'; cases e'; exact ⟨rfl, rfl⟩
    | step e' ne =>
      rw [e] at e'
      have := congrArg List.length e'
      simp at this
      exact absurd (List.append_eq_nil_iff.mpr ⟨List.length_eq_zero_iff.mp (by omega), List.length_eq_zero_iff.mp (by omega)⟩) ne
  | step e ne h1 h2 nx ih =>
    cases b with
    | none e' => rw [e] at e'; simp at e'
    | one e' =>
      rw [e] at e'
      have := congrArg List.length e'
      simp at this
      exact absurd (List.append_eq_nil_iff.mpr ⟨List.length_eq_zero_iff.mp (by omega), List.length_eq_zero_iff.mp (by omega)⟩) ne
    | step e' ne' h1' h2' nx' =>
      obtain ⟨rfl, rfl, rfl⟩ := first_min (f := fun r => sp (vec r c)) (e.symm.trans e') h1 h2 h1' h2'
      exact ih nx'
theorem HdR.filt {c : Nat} {S L o : List (List (LP p))} {h : Option (List (LP p))} (a : HdR c (S ++ zrr c L) (nzr c L) h o) : HdR c S L h o := by
  have e1 : nzr c (nzr c L) = nzr c L := nzr_all nzr_nz
  have e2 : zrr c (nzr c L) = [] := zrr_none nzr_nz
  cases a with
  | none e => rw [e2, List.append_nil]; exact .none (by rw [← e1]; exact e)
  | one e => rw [e2, List.append_nil]; exact .one (by rw [← e1]; exact e)
  | step e ne h1 h2 nx =>
    rw [e2, List.append_nil] at nx
    exact .step (by rw [← e1]; exact e) ne h1 h2 nx
structure Hdd (c m b : Nat) (R : List (List (LP p))) (h : Option (List (LP p))) (S : List (List (LP p))) : Prop where
  same : Same (vs (h.toList ++ S)) (vs R)
  zero : ∀ r ∈ S, vec r c = 0
  head : ∀ g, h = some g → vec g c ≠ 0 ∧ Nrm (vec g c)
  rws : Rws m b (h.toList ++ S)
  len : (h.toList ++ S).length = R.length
  ex0 : nzr c R = [] → h = none ∧ S = zrr c R
  ex1 : ∀ g, nzr c R = [g] → Nrm (vec g c) → h = some g ∧ S = zrr c R
  run : HdR c [] R h S
def RwI (m : Nat) (l u : Int) (R : List (List (LP p))) : Prop := ∀ r ∈ R, r.length = m ∧ ∀ x ∈ r, Bd x (-l) u
theorem RwI.nb {m b : Nat} {l u : Int} {R : List (List (LP p))} (h : RwI m l u R) (h1 : l ≤ b) (h2 : u ≤ b) : Rws m b R := fun r hr => ⟨(h r hr).1, fun x hx => ((h r hr).2 x hx).mono (by omega) (by omega)⟩
theorem bd_vec {r : List (LP p)} {l u : Int} (h : ∀ x ∈ r, Bd x l u) (i : Nat) : Bd (vec r i) l u := by
  by_cases hi : i < r.length
  · rw [vec_lt hi]; exact h _ (List.getElem_mem hi)
  · rw [vec_ge (by omega)]; exact .zero _ _
theorem vec_bd {r : List (LP p)} {l u : Int} (h : ∀ i, Bd (vec r i) l u) : ∀ x ∈ r, Bd x l u := fun x hx => by
  obtain ⟨i, hi, rfl⟩ := List.mem_iff_getElem.mp hx
  rw [← vec_lt hi]; exact h i
theorem lessR_bd (hp : 0 < p) {r o : List (LP p)} {c : LP p} {α β γ δ ζ η α' β' : Int} (h : r.length = o.length) (hr : ∀ x ∈ r, Bd x α β) (ho : ∀ x ∈ o, Bd x γ δ) (hc : Bd c ζ η) (l1 : α' ≤ α) (l2 : α' ≤ ζ + γ) (l3 : β ≤ β') (l4 : η + δ ≤ β') : ∀ x ∈ lessR r c o, Bd x α' β' := vec_bd fun i => by
  rw [lessR_at c h]
  exact Bd.sub ((bd_vec hr i).mono l1 l3) ((Bd.mul hp hc (bd_vec ho i)).mono l2 l4)
theorem quo_bd' (hp : isPr p = true) {x g : LP p} {α β : Int} (g0 : g ≠ 0) (hx : Bd x α β) : Bd (quo x g) (min α 0 - lo g) (max β (sp g - 1) - (lo g + sp g)) := by
  have hp0 := (isPr_pos hp).1
  have h5 : sp g = hi g - lo g := rfl
  exact (quo_bd hp g0 (hx.mono (show min α 0 ≤ α by omega) (Int.le_refl β)) (bd_hl hp0 g0) (by omega)).mono (by omega) (by omega)
structure Lv (c m a k : Nat) (R S L : List (List (LP p))) : Prop where
  same : Same (vs (S ++ L)) (vs R)
  zero : ∀ r ∈ S, vec r c = 0
  len : S.length + L.length = R.length
  st : (Rws m a (S ++ L) ∧ k = 2 * a + 2) ∨ ∃ (l u l' u' γ s : Int) (P : List (LP p)) (O : List (List (LP p))), RwI m l u (S ++ L) ∧ (∀ x ∈ P, Bd x (-l') u') ∧ L = P :: O ∧ vec P c ≠ 0 ∧ lo (vec P c) = γ ∧ sp (vec P c) = s ∧ (∀ r ∈ O, Bd (vec r c) 0 (s - 1)) ∧ 0 ≤ l ∧ 0 ≤ u ∧ 0 ≤ l' ∧ 0 ≤ u' ∧ l + s + max (-γ) 0 ≤ 4 * a ∧ u + max (max (γ + s) (s - 1)) 0 ≤ 4 * a ∧ l' + max γ 0 ≤ 4 * a ∧ u' + max (-γ) 0 ≤ 4 * a ∧ s < k
  tr : Trn c R S L
  to : ∀ h o, HdR c S L h o → HdR c [] R h o
theorem Lv.init {c m a : Nat} {R : List (List (LP p))} (h : Rws m a R) : Lv c m a (2 * a + 2) R [] R :=
  ⟨by rw [List.nil_append]; exact .refl _, (fun r hr => nomatch hr), by simp, .inl ⟨by rw [List.nil_append]; exact h, rfl⟩, .inl ⟨rfl, rfl⟩, fun _ _ h => h⟩
theorem Lv.nb (hp : isPr p = true) {c m a k : Nat} {R S L : List (List (LP p))} (h : Lv c m a k R S L) : Rws m (4 * a) (S ++ L) := by
  rcases h.st with ⟨h1, _⟩ | ⟨l, u, l', u', γ, s, P, O, h1, hP, h2, h3, h4, h5, h6, h7, h8, h9, h10, h11, h12, h13, h14, h15⟩
  · exact fun r hr => ⟨(h1 r hr).1, fun x hx => ((h1 r hr).2 x hx).le (by omega)⟩
  · have s0 := sp_nonneg (isPr_pos hp).1 h3
    exact h1.nb (by omega) (by omega)
open Classical in
theorem Lv.filt {c m a k : Nat} {R S L S' L' : List (List (LP p))} (h : Lv c m a k R S L) (e1 : S' = S ++ L.filter fun r => decide (vec r c = 0)) (e2 : L' = L.filter fun r => decide (vec r c ≠ 0)) : Lv c m a k R S' L' ∧ ∀ r ∈ L', vec r c ≠ 0 := by
  subst e1 e2
  have mem : ∀ r, r ∈ (S ++ L.filter fun r => decide (vec r c = 0)) ++ (L.filter fun r => decide (vec r c ≠ 0)) ↔ r ∈ S ++ L := fun r => by
    simp only [List.mem_append, List.mem_filter, decide_eq_true_eq]
    by_cases z : vec r c = 0 <;> simp [z]
  have hm : ∀ A, Rws m A (S ++ L) → Rws m A ((S ++ L.filter fun r => decide (vec r c = 0)) ++ (L.filter fun r => decide (vec r c ≠ 0))) := fun A hA r hr => hA r ((mem r).mp hr)
  have hm' : ∀ l u, RwI m l u (S ++ L) → RwI m l u ((S ++ L.filter fun r => decide (vec r c = 0)) ++ (L.filter fun r => decide (vec r c ≠ 0))) := fun l u hA r hr => hA r ((mem r).mp hr)
  have hl : (L.filter fun r => decide (vec r c = 0)).length + (L.filter fun r => decide (vec r c ≠ 0)).length = L.length := by
    have : ∀ L : List (List (LP p)), (L.filter fun r => decide (vec r c = 0)).length + (L.filter fun r => decide (vec r c ≠ 0)).length = L.length := fun L => by
      induction L with
      | nil => rfl
      | cons r L ih => by_cases z : vec r c = 0 <;> simp [List.filter_cons, z] at ih ⊢ <;> omega
    exact this L
  refine ⟨⟨?_, fun r hr => ?_, ?_, ?_, h.tr.filt, fun _ _ hh => h.to _ _ (HdR.filt hh)⟩, fun r hr => of_decide_eq_true (List.mem_filter.mp hr).2⟩
  · refine Same.trans (.perm fun v => ?_) h.same
    unfold vs
    simp only [List.mem_map]
    exact ⟨fun ⟨r, a, b⟩ => ⟨r, (mem r).mp a, b⟩, fun ⟨r, a, b⟩ => ⟨r, (mem r).mpr a, b⟩⟩
  · rcases List.mem_append.mp hr with hr | hr
    · exact h.zero r hr
    · exact of_decide_eq_true (List.mem_filter.mp hr).2
  · have := h.len
    rw [List.length_append]; omega
  · rcases h.st with ⟨h1, h2⟩ | ⟨l, u, l', u', γ, s, P, O, h1, hP, h2, h3, h4, h5, h6, h7⟩
    · exact .inl ⟨hm _ h1, h2⟩
    · refine .inr ⟨l, u, l', u', γ, s, P, O.filter fun r => decide (vec r c ≠ 0), hm' _ _ h1, hP, ?_, h3, h4, h5, fun r hr => h6 r (List.mem_filter.mp hr).1, h7⟩
      rw [h2, List.filter_cons, if_pos (decide_eq_true h3)]
theorem Lv.step (hp : isPr p = true) {c m a k : Nat} {R S L X Y : List (List (LP p))} {P : List (LP p)} (h : Lv c m a (k + 1) R S L) (nz : ∀ r ∈ L, vec r c ≠ 0) (e : L = X ++ P :: Y) (l2 : 2 ≤ L.length) (mn : ∀ r ∈ L, sp (vec P c) ≤ sp (vec r c)) (mx : ∀ r ∈ X, sp (vec P c) < sp (vec r c)) : Lv c m a k R S (P :: (X ++ Y).map fun r => lessR r (quo (vec r c) (vec P c)) P) := by
  have hp0 := (isPr_pos hp).1
  have mP : P ∈ L := by rw [e]; simp
  have mO : ∀ r ∈ X ++ Y, r ∈ L := fun r hr => by rw [e]; simp only [List.mem_append, List.mem_cons] at hr ⊢; rcases hr with hr | hr <;> simp [hr]
  have mL : ∀ r ∈ L, r = P ∨ r ∈ X ++ Y := fun r hr => by
    rw [e] at hr
    simp only [List.mem_append, List.mem_cons] at hr ⊢
    rcases hr with hr | hr | hr <;> simp [hr]
  have P0 := nz P mP
  have len : ∀ r ∈ L, r.length = m := fun r hr => (h.nb hp r (List.mem_append_right _ hr)).1
  have lr : ∀ r ∈ X ++ Y, r.length = P.length := fun r hr => by rw [len r (mO r hr), len P mP]
  have ne : ∀ r ∈ X ++ Y, ∀ i, vec (lessR r (quo (vec r c) (vec P c)) P) i = vec r i - quo (vec r c) (vec P c) * vec P i := fun r hr i => lessR_at _ (lr r hr) i
  have rd : ∀ r ∈ (X ++ Y).map (fun r => lessR r (quo (vec r c) (vec P c)) P), Bd (vec r c) 0 (sp (vec P c) - 1) := fun r hr => by
    obtain ⟨t, ht, rfl⟩ := List.mem_map.mp hr
    rw [ne t ht]
    exact quo_rd hp P0 _
  have s0 := sp_nonneg hp0 P0
  have esp : sp (vec P c) = hi (vec P c) - lo (vec P c) := rfl
  refine ⟨?_, h.zero, ?_, ?_, .inr (.inl (h.tr.step nz l2)), fun h' o hh => h.to _ _ (.step (X := X) (Y := Y) (P := P) (by rw [nzr_all nz, e]) (fun z => by have z2 := congrArg List.length z; rw [e, List.length_append, List.length_cons] at l2; rw [List.length_append, List.length_nil] at z2; omega) mx (fun r hr => mn r (mO r (List.mem_append_right _ hr))) (by rw [zrr_none nz, List.append_nil]; exact hh))⟩
  · refine Same.trans (.of (fun v hv => ?_) fun v hv => ?_) h.same
    · obtain ⟨r, hr, rfl⟩ := List.mem_map.mp hv
      rcases List.mem_append.mp hr with hr | hr
      · exact .mem (mem_vs (List.mem_append_left _ hr))
      rcases List.mem_cons.mp hr with rfl | hr
      · exact .mem (mem_vs (List.mem_append_right _ mP))
      · obtain ⟨t, ht, rfl⟩ := List.mem_map.mp hr
        exact ((Cb.mem (mem_vs (List.mem_append_right _ (mO t ht)))).axmy _ (.mem (mem_vs (List.mem_append_right _ mP)))).congr fun i => ne t ht i
    · obtain ⟨r, hr, rfl⟩ := List.mem_map.mp hv
      rcases List.mem_append.mp hr with hr | hr
      · exact .mem (mem_vs (List.mem_append_left _ hr))
      have cP : Cb (vs (S ++ P :: (X ++ Y).map fun r => lessR r (quo (vec r c) (vec P c)) P)) (vec P) := .mem (mem_vs (by simp))
      rcases mL r hr with rfl | hr
      · exact cP
      · have c1 : Cb (vs (S ++ P :: (X ++ Y).map fun r => lessR r (quo (vec r c) (vec P c)) P)) (vec (lessR r (quo (vec r c) (vec P c)) P)) := .mem (mem_vs (List.mem_append_right _ (List.mem_cons_of_mem _ (List.mem_map.mpr ⟨r, hr, rfl⟩))))
        exact (c1.axpy (quo (vec r c) (vec P c)) cP).congr fun i => by rw [ne r hr]; grind
  · have := h.len
    rw [e] at this
    simp at this ⊢
    omega
  have rows : ∀ l u ζ η l2 u2 : Int, RwI m l u (S ++ L) → (∀ r ∈ X ++ Y, Bd (quo (vec r c) (vec P c)) ζ η) → l ≤ l2 → l - ζ ≤ l2 → u ≤ u2 → u + η ≤ u2 → RwI m l2 u2 (S ++ P :: (X ++ Y).map fun r => lessR r (quo (vec r c) (vec P c)) P) := fun l u ζ η l2 u2 hA hB i1 i2 i3 i4 r hr => by
    rcases List.mem_append.mp hr with hr | hr
    · have := hA r (List.mem_append_left _ hr)
      exact ⟨this.1, fun x hx => (this.2 x hx).mono (by omega) (by omega)⟩
    have hAP := hA P (List.mem_append_right _ mP)
    rcases List.mem_cons.mp hr with rfl | hr
    · exact ⟨hAP.1, fun x hx => (hAP.2 x hx).mono (by omega) (by omega)⟩
    · obtain ⟨t, ht, rfl⟩ := List.mem_map.mp hr
      have hAt := hA t (List.mem_append_right _ (mO t ht))
      exact ⟨by rw [lessR_len _ (lr t ht)]; exact hAP.1, lessR_bd hp0 (lr t ht) hAt.2 hAP.2 (hB t ht) (by omega) (by omega) (by omega) (by omega)⟩
  rcases h.st with ⟨h1, h2⟩ | ⟨l, u, l', u', γ, s, P', O, h1, hP', h2, h3, h4, h5, h6, h7, h8, h9, h10, h11, h12, h13, h14, h15⟩
  · have bP : Nb (vec P c) a := nb_vec (h1 P (List.mem_append_right _ mP)).2 c
    have b1 := Bd.lo hp0 bP P0
    have b2 := Bd.hi hp0 bP P0
    have hRI : RwI m a a (S ++ L) := fun r hr => ⟨(h1 r hr).1, fun x hx => (h1 r hr).2 x hx⟩
    refine .inr ⟨a + (a + lo (vec P c)), a + (max (a : Int) (sp (vec P c) - 1) - hi (vec P c)), a, a, lo (vec P c), sp (vec P c), P, _, rows a a (-(a : Int) - lo (vec P c)) (max (a : Int) (sp (vec P c) - 1) - hi (vec P c)) _ _ hRI (fun r hr => ?_) (by omega) (by omega) (by omega) (by omega), (hRI P (List.mem_append_right _ mP)).2, rfl, P0, rfl, rfl, rd, by omega, by omega, by omega, by omega, by omega, by omega, by omega, by omega, by omega⟩
    have br : Nb (vec r c) a := nb_vec (h1 r (List.mem_append_right _ (mO r hr))).2 c
    exact (quo_bd' hp P0 br).mono (by omega) (by omega)
  · have lt : sp (vec P c) < s ∧ Bd (vec P c) 0 (s - 1) := by
      cases O with
      | nil => rw [h2] at l2; simp at l2
      | cons t O =>
        have bt := h6 t (by simp)
        have t0 := nz t (by rw [h2]; simp)
        have m1 := mn t (by rw [h2]; simp)
        have b1 := Bd.lo hp0 bt t0
        have b2 := Bd.hi hp0 bt t0
        have b3 : sp (vec t c) = hi (vec t c) - lo (vec t c) := rfl
        have lt : sp (vec P c) < s := by omega
        refine ⟨lt, ?_⟩
        rw [h2] at mP
        rcases List.mem_cons.mp mP with eP | mP
        · rw [eP] at lt; omega
        · exact h6 P mP
    have b1 := Bd.lo hp0 lt.2 P0
    have b2 := Bd.hi hp0 lt.2 P0
    refine .inr ⟨l + (lo (vec P c) + max (-γ) 0), u + (max (max (γ + s) (s - 1)) 0 - hi (vec P c)), l, u, lo (vec P c), sp (vec P c), P, _, rows l u (min γ 0 - lo (vec P c)) (max (max (γ + s) (s - 1)) 0 - hi (vec P c)) _ _ h1 (fun r hr => ?_) (by omega) (by omega) (by omega) (by omega), (h1 P (List.mem_append_right _ mP)).2, rfl, P0, rfl, rfl, rd, by omega, by omega, by omega, by omega, by omega, by omega, by omega, by omega, by omega⟩
    have mr := mO r hr
    rw [h2] at mr
    rcases List.mem_cons.mp mr with er | mr
    · have h3' := bd_hl hp0 h3
      have e5 : sp (vec P' c) = hi (vec P' c) - lo (vec P' c) := rfl
      rw [er]
      exact (quo_bd' hp P0 h3').mono (by omega) (by omega)
    · exact (quo_bd' hp P0 (h6 r mr)).mono (by omega) (by omega)
theorem Lv.none (hp : isPr p = true) {c m a k : Nat} {R S : List (List (LP p))} (h : Lv c m a k R S []) : Hdd c m (4 * a) R none S := by
  have tr := h.tr.nil
  refine ⟨?_, h.zero, (fun g hg => nomatch hg), ?_, ?_, fun e => ?_, fun g e _ => ?_, h.to _ _ (by have nz : ∀ r ∈ ([] : List (List (LP p))), vec r c ≠ 0 := (fun r hr => nomatch hr); have := HdR.none (c := c) (S := S) (L := ([] : List (List (LP p)))) (nzr_all nz); rwa [zrr_none nz, List.append_nil] at this)⟩
  · have := h.same; rwa [List.append_nil] at this
  · have := h.nb hp
    rwa [List.append_nil] at this
  · have := h.len; simpa using this
  · rcases tr with l | ⟨l, _⟩
    · rw [e] at l; exact absurd l (by show ¬ 2 ≤ 0; decide)
    · exact ⟨rfl, l⟩
  · rcases tr with l | ⟨_, l⟩
    · rw [e] at l; exact absurd l (by show ¬ 2 ≤ 1; decide)
    · rw [e] at l; exact nomatch l
theorem nrm_quo (hp : isPr p = true) {g : LP p} (g0 : g ≠ 0) : ∃ v : LP p, quo (nrm g) g * v = 1 ∧ nrm g = quo (nrm g) g * g := by
  obtain ⟨u, v, e1, e2, e3⟩ := nrm_unit hp g0
  have : u = quo (nrm g) g := quo_eq hp g0 ⟨0, by rw [e2]; grind, .zero _ _⟩
  rw [← this]
  exact ⟨v, e1, e2⟩
theorem Lv.one (hp : isPr p = true) {c m a k : Nat} {R S : List (List (LP p))} {P : List (LP p)} (h : Lv c m a k R S [P]) (P0 : vec P c ≠ 0) : Hdd c m (4 * a) R (some (P.map (quo (nrm (vec P c)) (vec P c) * ·))) S ∧ Nb (quo (nrm (vec P c)) (vec P c)) (4 * a) := by
  have hp0 := (isPr_pos hp).1
  obtain ⟨v', e1, e2⟩ := nrm_quo hp P0
  have s0 := sp_nonneg hp0 P0
  have esp : sp (vec P c) = hi (vec P c) - lo (vec P c) := rfl
  have nb := (nrm_nrm hp (vec P c)).bd hp0
  rw [sp_nrm hp P0] at nb
  have qb : Bd (quo (nrm (vec P c)) (vec P c)) (-lo (vec P c)) (-lo (vec P c)) := (quo_bd' hp P0 nb).mono (by omega) (by omega)
  have bd : ∃ l' u' : Int, (∀ x ∈ P, Bd x (-l') u') ∧ 0 ≤ l' ∧ 0 ≤ u' ∧ l' + max (lo (vec P c)) 0 ≤ 4 * a ∧ u' + max (-lo (vec P c)) 0 ≤ 4 * a := by
    rcases h.st with ⟨h1, _⟩ | ⟨l, u, l', u', γ, s, P', O, h1, hP', h2, h3, h4, h5, h6, h7, h8, h9, h10, h11, h12, h13, h14, h15⟩
    · have bP : Nb (vec P c) a := nb_vec (h1 P (by simp)).2 c
      have b1 := Bd.lo hp0 bP P0
      exact ⟨a, a, fun x hx => (h1 P (by simp)).2 x hx, by omega, by omega, by omega, by omega⟩
    · injection h2 with h2 _
      rw [← h2] at hP' h4
      exact ⟨l', u', hP', h9, h10, by omega, by omega⟩
  obtain ⟨l', u', hP, i1, i2, i3, i4⟩ := bd
  have len := fun r (hr : r ∈ S ++ [P]) => (h.nb hp r hr).1
  have tr := h.tr.one P0
  have nzP : ∀ r ∈ [P], vec r c ≠ 0 := fun r hr => by rw [List.mem_singleton.mp hr]; exact P0
  refine ⟨⟨?_, h.zero, fun g hg => ?_, fun r hr => ?_, ?_, fun e => ?_, fun g e gn => ?_, h.to _ _ (by have := HdR.one (c := c) (S := S) (nzr_all nzP); rwa [zrr_none nzP, List.append_nil] at this)⟩, qb.mono (by omega) (by omega)⟩
  · refine Same.trans (.of (fun v hv => ?_) fun v hv => ?_) h.same
    · obtain ⟨r, hr, rfl⟩ := List.mem_map.mp hv
      rcases List.mem_append.mp hr with hr | hr
      · have : r = P.map (quo (nrm (vec P c)) (vec P c) * ·) := by simpa using hr
        rw [this]
        exact ((Cb.mem (mem_vs (R := S ++ [P]) (by simp))).mul _).congr fun i => mulv_at _ P i
      · exact .mem (mem_vs (List.mem_append_left _ hr))
    · obtain ⟨r, hr, rfl⟩ := List.mem_map.mp hv
      rcases List.mem_append.mp hr with hr | hr
      · exact .mem (mem_vs (List.mem_append_right _ hr))
      · have : r = P := by simpa using hr
        rw [this]
        refine ((Cb.mem (mem_vs (r := P.map (quo (nrm (vec P c)) (vec P c) * ·)) (by simp))).mul v').congr fun i => ?_
        rw [mulv_at]
        have : v' * (quo (nrm (vec P c)) (vec P c) * vec P i) = (quo (nrm (vec P c)) (vec P c) * v') * vec P i := by grind
        rw [this, e1]; grind
  · injection hg with hg
    rw [← hg, mulv_at, ← e2]
    exact ⟨nrm_ne hp P0, nrm_nrm hp _⟩
  · rcases List.mem_append.mp hr with hr | hr
    · have : r = P.map (quo (nrm (vec P c)) (vec P c) * ·) := by simpa using hr
      rw [this]
      exact ⟨by rw [List.length_map]; exact len P (by simp), vec_bd fun i => by rw [mulv_at]; exact (Bd.mul hp0 qb (bd_vec hP i)).mono (by omega) (by omega)⟩
    · exact h.nb hp r (List.mem_append_left _ hr)
  · have := h.len
    simp at this ⊢
    omega
  · rcases tr with l | ⟨_, l⟩
    · rw [e] at l; exact absurd l (by show ¬ 2 ≤ 0; decide)
    · rw [e] at l; exact nomatch l
  · rcases tr with l | ⟨l, l'⟩
    · rw [e] at l; exact absurd l (by show ¬ 2 ≤ 1; decide)
    · rw [e] at l'
      injection l' with l' _
      subst l'
      refine ⟨?_, l⟩
      have q1 : quo (nrm (vec g c)) (vec g c) = 1 := by
        rw [nrm_of hp gn]
        exact (quo_eq hp P0 ⟨0, by grind, .zero _ _⟩).symm
      rw [q1, show (fun x : LP p => 1 * x) = id from funext fun x => by show (1 : LP p) * x = x; grind, List.map_id]
theorem Ech.snoc {c : Nat} {g : Vc p} (hz : ∀ i, i < c → g i = 0) (g0 : g c ≠ 0) (gn : Nrm (g c)) (f : Vc p → LP p) : ∀ {c0 : Nat} {L : List (Nat × Vc p)}, Ech c0 L → (∀ x ∈ L, x.1 < c) → c0 ≤ c → (∀ x ∈ L, Rd (x.2 c - f x.2 * g c) (g c)) → Ech c0 ((L.map fun x => (x.1, fun i => x.2 i - f x.2 * g i)) ++ [(c, g)])
  | c0, [], _, _, h3, _ => ⟨h3, hz, g0, gn, (fun y hy => nomatch hy), trivial⟩
  | c0, x :: l, ⟨h1, h2, h3, h4, h5, h6⟩, hc, _, hf => by
    have xc := hc x (by simp)
    have zz : ∀ (y : Vc p) i, i < c → y i - f y * g i = y i := fun y i hi => by rw [hz i hi]; grind
    refine ⟨h1, fun i hi => ?_, ?_, ?_, fun y hy => ?_, Ech.snoc hz g0 gn f h6 (fun y hy => hc y (by simp [hy])) (show x.1 + 1 ≤ c from xc) fun y hy => hf y (by simp [hy])⟩
    · have hi' : i < x.1 := hi
      show x.2 i - f x.2 * g i = 0
      rw [zz _ _ (by omega)]; exact h2 i hi'
    · show x.2 x.1 - f x.2 * g x.1 ≠ 0
      rw [zz _ _ xc]; exact h3
    · show Nrm (x.2 x.1 - f x.2 * g x.1)
      rw [zz _ _ xc]; exact h4
    · rcases List.mem_append.mp hy with hy | hy
      · obtain ⟨z, hz', rfl⟩ := List.mem_map.mp hy
        have zc := hc z (by simp [hz'])
        show Rd (x.2 z.1 - f x.2 * g z.1) (z.2 z.1 - f z.2 * g z.1)
        rw [zz _ _ zc, zz _ _ zc]; exact h5 z hz'
      · have : y = (c, g) := by simpa using hy
        subst this
        exact hf x (by simp)
def ev (L : List (Nat × List (LP p))) : List (Nat × Vc p) := L.map fun x => (x.1, vec x.2)
theorem rws_ev (L : List (Nat × List (LP p))) : rws (ev L) = vs (L.map (·.2)) := by
  unfold rws ev vs; rw [List.map_map, List.map_map]; rfl
inductive EcR (R : List (List (LP p))) : Nat → List (Nat × List (LP p)) → List (List (LP p)) → Prop
  | init : EcR R 0 [] R
  | none {c : Nat} {L : List (Nat × List (LP p))} {S S' : List (List (LP p))} (e : EcR R c L S) (h : HdR c [] S none S') : EcR R (c + 1) L S'
  | some {c : Nat} {L : List (Nat × List (LP p))} {S S' : List (List (LP p))} {g : List (LP p)} (e : EcR R c L S) (h : HdR c [] S (some g) S') : EcR R (c + 1) ((L.map fun x => (x.1, lessR x.2 (quo (vec x.2 c) (vec g c)) g)) ++ [(c, g)]) S'
theorem EcR.uniq {R : List (List (LP p))} {c : Nat} {L L' : List (Nat × List (LP p))} {S S' : List (List (LP p))} (a : EcR R c L S) (b : EcR R c L' S') : L = L' ∧ S = S' := by
  induction a generalizing L' S' with
  | init => cases b; exact ⟨rfl, rfl⟩
  | none e h ih =>
    cases b with
    | none e' h' =>
      obtain ⟨rfl, rfl⟩ := ih e'
      exact ⟨rfl, (h.uniq h').2⟩
    | some e' h' =>
      obtain ⟨rfl, rfl⟩ := ih e'
      cases (h.uniq h').1
  | some e h ih =>
    cases b with
    | none e' h' =>
      obtain ⟨rfl, rfl⟩ := ih e'
      cases (h.uniq h').1
    | some e' h' =>
      obtain ⟨rfl, rfl⟩ := ih e'
      obtain ⟨e1, e2⟩ := h.uniq h'
      cases e1
      exact ⟨rfl, e2⟩
structure Ec (c m a : Nat) (R : List (List (LP p))) (L : List (Nat × List (LP p))) (S : List (List (LP p))) : Prop where
  ech : Ech 0 (ev L)
  col : ∀ x ∈ L, x.1 < c
  same : Same (vs (L.map (·.2) ++ S)) (vs R)
  zero : ∀ r ∈ S, ∀ i, i < c → vec r i = 0
  lefth : Rws m (4 ^ L.length * a) S
  doneh : Rws m (2 * (4 ^ L.length * a)) (L.map (·.2))
  len : L.length + S.length = R.length
  lenc : L.length ≤ c
  run : EcR R c L S
theorem Ec.pow {c m a : Nat} {R : List (List (LP p))} {L : List (Nat × List (LP p))} {S : List (List (LP p))} (E : Ec c m a R L S) : 4 ^ L.length * a ≤ 4 ^ c * a := Nat.mul_le_mul_right a (Nat.pow_le_pow_right (by decide) E.lenc)
theorem Ec.left {c m a : Nat} {R : List (List (LP p))} {L : List (Nat × List (LP p))} {S : List (List (LP p))} (E : Ec c m a R L S) : Rws m (4 ^ c * a) S := fun r hr => ⟨(E.lefth r hr).1, fun x hx => ((E.lefth r hr).2 x hx).le E.pow⟩
theorem Ec.done {c m a : Nat} {R : List (List (LP p))} {L : List (Nat × List (LP p))} {S : List (List (LP p))} (E : Ec c m a R L S) : Rws m (2 * (4 ^ c * a)) (L.map (·.2)) := fun r hr => ⟨(E.doneh r hr).1, fun x hx => ((E.doneh r hr).2 x hx).le (by have := E.pow; omega)⟩
theorem Ec.init {m a : Nat} {R : List (List (LP p))} (h : Rws m a R) : Ec 0 m a R [] R :=
  ⟨trivial, (fun x hx => nomatch hx), by rw [List.map_nil, List.nil_append]; exact .refl _, fun r _ i hi => absurd hi (Nat.not_lt_zero i), by rw [List.length_nil, Nat.pow_zero, Nat.one_mul]; exact h, (fun r hr => nomatch hr), by simp, Nat.zero_le _, .init⟩
theorem Hdd.zero_at {c m b : Nat} {R S : List (List (LP p))} {h : Option (List (LP p))} (H : Hdd c m b R h S) {i : Nat} (z : ∀ r ∈ R, vec r i = 0) : ∀ r ∈ h.toList ++ S, vec r i = 0 := fun r hr =>
  ((H.same _).mp (.mem (mem_vs hr))).zero_at fun v hv => by
    obtain ⟨t, ht, rfl⟩ := List.mem_map.mp hv
    exact z t ht
theorem Same.app {A B C : List (Vc p)} (h : Same B C) : Same (A ++ B) (A ++ C) := by
  have go : ∀ {B C : List (Vc p)}, Same B C → ∀ r ∈ A ++ B, Cb (A ++ C) r := fun h r hr => by
    rcases List.mem_append.mp hr with hr | hr
    · exact .mem (List.mem_append_left _ hr)
    · exact ((h r).mp (.mem hr)).le fun x hx => .mem (List.mem_append_right _ hx)
  exact .of (go h) (go h.symm)
theorem Ec.none {c m b a : Nat} {R S S' : List (List (LP p))} {L : List (Nat × List (LP p))} (E : Ec c m a R L S) (H : Hdd c m b S none S') : Ec (c + 1) m a R L S' := by
  have z : ∀ r ∈ S, vec r c = 0 := fun r hr => (((H.same _).mpr (.mem (mem_vs hr)))).zero_at fun v hv => by
    obtain ⟨t, ht, rfl⟩ := List.mem_map.mp hv
    exact H.zero t (by simpa using ht)
  have rn := EcR.none E.run H.run
  obtain ⟨_, e⟩ := H.ex0 (nzr_none z)
  rw [zrr_all z] at e
  subst e
  refine ⟨E.ech, fun x hx => by have := E.col x hx; omega, E.same, fun r hr i hi => ?_, E.lefth, E.doneh, E.len, by have := E.lenc; omega, rn⟩
  by_cases e : i = c
  · subst e; exact H.zero r hr
  · exact E.zero r hr i (by omega)
theorem Ec.some (hp : isPr p = true) {c m a : Nat} {R S S' : List (List (LP p))} {g : List (LP p)} {L : List (Nat × List (LP p))} (E : Ec c m a R L S) (H : Hdd c m (4 * (4 ^ L.length * a)) S (some g) S') : Ec (c + 1) m a R ((L.map fun x => (x.1, lessR x.2 (quo (vec x.2 c) (vec g c)) g)) ++ [(c, g)]) S' := by
  have hp0 := (isPr_pos hp).1
  have e4 : 4 ^ ((L.map fun x => (x.1, lessR x.2 (quo (vec x.2 c) (vec g c)) g)) ++ [(c, g)]).length * a = 4 * (4 ^ L.length * a) := by rw [List.length_append, List.length_map, List.length_singleton, Nat.pow_succ, Nat.mul_comm (4 ^ L.length) 4, Nat.mul_assoc]
  obtain ⟨g0, gn⟩ := H.head g rfl
  have hg := H.rws g (by simp)
  have hL : ∀ x ∈ L, x.2.length = g.length := fun x hx => by rw [(E.done x.2 (List.mem_map.mpr ⟨x, hx, rfl⟩)).1, hg.1]
  have gz : ∀ i, i < c → vec g i = 0 := fun i hi => H.zero_at (fun t ht => E.zero t ht i hi) g (by simp)
  have eL : ev ((L.map fun x => (x.1, lessR x.2 (quo (vec x.2 c) (vec g c)) g)) ++ [(c, g)]) = ((ev L).map fun x => (x.1, fun i => x.2 i - quo (x.2 c) (vec g c) * vec g i)) ++ [(c, vec g)] := by
    unfold ev
    rw [List.map_append, List.map_map, List.map_map]
    congr 1
    refine List.map_congr_left fun x hx => ?_
    show (x.1, vec (lessR x.2 (quo (vec x.2 c) (vec g c)) g)) = (x.1, fun i => vec x.2 i - quo (vec x.2 c) (vec g c) * vec g i)
    congr 1
    exact funext fun i => lessR_at _ (hL x hx) i
  refine ⟨?_, fun x hx => ?_, ?_, fun r hr i hi => ?_, ?_, ?_, ?_, by have := E.lenc; simp; omega, .some E.run H.run⟩
  · rw [eL]
    refine Ech.snoc gz g0 gn (fun y => quo (y c) (vec g c)) E.ech (fun x hx => ?_) (Nat.zero_le c) fun x hx => quo_rd hp g0 _
    obtain ⟨y, hy, rfl⟩ := List.mem_map.mp hx
    exact E.col y hy
  · rcases List.mem_append.mp hx with hx | hx
    · obtain ⟨y, hy, rfl⟩ := List.mem_map.mp hx
      have := E.col y hy
      show y.1 < c + 1
      omega
    · have : x = (c, g) := by simpa using hx
      subst this
      exact Nat.lt_succ_self c
  · refine Same.trans ?_ (Same.trans (?_ : Same (vs (L.map (·.2) ++ (g :: S'))) _) E.same)
    · have hgm : vec g ∈ vs (L.map (·.2) ++ g :: S') := mem_vs (by simp)
      refine .of (fun v hv => ?_) fun v hv => ?_
      · obtain ⟨r, hr, rfl⟩ := List.mem_map.mp hv
        rw [List.map_append, List.map_map] at hr
        simp only [List.mem_append, List.mem_map, List.map_cons, List.map_nil, List.mem_singleton] at hr
        rcases hr with (⟨x, hx, rfl⟩ | rfl) | hr
        · exact ((Cb.mem (mem_vs (List.mem_append_left _ (List.mem_map.mpr ⟨x, hx, rfl⟩)))).axmy _ (.mem hgm)).congr fun i => lessR_at _ (hL x hx) i
        · exact .mem hgm
        · exact .mem (mem_vs (by simp [hr]))
      · have hgm' : vec g ∈ vs (((L.map fun x => (x.1, lessR x.2 (quo (vec x.2 c) (vec g c)) g)) ++ [(c, g)]).map (·.2) ++ S') := mem_vs (by simp)
        obtain ⟨r, hr, rfl⟩ := List.mem_map.mp hv
        rcases List.mem_append.mp hr with hr | hr
        · obtain ⟨x, hx, rfl⟩ := List.mem_map.mp hr
          have c1 : Cb (vs (((L.map fun x => (x.1, lessR x.2 (quo (vec x.2 c) (vec g c)) g)) ++ [(c, g)]).map (·.2) ++ S')) (vec (lessR x.2 (quo (vec x.2 c) (vec g c)) g)) := .mem (mem_vs (by
            rw [List.map_append, List.map_map]
            exact List.mem_append_left _ (List.mem_append_left _ (List.mem_map.mpr ⟨x, hx, rfl⟩))))
          exact (c1.axpy (quo (vec x.2 c) (vec g c)) (.mem hgm')).congr fun i => by rw [lessR_at _ (hL x hx)]; grind
        · rcases List.mem_cons.mp hr with rfl | hr
          · exact .mem hgm'
          · exact .mem (mem_vs (by simp [hr]))
    · rw [vs_app, vs_app]
      exact .app H.same
  · by_cases e : i = c
    · subst e; exact H.zero r hr
    · exact H.zero_at (fun t ht => E.zero t ht i (by omega)) r (by simp [hr])
  · rw [e4]; exact fun r hr => H.rws r (by simp [hr])
  · rw [e4]
    intro r hr
    rw [List.map_append, List.map_map] at hr
    simp only [List.mem_append, List.mem_map, List.map_cons, List.map_nil, List.mem_singleton] at hr
    rcases hr with ⟨x, hx, rfl⟩ | rfl
    · have hx' := E.doneh x.2 (List.mem_map.mpr ⟨x, hx, rfl⟩)
      have bx : Nb (vec x.2 c) (2 * (4 ^ L.length * a)) := nb_vec hx'.2 c
      have bg := gn.bd hp0
      have s0 := sp_nonneg hp0 g0
      have bq : Nb (quo (vec x.2 c) (vec g c)) (2 * (4 ^ L.length * a)) := (quo_bd hp g0 bx bg (by omega)).mono (by omega) (by omega)
      exact ⟨by show (lessR _ _ _).length = m; rw [lessR_len _ (hL x hx)]; exact hg.1, fun y hy => (lessR_nb hp (hL x hx) hx'.2 hg.2 bq (by omega) y hy).le (by omega)⟩
    · exact ⟨hg.1, fun x hx => (hg.2 x hx).le (by omega)⟩
  · have := E.len
    have := H.len
    simp at this ⊢
    omega
theorem IsRest.snoc (hp : isPr p = true) {L : List (Nat × Vc p)} {x : Nat × Vc p} {v r : Vc p} (h : IsRest L v r) (x0 : x.2 x.1 ≠ 0) (hz : ∀ y ∈ L, x.2 y.1 = 0) : IsRest (L ++ [x]) v (fun i => r i - quo (r x.1) (x.2 x.1) * x.2 i) := by
  have hx : Cb (rws (L ++ [x])) x.2 := .mem (List.mem_map.mpr ⟨x, by simp, rfl⟩)
  have hl : Cb (rws (L ++ [x])) (fun i => v i - r i) := h.1.le fun y hy => by
    obtain ⟨t, ht, rfl⟩ := List.mem_map.mp hy
    exact .mem (List.mem_map.mpr ⟨t, by simp [ht], rfl⟩)
  refine ⟨(hl.axpy (quo (r x.1) (x.2 x.1)) hx).congr fun i => by grind, fun y hy => ?_⟩
  rcases List.mem_append.mp hy with hy | hy
  · show Rd (r y.1 - quo (r x.1) (x.2 x.1) * x.2 y.1) (y.2 y.1)
    rw [hz y hy, show r y.1 - quo (r x.1) (x.2 x.1) * 0 = r y.1 by grind]
    exact h.2 y hy
  · have : y = x := by simpa using hy
    subst this
    exact quo_rd hp x0 _
end
theorem bools_of {α : Type} (f : α → Bool) : ∀ L : List α, boolsD (L.map fun x => D.bl (f x)) = some (L.map f)
  | [] => rfl
  | a :: L => by rw [List.map_cons, boolsD, bools_of f L]; rfl
theorem Lv.pos {p : Int} (hp : isPr p = true) {c m a k : Nat} {R S L : List (List (LP p))} (h : Lv c m a k R S L) : ∃ j, k = j + 1 := by
  rcases h.st with ⟨_, h2⟩ | ⟨l, u, l', u', γ, s, P, O, h1, hP, h2, h3, h4, h5, h6, h7, h8, h9, h10, h11, h12, h13, h14, h15⟩
  · exact ⟨2 * a + 1, h2⟩
  · have s0 := sp_nonneg (isPr_pos hp).1 h3
    exact ⟨k - 1, by omega⟩
end My

namespace My
open PySem PySem.Spec L2 DL
section
variable {p : Int}
theorem Ec.full {w a : Nat} {R S : List (List (LP p))} {L : List (Nat × List (LP p))} (E : Ec w w a R L S) : Same (rws (ev L)) (vs R) := by
  rw [rws_ev]
  refine Same.trans (.of (fun r hr => ?_) fun r hr => ?_) E.same
  · rw [vs_app]; exact .mem (List.mem_append_left _ hr)
  · rw [vs_app] at hr
    rcases List.mem_append.mp hr with hr | hr
    · exact .mem hr
    · obtain ⟨t, ht, rfl⟩ := List.mem_map.mp hr
      refine Cb.zero.congr fun i => ?_
      by_cases hi : i < w
      · exact E.zero t ht i hi
      · exact vec_ge (by have := (E.left t ht).1; omega)
def cut (w : Nat) (v : Vc p) : Vc p := fun i => if i < w then v i else 0
theorem Cb.cut {R : List (Vc p)} {v : Vc p} (w : Nat) (h : Cb R v) : Cb (R.map (cut w)) (cut w v) := by
  induction h with
  | zero => exact Cb.zero.congr fun i => by unfold My.cut; split <;> rfl
  | step c h m ih => exact (Cb.step c ih (List.mem_map.mpr ⟨_, m, rfl⟩)).congr fun i => by unfold My.cut; split <;> grind
theorem Ech.cut {w : Nat} : ∀ {c0 : Nat} {L : List (Nat × Vc p)}, Ech c0 L → (∀ x ∈ L, x.1 < w) → Ech c0 (L.map fun x => (x.1, My.cut w x.2))
  | _, [], _, _ => trivial
  | c0, x :: l, ⟨h1, h2, h3, h4, h5, h6⟩, hc => by
    have e : ∀ (y : Vc p) (i : Nat), i < w → My.cut w y i = y i := fun y i hi => if_pos hi
    have xw := hc x (by simp)
    refine ⟨h1, fun i hi => ?_, ?_, ?_, fun y hy => ?_, Ech.cut h6 fun y hy => hc y (by simp [hy])⟩
    · have hi' : i < x.1 := hi
      show My.cut w x.2 i = 0
      rw [e _ _ (by omega)]; exact h2 i hi'
    · show My.cut w x.2 x.1 ≠ 0
      rw [e _ _ xw]; exact h3
    · show Nrm (My.cut w x.2 x.1)
      rw [e _ _ xw]; exact h4
    · obtain ⟨z, hz, rfl⟩ := List.mem_map.mp hy
      have zw := hc z (by simp [hz])
      show Rd (My.cut w x.2 z.1) (My.cut w z.2 z.1)
      rw [e _ _ zw, e _ _ zw]; exact h5 z hz
def lin (f : Nat → LP p) : List (List (LP p)) → Vc p
  | [] => fun _ => 0
  | r :: R => fun i => f 0 * vec r i + lin (fun k => f (k + 1)) R i
theorem lin_zero (R : List (List (LP p))) (i : Nat) : lin (fun _ => 0) R i = 0 := by
  induction R with
  | nil => rfl
  | cons r R ih => show 0 * vec r i + lin (fun _ => 0) R i = 0; rw [ih]; grind
theorem lin_add (R : List (List (LP p))) (i : Nat) : ∀ (f g : Nat → LP p) (c : LP p), lin (fun k => f k + c * g k) R i = lin f R i + c * lin g R i := by
  induction R with
  | nil => intro f g c; show (0 : LP p) = 0 + c * 0; grind
  | cons r R ih =>
    intro f g c
    show (f 0 + c * g 0) * vec r i + lin (fun k => f (k + 1) + c * g (k + 1)) R i = (f 0 * vec r i + lin (fun k => f (k + 1)) R i) + c * (g 0 * vec r i + lin (fun k => g (k + 1)) R i)
    rw [ih (fun k => f (k + 1)) (fun k => g (k + 1)) c]; grind
theorem lin_one (i : Nat) : ∀ (R : List (List (LP p))) (k : Nat) (r : List (LP p)), R[k]? = some r → lin (fun j => if j = k then 1 else 0) R i = vec r i
  | [], k, r, h => by simp at h
  | s :: R, 0, r, h => by
    simp at h; subst h
    show (if (0 : Nat) = 0 then (1 : LP p) else 0) * vec s i + lin (fun k => if k + 1 = 0 then 1 else 0) R i = vec s i
    have : (fun k : Nat => if k + 1 = 0 then (1 : LP p) else 0) = fun _ => 0 := funext fun k => if_neg (by omega)
    rw [this, lin_zero, if_pos rfl]; grind
  | s :: R, k + 1, r, h => by
    have h' : R[k]? = some r := by simpa using h
    show (if (0 : Nat) = k + 1 then (1 : LP p) else 0) * vec s i + lin (fun j => if j + 1 = k + 1 then 1 else 0) R i = vec r i
    have : (fun j : Nat => if j + 1 = k + 1 then (1 : LP p) else 0) = fun j => if j = k then 1 else 0 := funext fun j => by by_cases e : j = k <;> simp [e]
    rw [this, lin_one i R k r h', if_neg (by omega)]; grind
theorem Cb.lin {R : List (List (LP p))} {v : Vc p} (h : Cb (vs R) v) : ∃ f : Nat → LP p, ∀ i, v i = My.lin f R i := by
  induction h with
  | zero => exact ⟨fun _ => 0, fun i => (lin_zero R i).symm⟩
  | @step v r c h m ih =>
    obtain ⟨f, hf⟩ := ih
    obtain ⟨t, ht, rfl⟩ := List.mem_map.mp m
    obtain ⟨k, hk⟩ := List.getElem?_of_mem ht
    refine ⟨fun j => f j + c * (if j = k then 1 else 0), fun i => ?_⟩
    show v i + c * vec t i = _
    rw [lin_add, hf i, lin_one i R k t hk]
def unitR (N k : Nat) : List (LP p) := (List.range N).map fun j => if j = k then 1 else 0
def mk (R : List (List (LP p))) : List (List (LP p)) := (List.range R.length).map fun k => R.getD k [] ++ unitR R.length k
end
def F_Table_fits : DF := fun _ ds n q xx => ∃ (p p' : Int) (w w' : Nat) (R : List (List (LP p))) (S : List (List (LP p'))), ds = [tb w R, tb w' S] ∧ ((p = p' ∧ w = w' ∧ q .non n) ∨ ((p ≠ p' ∨ w ≠ w') ∧ xx ("UnlikeTables", []) n))
def FacR {p : Int} (w : Nat) (R : List (List (LP p))) (v : List (LP p)) (o : Option (List (LP p))) : Prop := ∃ (a : Nat) (L : List (Nat × List (LP p))) (S : List (List (LP p))) (r : List (LP p)), Ec w (w + R.length) a (mk R) L S ∧ r.length = w + R.length ∧ IsRest (ev L) (vec (v ++ List.replicate R.length 0)) (vec r) ∧ (((∀ i, vec (r.take w) i = 0) ∧ o = some ((r.drop w).map fun x => -x)) ∨ ((¬ ∀ i, vec (r.take w) i = 0) ∧ o = none))
theorem FacR.uniq {p : Int} (hp : isPr p = true) {w : Nat} {R : List (List (LP p))} {v : List (LP p)} {o o' : Option (List (LP p))} (h : FacR w R v o) (h' : FacR w R v o') : o = o' := by
  obtain ⟨a, L, S, r, h1, h2, h3, h4⟩ := h
  obtain ⟨a', L', S', r', g1, g2, g3, g4⟩ := h'
  obtain ⟨rfl, rfl⟩ := h1.run.uniq g1.run
  have e := h3.uniq hp h1.ech g3 (Cb.zero.congr fun i => by grind)
  obtain rfl : r = r' := vec_inj (by rw [h2, g2]) e
  rcases h4 with ⟨z, rfl⟩ | ⟨z, rfl⟩ <;> rcases g4 with ⟨z', rfl⟩ | ⟨z', rfl⟩
  · rfl
  · exact absurd z z'
  · exact absurd z' z
  · rfl
end My

namespace My
open PySem PySem.Spec L2 DL
theorem sub_eq : ∀ {m l : Tm}, (l.map (·.1)).Pairwise (· < ·) → (m.map (·.1)).Pairwise (· < ·) → (∀ t ∈ l, t ∈ m) → l.length ≤ m.length ∧ (l.length = m.length → l = m)
  | m, [], _, _, _ => ⟨Nat.zero_le _, fun h => (List.length_eq_zero_iff.mp h.symm).symm⟩
  | [], a :: l, _, _, h => absurd (h a (by simp)) List.not_mem_nil
  | b :: m, a :: l, hl, hm, h => by
    rw [List.map_cons, List.pairwise_cons] at hl hm
    have gt : ∀ t ∈ l, a.1 < t.1 := fun t ht => hl.1 _ (List.mem_map.mpr ⟨t, ht, rfl⟩)
    have gm : ∀ t ∈ m, b.1 < t.1 := fun t ht => hm.1 _ (List.mem_map.mpr ⟨t, ht, rfl⟩)
    by_cases e : a = b
    · subst e
      have := sub_eq (m := m) (l := l) hl.2 hm.2 fun t ht => by
        rcases List.mem_cons.mp (h t (by simp [ht])) with e | e
        · have := gt t ht; rw [e] at this; omega
        · exact e
      refine ⟨by simp; omega, fun hh => ?_⟩
      rw [this.2 (by simpa using hh)]
    · have am : a ∈ m := by
        rcases List.mem_cons.mp (h a (by simp)) with e' | e'
        · exact absurd e' e
        · exact e'
      have := sub_eq (m := m) (l := a :: l) (by rw [List.map_cons, List.pairwise_cons]; exact hl) hm.2 fun t ht => by
        rcases List.mem_cons.mp (h t ht) with e' | e'
        · have g1 := gm a am
          rcases List.mem_cons.mp ht with e2 | e2
          · rw [e2]; exact am
          · have := gt t e2; rw [e'] at this; omega
        · exact e'
      refine ⟨by simp at this ⊢; omega, fun hh => ?_⟩
      simp at this hh
      omega
theorem getI_in {m : Tm} {k : Int} {d : D} (h : DL.getD (m.map kvp) (.inl k) = some d) : d = .int (getI m k) ∧ (k, getI m k) ∈ m := by
  unfold DL.getD at h
  rw [find_kvp] at h
  unfold getI
  cases e : m.find? (fun t => decide (t.1 = k)) with
  | none => rw [e] at h; cases h
  | some t =>
    rw [e] at h
    have hk : t.1 = k := of_decide_eq_true (List.find?_some (p := fun t : Int × Int => decide (t.1 = k)) e)
    refine ⟨(Option.some.inj h).symm, ?_⟩
    show (k, t.2) ∈ m
    rw [← hk]
    exact List.mem_of_find?_eq_some e
open Classical in
theorem eqKD_dk {p : Int} (hp : 0 < p) (x y : LP p) : (((can x).map kvp).length == ((can y).map kvp).length && eqKD ((can x).map kvp) ((can y).map kvp)) = decide (x = y) := by
  by_cases h : x = y
  · subst h
    rw [decide_eq_true rfl, Bool.and_eq_true_iff]
    refine ⟨by simp, List.all_eq_true.mpr fun q hq => ?_⟩
    obtain ⟨t, ht, rfl⟩ := List.mem_map.mp hq
    have m1 : t.1 ∈ (can x).map (·.1) := List.mem_map.mpr ⟨t, ht, rfl⟩
    show (match DL.getD ((can x).map kvp) (.inl t.1) with | some d => eqD (.int t.2) d | none => false) = true
    rw [get_kvp' m1, getI_mem (can_nodup x) ht]
    show (t.2 == t.2) = true
    simp
  · rw [decide_eq_false h]
    refine Bool.eq_false_iff.mpr fun hh => h ?_
    obtain ⟨h1, h2⟩ := Bool.and_eq_true_iff.mp hh
    have h1' : (can x).length = (can y).length := by simpa using h1
    have h2' := List.all_eq_true.mp h2
    refine can_inj hp ((sub_eq (can_sorted x) (can_sorted y) fun t ht => ?_).2 h1')
    have e := h2' (kvp t) (List.mem_map.mpr ⟨t, ht, rfl⟩)
    have e' : (match DL.getD ((can y).map kvp) (.inl t.1) with | some d => eqD (.int t.2) d | none => false) = true := e
    cases g : DL.getD ((can y).map kvp) (.inl t.1) with
    | none => rw [g] at e'; cases e'
    | some d =>
      rw [g] at e'
      obtain ⟨rfl, hm⟩ := getI_in g
      have : t.2 = getI (can y) t.1 := by
        have : (t.2 == getI (can y) t.1) = true := e'
        exact beq_iff_eq.mp this
      rw [← this] at hm
      exact hm
theorem flat_kvp (m : Tm) : ((m.map kvp).all fun q => flatD q.2) = true := List.all_eq_true.mpr fun q hq => by
  obtain ⟨t, _, rfl⟩ := List.mem_map.mp hq
  rfl
abbrev Q0 : Str → D → D → Bool → Prop := fun _ _ _ _ => False
open Classical in
theorem eqx_dk {p : Int} (hp : 0 < p) (Q : Str → D → D → Bool → Prop) (x y : LP p) (k : Nat) : EqX Q (k + 1) (dk x) (dk y) (decide (x = y)) :=
  .inr (.inr (.inr (.inr ⟨_, _, rfl, rfl, flat_kvp _, flat_kvp _, (eqKD_dk hp x y).symm, by unfold dk Sh; exact sh_kvpK _ _, fun e => by
    have e1 : dk x = dk y → x = y := fun e => can_inj hp (by
      have e2 : (can x).map kvp = (can y).map kvp := by injection e
      exact List.map_inj_right (fun a b h => by obtain ⟨a1, a2⟩ := a; obtain ⟨b1, b2⟩ := b; injection h with h1 h2; injection h1 with h1; injection h2 with h2; exact Prod.ext h1 h2) |>.mp e2)
    exact decide_eq_true (e1 e)⟩)))
theorem eqx_list {α : Type} (Q : Str → D → D → Bool → Prop) (k : Nat) (f : α → D) (z : α) (L L' : List α) (h : ∀ x ∈ L, ∀ y ∈ L', ∃ c : Bool, (c = true ↔ x = y) ∧ EqX Q k (f x) (f y) c) : ∃ c : Bool, (c = true ↔ L = L') ∧ EqX Q (k + 1) (.lst (L.map f)) (.lst (L'.map f)) c := by
  by_cases hl : L.length = L'.length
  · have ch : ∀ i : Nat, ∃ c : Bool, i < L.length → (c = true ↔ L.getD i z = L'.getD i z) ∧ EqX Q k (f (L.getD i z)) (f (L'.getD i z)) c := fun i => by
      by_cases hi : i < L.length
      · obtain ⟨c, h1, h2⟩ := h _ (getD_mem (z := z) hi) _ (getD_mem (z := z) (show i < L'.length by omega))
        exact ⟨c, fun _ => ⟨h1, h2⟩⟩
      · exact ⟨true, fun h => absurd h hi⟩
    let b : Nat → Bool := fun i => Classical.choose (ch i)
    have hb : ∀ i, i < L.length → (b i = true ↔ L.getD i z = L'.getD i z) ∧ EqX Q k (f (L.getD i z)) (f (L'.getD i z)) (b i) := fun i => Classical.choose_spec (ch i)
    refine ⟨allB b 0 L.length, ?_, .inr (.inl ⟨_, _, .inl ⟨rfl, rfl⟩, by rw [List.length_map, List.length_map, hl], b, by rw [List.length_map], fun i x y h1 h2 => ?_⟩)⟩
    · rw [allB_iff]
      constructor
      · intro h
        refine List.ext_getElem hl fun i h1 h2 => ?_
        have := (hb i h1).1.mp (h i (Nat.zero_le i) (by omega))
        rwa [List.getD_eq_getElem?_getD, List.getD_eq_getElem?_getD, List.getElem?_eq_getElem h1, List.getElem?_eq_getElem h2] at this
      · rintro rfl j _ hj
        exact (hb j (by omega)).1.mpr rfl
    · rw [List.getElem?_map] at h1 h2
      obtain ⟨u, eu, rfl⟩ := Option.map_eq_some_iff.mp h1
      obtain ⟨v, ev, rfl⟩ := Option.map_eq_some_iff.mp h2
      have hi : i < L.length := (List.getElem?_eq_some_iff.mp eu).1
      have := (hb i hi).2
      rwa [List.getD_eq_getElem?_getD, List.getD_eq_getElem?_getD, eu, ev] at this
  · exact ⟨false, ⟨(fun h => nomatch h), fun h => absurd (congrArg List.length h) hl⟩, .inr (.inr (.inl ⟨_, _, rfl, rfl, by rw [List.length_map, List.length_map]; exact hl, rfl⟩))⟩
theorem eqx_dks {p : Int} (hp : 0 < p) (Q : Str → D → D → Bool → Prop) (k : Nat) (r r' : List (LP p)) : ∃ c : Bool, (c = true ↔ r = r') ∧ EqX Q (k + 2) (.lst (r.map dk)) (.lst (r'.map dk)) c :=
  eqx_list Q (k + 1) dk 0 r r' fun x _ y _ => ⟨_, by classical exact decide_eq_true_iff, eqx_dk hp Q x y k⟩
end My

namespace My
open PySem PySem.Spec L2 DL
section
variable {p : Int}
structure Lst (w a : Nat) (L : List (Nat × List (LP p))) : Prop where
  ech : Ech 0 (ev L)
  col : ∀ x ∈ L, x.1 < w
  rws : Rws w a (L.map (·.2))
theorem ev_inj {w : Nat} : ∀ {L L' : List (Nat × List (LP p))}, (∀ x ∈ L, x.2.length = w) → (∀ x ∈ L', x.2.length = w) → ev L = ev L' → L = L'
  | [], [], _, _, _ => rfl
  | [], y :: l, _, _, e => by simp [ev] at e
  | x :: l, [], _, _, e => by simp [ev] at e
  | x :: l, y :: l', h, h', e => by
    have e' : (x.1, vec x.2) = (y.1, vec y.2) ∧ ev l = ev l' := by simpa [ev] using e
    have e1 := congrArg Prod.fst e'.1
    have e2 := congrArg Prod.snd e'.1
    have : x = y := Prod.ext e1 (vec_inj (by rw [h x (by simp), h' y (by simp)]) e2)
    rw [this, ev_inj (fun z hz => h z (by simp [hz])) (fun z hz => h' z (by simp [hz])) e'.2]
theorem Ec.eq (hp : isPr p = true) {w a b : Nat} {R S : List (List (LP p))} {L L' : List (Nat × List (LP p))} (E : Ec w w a R L S) (h : Lst w b L') (s : Same (vs R) (rws (ev L'))) : L = L' :=
  ev_inj (w := w) (fun x hx => (E.done x.2 (List.mem_map.mpr ⟨x, hx, rfl⟩)).1) (fun x hx => (h.rws x.2 (List.mem_map.mpr ⟨x, hx, rfl⟩)).1) (Ech.uniq hp E.ech h.ech (E.full.trans s))
theorem Lst.len {w a : Nat} {L : List (Nat × List (LP p))} (h : Lst w a L) : L.length ≤ w := by
  have hs := h.ech.sorted
  have : ∀ (L : List (Nat × Vc p)) (c : Nat), L.Pairwise (fun x y => x.1 < y.1) → (∀ x ∈ L, c ≤ x.1 ∧ x.1 < w) → c ≤ w → L.length + c ≤ w := fun L => by
    induction L with
    | nil => intro c _ _ h; simpa using h
    | cons x l ih =>
      intro c hp hb _
      rw [List.pairwise_cons] at hp
      have := hb x (by simp)
      have := ih (x.1 + 1) hp.2 (fun y hy => ⟨by have := hp.1 y hy; omega, (hb y (by simp [hy])).2⟩) (by omega)
      simp; omega
  have := this (ev L) 0 hs (fun x hx => by
    obtain ⟨t, ht, rfl⟩ := List.mem_map.mp hx
    exact ⟨Nat.zero_le _, h.col t ht⟩) (Nat.zero_le _)
  simpa [ev] using this
theorem Same.more {R : List (List (LP p))} {A B : List (List (LP p))} {r : List (LP p)} (e : R = A ++ B) (h : Cb (vs R) (vec r)) : Same (vs (A ++ [r] ++ B)) (vs R) := by
  subst e
  refine .of (fun v hv => ?_) fun v hv => ?_
  · obtain ⟨t, ht, rfl⟩ := List.mem_map.mp hv
    simp only [List.mem_append, List.mem_singleton] at ht
    rcases ht with (ht | rfl) | ht
    · exact .mem (mem_vs (by simp [ht]))
    · exact h
    · exact .mem (mem_vs (by simp [ht]))
  · obtain ⟨t, ht, rfl⟩ := List.mem_map.mp hv
    exact .mem (mem_vs (by simp only [List.mem_append] at ht ⊢; rcases ht with ht | ht <;> simp [ht]))
end
def F_Table___add__ : DF := fun _ ds n q xx => (∃ (p : Int) (w : Nat) (R S : List (List (LP p))), ds = [tb w R, tb w S] ∧ isPr p = true ∧ 0 < w ∧ w ≤ 1000 ∧ R.length ≤ 1000 ∧ S.length ≤ 1000 ∧ (∀ r ∈ R, r.length = w) ∧ (∀ r ∈ S, r.length = w) ∧ q (tb w (R ++ S)) n) ∨
  ∃ (p p' : Int) (w w' : Nat) (R : List (List (LP p))) (S : List (List (LP p'))), ds = [tb w R, tb w' S] ∧ (p ≠ p' ∨ w ≠ w') ∧ xx ("UnlikeTables", []) n
noncomputable def rowK {p : Int} (r : List (LP p)) : D := .lst (r.map dk)
structure Hds {p : Int} (w : Nat) (Hs : List (Nat × LP p)) : Prop where
  srt : Hs.Pairwise (fun x y => x.1 < y.1)
  hd : ∀ h ∈ Hs, h.1 < w ∧ h.2 ≠ 0 ∧ Nrm h.2 ∧ sp h.2 ≤ 2
def F__law_filters : DF := fun _ ds n q _ => ∃ p, ∃ r : List (LP p), ds = [.int p, rowK r] ∧ isPr p = true ∧ r.length ≤ 1000 ∧ (∀ x ∈ r, Nb x 1000) ∧ q (rowL r) n
def F__law_table : DF := fun _ ds n q _ => ∃ p, ∃ (w : Nat) (R : List (List (LP p))), ds = [.int p, .int w, .lst (R.map rowK)] ∧ isPr p = true ∧ 0 < w ∧ w ≤ 1000 ∧ R.length ≤ 1000 ∧ Rws w 1000 R ∧ q (tb w R) n
def F__law_row_is : DF := fun _ ds n q _ => ∃ p, ∃ r : List (LP p), ds = [rowL r, .int p, rowK r] ∧ isPr p = true ∧ r.length ≤ 1000 ∧ (∀ x ∈ r, Nb x 1000) ∧ q (.bl true) n
def F__law_table_is : DF := fun _ ds n q _ => ∃ p, ∃ (w : Nat) (R : List (List (LP p))), ds = [tb w R, .int p, .int w, .lst (R.map rowK)] ∧ isPr p = true ∧ R.length ≤ 1000 ∧ w ≤ 1000 ∧ Rws w 1000 R ∧ q (.bl true) n
end My

namespace My
open PySem PySem.Spec L2 DL
theorem sq_cases {d : D} {l : List D} (h : seqD d = some l) : d = .lst l ∨ d = .tup l ∨ d = .rol l := by
  cases d with
  | lst l' => cases h; exact .inl rfl
  | tup l' => cases h; exact .inr (.inl rfl)
  | rol l' => cases h; exact .inr (.inr rfl)
  | _ => cases h
theorem okD_seq {d : D} {l : List D} (h : seqD d = some l) : okD d := by
  rcases sq_cases h with rfl | rfl | rfl <;> exact ⟨_, rfl, fun c e => nomatch e⟩
def trmB (d : D) : Bool := match seqD d with
  | some [a, b] => isInt a && isInt b
  | _ => false
def okS (d : D) : Prop := okD d ∧ ∀ l, seqD d = some l → l.length < 1000000 ∧ ∀ e ∈ l, okD e
def PrD (t : Int × Int) (d : D) : Prop := seqD d = some [.int t.1, .int t.2]
theorem PrD.trm (t : Int × Int) : PrD t (trm t) := rfl
theorem PrD.b {t : Int × Int} {d : D} (h : PrD t d) : trmB d = true := by unfold trmB; rw [h]; rfl
theorem PrD.ok {t : Int × Int} {d : D} (h : PrD t d) : okS d := by
  refine ⟨okD_seq h, fun l e => ?_⟩
  have h' : seqD d = _ := h
  rw [h'] at e
  cases e
  refine ⟨by show 2 < 1000000; decide, fun e he => ?_⟩
  simp only [List.mem_cons, List.not_mem_nil, or_false] at he
  rcases he with rfl | rfl <;> exact ok_int _
theorem tnrL {α : Type} {f : α → D} : ∀ l : List α, (∀ a ∈ l, nrD (f a) = true) → nrL (l.map f) = true
  | [], _ => by rw [List.map_nil, nrL]
  | a :: l, h => by rw [List.map_cons, nrL, h a (List.mem_cons_self ..), tnrL l fun b hb => h b (List.mem_cons_of_mem _ hb)]; rfl
theorem tnr_int (i : Int) : nrD (.int i) = true := by rw [nrD] <;> intros <;> contradiction
theorem tnrK : ∀ l : Tm, nrK (l.map kvp) = true
  | [] => by rw [List.map_nil, nrK]
  | t :: l => by
    rw [List.map_cons]
    show (nrD (.int t.2) && nrK (l.map kvp)) = true
    rw [tnrK l, tnr_int]; rfl
theorem tnr_trm (t : Int × Int) : nrD (trm t) = true := by
  unfold trm
  rw [nrD, nrL, nrL, nrL, tnr_int, tnr_int]; rfl
theorem tnr_fob (p : Int) (ts : Tm) : nrD (fob p ts) = true := by
  have e1 : nrD (.lst (ts.map trm)) = true := by rw [nrD]; exact tnrL _ fun t _ => tnr_trm t
  have e2 : nrD (.dct (ts.map kvp)) = true := by rw [nrD]; exact tnrK ts
  unfold fob flt
  rw [nrD, nrF, nrF, nrF, nrF, tnr_int, e1, e2]; rfl
def sm : Nat → D → D → Prop
  | 0, d, e => d = e ∧ match e with
    | .int _ => True
    | .bl _ => True
    | .str x => SeqAt.shaped (pyD (.str x)) = true
    | .non => True
    | _ => False
  | k + 1, d, e => match e with
    | .lst es => ∃ ds : List D, (d = .lst ds ∨ d = .rol ds) ∧ ds.length = es.length ∧ es.length < 10000000 ∧ ∀ (i : Nat) (x y : D), ds[i]? = some x → es[i]? = some y → sm k x y
    | .tup es => ∃ ds : List D, d = .tup ds ∧ ds.length = es.length ∧ es.length < 10000000 ∧ ∀ (i : Nat) (x y : D), ds[i]? = some x → es[i]? = some y → sm k x y
    | .int _ => d = e
    | .bl _ => d = e
    | .str x => d = e ∧ SeqAt.shaped (pyD (.str x)) = true
    | .non => d = e
    | _ => False
def FG__law_same (k : Nat) : DF := fun _ ds n q _ => ∃ d e, ds = [d, e] ∧ sm k d e ∧ q (.bl true) n
abbrev FG__law_same3 : DF := FG__law_same 3
end My

namespace My
open PySem PySem.Spec L2 DL
def F__law_other : DF := fun W ds n q _ => ∃ s p, ds = [.hnd s, .int p] ∧ (∃ c, W = sprW s c) ∧ isPr p = true ∧ n < 900000 ∧ ∀ p', isPr p' = true → p' ≠ p → q (.int p') (n + 1)
def F__law_row : DF := fun W ds n q _ => ∃ s p, ∃ w most reach : Nat, ds = [.hnd s, .int p, .int w, .int most, .int reach] ∧ (∃ c, W = sprW s c) ∧ isPr p = true ∧ w ≤ 100 ∧ most < 100 ∧ reach < 1000 ∧ n < 700000 ∧ ∀ (r : List (LP p)) (n' : Nat), r.length = w → (∀ x ∈ r, Nb x reach) → n' ≤ n + w * (1 + 2 * most) → q (rowK r) n'
def FG_Table_rows : DFE := fun _ ds n q _ => ∃ (p : Int) (w : Nat) (R : List (List (LP p))), ds = [tb w R] ∧ R.length < 1000000 ∧ ∀ (a : Addr) (bs : List Addr), bs.length = R.length → (a :: bs).Nodup → q (.gst (.hnd a) ((a, .lst (bs.map D.hnd)) :: bs.zip (R.map rowL))) n
def FG_Table___eq__ : DF := fun W ds n q xx => F_Table___eq__ W ds n q xx ∨ (∃ (p p' : Int) (w w' : Nat) (R : List (List (LP p))) (S : List (List (LP p'))), ds = [tb w R, tb w' S] ∧ p ≠ p' ∧ q (.bl false) n) ∨
  ∃ (p : Int) (w : Nat) (R : List (List (LP p))) (d : D) (t : Ty), ds = [tb w R, d] ∧ tyD d = some t ∧ (∀ c, t = .own c → c ∈ CS) ∧ t ≠ .own "Table" ∧ q (.bl false) n
def F__law_told_rows_right : DF := fun _ ds n q _ => ∃ (p : Int) (w : Nat) (R : List (List (LP p))), ds = [tb w R, .int p, .int (w : Int), .lst (R.map rowK)] ∧ isPr p = true ∧ R.length ≤ 100 ∧ w ≤ 100 ∧ Rws w 1000 R ∧ q (.bl true) n
def F__law_compared_right : DF := fun _ ds n q _ => ∃ (p : Int) (w : Nat) (R S : List (List (LP p))), ds = [tb w R, tb w S, .int p, .int (w : Int), .lst (R.map rowK), .lst (S.map rowK)] ∧ isPr p = true ∧ R.length ≤ 100 ∧ S.length ≤ 100 ∧ 0 < w ∧ w ≤ 100 ∧ Rws w 1000 R ∧ Rws w 1000 S ∧ q (.bl true) n
theorem lkG_upG (gs : List (Addr × D)) (b c : Addr) (d : D) : lkG (upG gs b d) c = if c = b then (lkG gs c).map (fun _ => d) else lkG gs c := by
  induction gs with
  | nil => show none = _; split <;> rfl
  | cons g gs ih =>
    obtain ⟨e, u⟩ := g
    show (if (if e = b then (e, d) else (e, u)).1 = c then some (if e = b then (e, d) else (e, u)).2 else lkG (upG gs b d) c) = if c = b then (if e = c then some u else lkG gs c).map (fun _ => d) else (if e = c then some u else lkG gs c)
    by_cases h1 : e = b
    · subst h1
      rw [if_pos rfl]
      by_cases h2 : e = c
      · subst h2
        rw [if_pos rfl, if_pos rfl, if_pos rfl]; rfl
      · rw [if_neg h2, if_neg h2, ih]
    · rw [if_neg h1]
      by_cases h2 : e = c
      · subst h2
        rw [if_pos rfl, if_neg h1, if_pos rfl]
      · rw [if_neg h2, if_neg h2, ih]
theorem fz_list {a : Addr} {bs : List Addr} {cs : List D} (hl : bs.length = cs.length) (hc : ∀ c ∈ cs, ∀ kvs, c ≠ .dct kvs) : FzA ((a, .lst (bs.map D.hnd)) :: bs.zip cs) (.lst cs :: cs) ∧ Up ((((a, D.lst (bs.map D.hnd)) :: bs.zip cs).map (·.1)).zip (.lst cs :: cs)) (.hnd a) (.lst cs) := by
  have f1 : ∀ {bs : List Addr} {cs : List D}, bs.length = cs.length → (∀ c ∈ cs, ∀ kvs, c ≠ .dct kvs) → FzA (bs.zip cs) cs := fun {bs} => by
    induction bs with
    | nil => intro cs h _; rw [List.length_eq_zero_iff.mp h.symm]; exact .nil
    | cons b bs ih =>
      intro cs h hc
      cases cs with
      | nil => simp at h
      | cons c cs => exact .cons (ih (by simpa using h) fun d hd => hc d (List.mem_cons_of_mem _ hd)) (.refl _) (hc c (List.mem_cons_self ..))
  have e1 : (bs.zip cs).map (·.1) = bs := List.map_fst_zip (by omega)
  have f2 : ∀ {m : List (Addr × D)} {bs : List Addr} {cs : List D}, bs.length = cs.length → (∀ x ∈ bs.zip cs, x ∈ m) → UpL m (bs.map D.hnd) cs := fun {m bs} => by
    induction bs with
    | nil => intro cs h _; rw [List.length_eq_zero_iff.mp h.symm]; exact .nil
    | cons b bs ih =>
      intro cs h hm
      cases cs with
      | nil => simp at h
      | cons c cs => exact .cons (.hnd (hm _ (List.mem_cons_self ..))) (ih (by simpa using h) fun x hx => hm x (List.mem_cons_of_mem _ hx))
  refine ⟨.cons (f1 hl hc) (.lst (f2 hl fun x hx => by rw [e1]; exact hx)) (fun _ z => nomatch z), .hnd ?_⟩
  rw [List.map_cons, List.zip_cons_cons]
  exact List.mem_cons_self ..
theorem lkG_of {c : Addr} : ∀ {gs : List (Addr × D)}, c ∈ gs.map (·.1) → ∃ d, lkG gs c = some d ∧ (c, d) ∈ gs
  | [], h => nomatch h
  | (e, u) :: gs, h => by
    show ∃ d, (if e = c then some u else lkG gs c) = some d ∧ _
    by_cases z : e = c
    · subst z
      exact ⟨u, if_pos rfl, List.mem_cons_self ..⟩
    · rw [if_neg z]
      obtain ⟨d, h1, h2⟩ := lkG_of (gs := gs) ((List.mem_cons.mp h).resolve_left fun w => z w.symm)
      exact ⟨d, h1, List.mem_cons_of_mem _ h2⟩
def ShG (gs : List (Addr × D)) (cs : List Addr) (N : Nat) : Prop := ∀ c ∈ cs, ∃ ds, lkG gs c = some (.lst ds) ∧ ds.length ≤ N
theorem ShG.of {gs : List (Addr × D)} {cs : List Addr} {N : Nat} (h1 : ∀ c ∈ cs, c ∈ gs.map (·.1)) (h2 : ∀ g ∈ gs, ∃ ds, g.2 = .lst ds ∧ ds.length ≤ N) : ShG gs cs N := fun c hc => by
  obtain ⟨d, e, hm⟩ := lkG_of (h1 c hc)
  obtain ⟨ds, e2, hl⟩ := h2 _ hm
  exact ⟨ds, by rw [e]; exact congrArg some e2, hl⟩
theorem ShG.up {gs : List (Addr × D)} {cs : List Addr} {N : Nat} (h : ShG gs cs N) {c : Addr} {ds : List D} (hl : ds.length ≤ N + 1) : ShG (upG gs c (.lst ds)) cs (N + 1) := fun b hb => by
  obtain ⟨us, e, hu⟩ := h b hb
  rw [lkG_upG]
  by_cases z : b = c
  · rw [if_pos z, e]
    exact ⟨ds, rfl, hl⟩
  · rw [if_neg z]
    exact ⟨us, e, by omega⟩
theorem ShG.off {gs : List (Addr × D)} {cs : List Addr} {N : Nat} (h : ShG gs cs N) {c : Addr} {d : D} (hc : c ∉ cs) : ShG (upG gs c d) cs N := fun b hb => by
  obtain ⟨us, e, hu⟩ := h b hb
  rw [lkG_upG, if_neg (fun z : b = c => hc (z ▸ hb))]
  exact ⟨us, e, hu⟩
def pkd (Z : List (List D × Bool)) : List D := Z.map fun z => .tup [.lst z.1, if z.2 = true then .tup z.1 else .non]
theorem pkd_fst (Z : List (List D × Bool)) : (pkd Z).map fstM = Z.map fun z => D.lst z.1 := by
  unfold pkd
  rw [List.map_map]
  rfl
theorem ro_mix {a : Addr} {bs : List Addr} {Z : List (List D × Bool)} (hl : bs.length = Z.length) : RoA ((a, .lst (mixL bs (pkd Z))) :: bs.zip (Z.map fun z => D.lst z.1)) (.rol (Z.map fun z => if z.2 = true then D.tup z.1 else D.rol z.1) :: Z.map fun z => D.rol z.1) ∧
    Up ((((a, D.lst (mixL bs (pkd Z))) :: bs.zip (Z.map fun z => D.lst z.1)).map (·.1)).zip (.rol (Z.map fun z => if z.2 = true then D.tup z.1 else D.rol z.1) :: Z.map fun z => D.rol z.1)) (.hnd a) (.rol (Z.map fun z => if z.2 = true then D.tup z.1 else D.rol z.1)) := by
  have rfl1 : ∀ {m : List (Addr × D)} (c : List D), UpL m c c := fun {m} c => by
    induction c with
    | nil => exact .nil
    | cons d c ih => exact .cons (.refl d) ih
  have f1 : ∀ {bs : List Addr} {Z : List (List D × Bool)}, bs.length = Z.length → RoA (bs.zip (Z.map fun z => D.lst z.1)) (Z.map fun z => D.rol z.1) := fun {bs} => by
    induction bs with
    | nil => intro Z h; rw [List.length_eq_zero_iff.mp h.symm]; exact .nil
    | cons b bs ih =>
      intro Z h
      cases Z with
      | nil => simp at h
      | cons c Z => exact .cons (ih (by simpa using h)) (rfl1 c.1)
  have e1 : (bs.zip (Z.map fun z => D.lst z.1)).map (·.1) = bs := List.map_fst_zip (by rw [List.length_map]; omega)
  have f2 : ∀ {m : List (Addr × D)} {bs : List Addr} {Z : List (List D × Bool)}, bs.length = Z.length → (∀ x ∈ bs.zip (Z.map fun z => D.rol z.1), x ∈ m) → UpL m (mixL bs (pkd Z)) (Z.map fun z => if z.2 = true then D.tup z.1 else D.rol z.1) := fun {m bs} => by
    induction bs with
    | nil => intro Z h _; rw [List.length_eq_zero_iff.mp h.symm]; exact .nil
    | cons b bs ih =>
      intro Z h hm
      cases Z with
      | nil => simp at h
      | cons c Z =>
        obtain ⟨c, t⟩ := c
        refine .cons ?_ (ih (by simpa using h) fun x hx => hm x (List.mem_cons_of_mem _ hx))
        cases t with
        | true => exact .refl _
        | false => exact .hnd (hm _ (List.mem_cons_self ..))
  refine ⟨.cons (f1 hl) (f2 hl fun x hx => by rw [e1]; exact hx), .hnd ?_⟩
  rw [List.map_cons, List.zip_cons_cons]
  exact List.mem_cons_self ..
theorem mix_map : ∀ {bs : List Addr} {Z : List (List D × Bool)}, bs.length = Z.length → mixL bs (pkd Z) = (bs.zip Z).map fun x => if x.2.2 = true then D.tup x.2.1 else D.hnd x.1
  | [], [], _ => rfl
  | [], _ :: _, h => by simp at h
  | _ :: _, [], h => by simp at h
  | b :: bs, (c, t) :: Z, h => by
    show mixD b (if t = true then D.tup c else D.non) :: mixL bs (pkd Z) = (if t = true then D.tup c else D.hnd b) :: _
    rw [mix_map (by simpa using h)]
    cases t <;> rfl
theorem pick_hnd : ∀ (L : List (Addr × List D × Bool)), ∃ cs : List Addr, L.filterMap (fun x => if x.2.2 = true then none else some (D.hnd x.1)) = cs.map D.hnd ∧ cs.length ≤ L.length ∧ ∀ c ∈ cs, c ∈ L.map (·.1)
  | [] => ⟨[], rfl, Nat.le_refl _, fun _ h => nomatch h⟩
  | (b, c, t) :: L => by
    obtain ⟨cs, h1, h2, h3⟩ := pick_hnd L
    cases t with
    | true => exact ⟨cs, h1, Nat.le_succ_of_le h2, fun x hx => List.mem_cons_of_mem _ (h3 x hx)⟩
    | false =>
      refine ⟨b :: cs, ?_, Nat.succ_le_succ h2, fun x hx => ?_⟩
      · show D.hnd b :: L.filterMap _ = D.hnd b :: cs.map D.hnd
        rw [h1]
      · rcases List.mem_cons.mp hx with rfl | hx
        · exact List.mem_cons_self ..
        · exact List.mem_cons_of_mem _ (h3 x hx)
theorem tnr_tb {p : Int} (w : Nat) (R : List (List (LP p))) : nrD (tb w R) = true := by
  have e1 : nrD (.lst (R.map rowT)) = true := by
    rw [nrD]
    refine tnrL _ fun r _ => ?_
    unfold rowT
    rw [nrD]
    exact tnrL _ fun x _ => tnr_fob _ _
  unfold tb tbf
  rw [nrD, nrF, nrF, nrF, nrF, tnr_int, tnr_int, e1]; rfl
theorem zip_eq {p : Int} {Z : List (List D × Bool)} {T : List (List (LP p))} (h : Z.map (·.1) = T.map (fun r => r.map fo)) : ∀ x ∈ Z.zip T, x.1.1 = x.2.map fo := fun x hx => by
  obtain ⟨i, hi, e⟩ := List.mem_iff_getElem.mp hx
  have hl : Z.length = T.length := by have := congrArg List.length h; simpa using this
  rw [List.length_zip] at hi
  have h1 : i < Z.length := by omega
  have h2 : i < T.length := by omega
  have h3 : (Z.map (·.1))[i]? = (T.map (fun r => r.map fo))[i]? := by rw [h]
  rw [List.getElem?_map, List.getElem?_map, List.getElem?_eq_getElem h1, List.getElem?_eq_getElem h2] at h3
  rw [List.getElem_zip] at e
  rw [← e]
  exact Option.some.inj h3
end My

open DL in
local macro_rules | `(tactic| walk_at "d") => `(tactic| simp only [dNext, dSeq, dRet, dRetN, dExp, dIfS, dBreak, dCont, dSet, dSetSl, slD, dCallE, endsE, dOwn, dFrz, dApp, dPut, dPut2, dSetIx, dAugIx, dFldSet, dPar, dPar2, dPar3, dPar4, dPar5, slV, slO, dExt, dIns, dSwap, dSetT, dSetR, dItems, dDisp, kv0, kvC, iKy, iIt, iIterO, iMixO, dListO, dLend, dClr, dAppT, dRes, withG, dAppG, dAppGF, dExtG, dPutG, dSetIxG, dFldG, dFldGF, dOG, dGO, dFrzR, dLcF, dRetSl, resG, ownQ, dStep, fDivmod, iEn, iZp, iEnO, iZpO, srcD, dNever, dNeverE, dBinO, dAugO, dEqO, dNeO, dGetO, dNegO, dTruO, dNotO, dRmulO, dLEn, dLZp, dLR2, dLR3, dStarD, iEnK, iZpK, fBoolL, dRetF, dRetO, endsF, fEqDct, dTry, dRaise, dRaise0, dLam, catchD, dLamT, catchT, dEqXT, fRepr, seqLike, fReprX, fEqE, fIsnE, fNil, dMethE, slDG, dLcM, dLcG, dPickM, dSetd, dNeX, dOrX, dSetX, dEither, dHeld, dPop, dPop0, dAsg, dFor, dAnd, dOr, dNot, dIf, dAndT, dOrT, dNotT, dTest, bq, bd, dVar, bVar, dC, dOp, fI0, fI, fAdd, fSub, fRepL, fMulS, fMul, fDiv, fMod, fPow, fLt, fLe, fGt, fGe, fEq, fNe, fIs, fIsNot, fIsB, fIn, fInX, isNonD, flatD, seqD, dNil, dCons, dTup, dLst, dEmp, fIx, fDg, keyD, dCB, f1, fLen, lenD, fAbs, fInt, fList, fTuple, fSeqInts, fMin2, fMax2, fSum, fMax, fMin, fSorted, fBools, fAnyI, gN, gs0, gsC, gT, gTn, gTl, iSq, iR1, iR2, iR3, iRB, iRevN, dCall, dMeth, dMake, dMakeV, dCMeth, dCallK, dMethK0, dMethK, dMakeK, dCMethK, sel_nil, sel_cons, List.drop_succ_cons, List.drop_zero, List.take_succ_cons, List.take_zero, dCallO, dCallX, dBoolO, dLenO, dInO, dEqX, dFld, dNeg, dChain, truD, dTru, oNone, oSome, dSl, dSlT, dRev, dGet2, fDin, isD, fDict, opt, endsD, endsI, qI, startD, startI, DEnds.xx, dLc, wipeD, dYes, List.map_cons, List.map_nil, List.length_cons, List.length_nil, List.cons_append, List.nil_append, List.append_nil, List.getElem?_cons_zero, List.getElem?_cons_succ, List.set_cons_zero, List.set_cons_succ, List.replicate_succ, List.replicate_zero, Nat.reduceAdd, Nat.reduceSub, Nat.reduceLT, true_and, and_true, Bool.false_eq_true, if_true, if_false, ite_true, ite_false, My.isa_int_int, My.isa_int_bool, My.isa_int_list, My.isa_int_tuple, My.isa_int_str, My.isa_int_NoneType, My.isa_int_dict, My.isa_int_own, My.isa_bool_int, My.isa_bool_bool, My.isa_bool_list, My.isa_bool_tuple, My.isa_bool_str, My.isa_bool_NoneType, My.isa_bool_dict, My.isa_bool_own, My.isa_list_int, My.isa_list_bool, My.isa_list_list, My.isa_list_tuple, My.isa_list_str, My.isa_list_NoneType, My.isa_list_dict, My.isa_list_own, My.isa_tuple_int, My.isa_tuple_bool, My.isa_tuple_list, My.isa_tuple_tuple, My.isa_tuple_str, My.isa_tuple_NoneType, My.isa_tuple_dict, My.isa_tuple_own, My.ty_int, My.ty_bl, My.ty_str, My.ty_lst, My.ty_rol, My.ty_tup, My.ty_dct, My.ty_non, My.ty_obj, My.own_b, My.own_Filter, My.isOb_Filter, My.mem_Filter, My.isO_Filter_Filter, My.isO_Filter_Sequence, My.isO_Filter_Table, My.own_Sequence, My.isOb_Sequence, My.mem_Sequence, My.isO_Sequence_Filter, My.isO_Sequence_Sequence, My.isO_Sequence_Table, My.own_Table, My.isOb_Table, My.mem_Table, My.isO_Table_Filter, My.isO_Table_Sequence, My.isO_Table_Table, My.so, My.lkS1, My.lkS2, My.lkS3, My.lkS4, My.tb, My.lkT1, My.lkT2, My.lkT3, My.rowL, My.rowT, List.any_cons, List.any_nil, Bool.or_false, Bool.or_true, Bool.false_or, Bool.true_or, Bool.not_true, Bool.not_false, and_self, My.trm, My.ix0, My.ix1, My.get_kvp, My.put_kvp, My.keys_kvp, List.length_map, My.lk1, My.lk2, My.lk3, My.lkT, My.fob, My.fo, My.dk, My.tl, My.sh_int, My.sh_bl, My.eq_int, My.eq_bl])

namespace My
open PySem PySem.Spec L2 DL
theorem sc_is_integer : FnScope ["thing"] ["thing"] (defScope (top 3)) := ⟨rfl, rfl, rfl, by decide +kernel, rfl, by decide +kernel, by decide +kernel⟩
section
variable {P : Program} {w : World} {K : PySem.W.Frag} {mg : Str → Option Value} {base : Heap}
theorem ok_is_integer (T : Top K mg) : Sg P w K mg base "is_integer" 1 1 F_is_integer [] := by
  obtain ⟨fd, FD⟩ := T.d_is_integer
  refine ⟨_, fd, ["thing"], [], [], ?_, T.g_is_integer, FD.kp, FD.bindsN (fun _ _ _ _ _ _ us hl => match us, hl with | [_], _ => rfl), .nil, fun _ => .nil⟩
  refine ok_def FD sc_is_integer rfl ?_
  rintro X E W ds n q xx ⟨cdv, A, outer, s, H, rfl⟩ hr tk pso hl hF
  have hu := hr.units
  have hu1 := hu_of hr
  refine ⟨_, (pss_oneD (ps_retD (pd_and (pd_isiB T.tyf (T.kb_int) (by rfl) T.f_isinstance (by rfl) T.f_int (by decide +kernel) (pb_var 0)) (pd_one (pd_not (pd_isiB T.tyf (T.kb_bool) (by rfl) T.f_isinstance (by rfl) T.f_bool (by decide +kernel) (pb_var 0))))))), ?_⟩
  clear hr tk pso hl hu hu1
  match ds, hF with
  | [d], hF =>
    obtain ⟨⟨t, e, hc⟩, hq⟩ := hF
    walk_at "d"
    rw [e]
    refine ⟨hc, ?_⟩
    cases d <;> cases e <;> simpa [isInt, isaB] using hq
end

end My

namespace My
open PySem PySem.Spec L2 DL
theorem sc_is_list : FnScope ["thing"] ["thing"] (defScope (top 4)) := ⟨rfl, rfl, rfl, by decide +kernel, rfl, by decide +kernel, by decide +kernel⟩
section
variable {P : Program} {w : World} {K : PySem.W.Frag} {mg : Str → Option Value} {base : Heap}
theorem ok_is_list (T : Top K mg) : Sg P w K mg base "is_list" 1 1 F_is_list [] := by
  obtain ⟨fd, FD⟩ := T.d_is_list
  refine ⟨_, fd, ["thing"], [], [], ?_, T.g_is_list, FD.kp, FD.bindsN (fun _ _ _ _ _ _ us hl => match us, hl with | [_], _ => rfl), .nil, fun _ => .nil⟩
  refine ok_def FD sc_is_list rfl ?_
  rintro X E W ds n q xx ⟨cdv, A, outer, s, H, rfl⟩ hr tk pso hl hF
  have hu := hr.units
  have hu1 := hu_of hr
  refine ⟨_, (pss_oneD (ps_retD (pd_isiT T.tyf (T.kt_list_tuple) (by rfl) T.f_isinstance (pa_cons (pe_bltn (v := .ty "list") (by rfl) T.f_list (by decide +kernel) rfl) (pa_cons (pe_bltn (v := .ty "tuple") (by rfl) T.f_tuple (by decide +kernel) rfl) pa_nil)) (fun _ _ _ h => h) (.cons (.ty "list") (.cons (.ty "tuple") .nil)) (by decide) (pb_var 0)))), ?_⟩
  clear hr tk pso hl hu hu1
  match ds, hF with
  | [d], hF =>
    obtain ⟨⟨t, e, hc⟩, hq⟩ := hF
    walk_at "d"
    rw [e]
    refine ⟨hc, ?_⟩
    cases d <;> cases e <;> simpa [isLst, isaB] using hq
end

end My

namespace My
open PySem PySem.Spec L2 DL
theorem sc_is_prime : FnScope ["thing"] ["thing"] (defScope (top 5)) := ⟨rfl, rfl, rfl, by decide +kernel, rfl, by decide +kernel, by decide +kernel⟩
section
variable {P : Program} {w : World} {K : PySem.W.Frag} {mg : Str → Option Value} {base : Heap}
theorem ok_is_prime (T : Top K mg) : Sg P w K mg base "is_prime" 2 1 F_is_prime [] := by
  obtain ⟨fd, FD⟩ := T.d_is_prime
  refine ⟨_, fd, ["thing"], [], [], ?_, T.g_is_prime, FD.kp, FD.bindsN (fun _ _ _ _ _ _ us hl => match us, hl with | [_], _ => rfl), .nil, fun _ => .nil⟩
  refine ok_def FD sc_is_prime rfl ?_
  rintro X E W ds n q xx ⟨cdv, A, outer, s, H, rfl⟩ hr tk pso hl hF
  have hu := hr.units
  have hu1 := hu_of hr
  refine ⟨_, (pss_oneD (ps_retD (pd_and (pd_call (ok_is_integer T) (hr.mono (by decide)) tk (by rfl) (pad_cons (pd_var 0) pad_nil)) (pd_one (pd_in (pb_var 0) (PD.pb (pd_globR (by rfl) T.g_PRIMES (T.c_PRIMES)))))))), ?_⟩
  clear hr tk pso hl hu hu1
  match ds, hF with
  | [.int p], hF =>
    have hq : q (.bl (isPr p)) n := hF
    walk_at "d"
    refine ⟨ok_int p, ?_⟩
    show [D.int 2, D.int 3, D.int 5, D.int 7].all flatD = true ∧ _
    refine ⟨rfl, ?_⟩
    have e : isPr p = (eqD (D.int 2) (D.int p) || (eqD (D.int 3) (D.int p) || (eqD (D.int 5) (D.int p) || eqD (D.int 7) (D.int p)))) := by
      rw [Bool.eq_iff_iff]
      simp only [isPr, eqD, List.contains_cons, List.contains_nil, Bool.or_false, Bool.or_eq_true, beq_iff_eq]
      omega
    rw [← e]
    exact hq
end

end My

namespace My
open PySem PySem.Spec L2 DL
theorem sc_is_row : FnScope ["prime", "width", "thing", "entry"] ["prime", "width", "thing"] (defScope (top 48)) := ⟨rfl, rfl, rfl, by decide +kernel, rfl, by decide +kernel, by decide +kernel⟩
section
variable {P : Program} {w : World} {K : PySem.W.Frag} {mg : Str → Option Value} {base : Heap}
open Classical in
theorem isF_fo {p : Int} (y : LP p) : isF p (fo y) = true := by
  unfold isF
  exact decide_eq_true ⟨y, rfl⟩
open Classical in
theorem isF_no {p : Int} {x : D} (h : ∀ c fs, x ≠ .obj c fs) : isF p x = false := by
  unfold isF
  exact decide_eq_false (fun ⟨y, e⟩ => h _ _ e)
open Classical in
theorem isF_bad {p : Int} {x : D} (h : BadE p x) : isF p x = false := by
  rcases h with ⟨_, h⟩ | ⟨p', y', ne, rfl⟩
  · exact isF_no h
  · unfold isF
    refine decide_eq_false fun ⟨y, e⟩ => ne ?_
    unfold fo fob flt at e
    injection e with _ e
    injection e with e _
    injection e with _ e
    injection e
theorem ok_is_row (T : Top K mg) : Sg P w K mg base "is_row" 2 3 F_is_row [] := by
  obtain ⟨fd, FD⟩ := T.d_is_row
  refine ⟨_, fd, ["prime", "width", "thing"], [], [], ?_, T.g_is_row, FD.kp, FD.bindsN (fun _ _ _ _ _ _ us hl => match us, hl with | [_, _, _], _ => rfl), .nil, fun _ => .nil⟩
  refine ok_def FD sc_is_row rfl ?_
  rintro X E W ds n q xx ⟨cdv, A, outer, s, H, rfl⟩ hr tk pso hl hF
  have hu := hr.units
  have hu1 := hu_of hr
  refine ⟨_, (pss_consD (ps_ifD (PWD.pt (pwd_or (ptd_not (pt_valD (PD.pb (pd_call (ok_is_list T) (hr.mono (by decide)) tk (by rfl) (pad_cons (pd_var 2) pad_nil))))) (pwd_or1 (pt_ne hu (PD.pb (pd_callB call_lenD2 dcall_len (by rfl) T.f_len (by decide +kernel) (pab_cons (pb_var 2) pab_nil))) (pb_var 1))))) (pss_oneD (ps_retD pd_bl)) pss_nilD)
      (pss_oneD (ps_retD (pd_callB (cr_all rfl) dcall_all (by rfl) T.f_all (by decide +kernel) (pab_cons (PD.pb (PF.pd (pf_lc [("entry", 3)] rfl sc_is_row.nd (pid_seq (pd_var 2)) (blkOk_by (own := [("entry", 3)]) (N := ["prime", "width", "thing", "entry"]) (sc := defScope (top 48)) (by decide +kernel)) (fun _ _ _ _ _ => (pgd_name 3 sc_is_row.nd)) (fun _ _ _ _ _ => ptsD_nil) (fun _ _ _ _ _ => (pd_and (pd_isiO T.tyf (T.ko_Filter) (by rfl) T.f_isinstance (by rfl) T.g_Filter (pb_var 3)) (pd_one (pd_eq hu (PD.pb (pd_fld ["Filter"] T.fld_Filter_prime (pb_var 3))) (pb_var 0)))))))) pab_nil))))), ?_⟩
  clear hr tk pso hl hu hu1
  obtain ⟨p, w, d, rfl, ht, hq⟩ := hF
  walk_at "d"
  refine ⟨ht, ?_⟩
  rcases hq with ⟨h1, hq⟩ | ⟨l, h1, hne, hq⟩ | ⟨r, h1, hl, hl2, hq⟩
  · rw [show isLst d = false from by cases d <;> first | rfl | cases h1]
    walk_at "d"
    exact hq
  · rcases seq_cases h1 with rfl | rfl | rfl
    all_goals
      simp only [isLst]
      walk_at "d"
      rw [eqv_int]
      by_cases hlw : (l.length : Int) = w
      · rw [decide_eq_true hlw]
        obtain ⟨b1, b2, b3⟩ := hne.resolve_left (fun z => z hlw)
        walk_at "d"
        have go : ∀ (x1 x2 x3 : Option Sl), ∀ q2 : List D → Nat → Prop, q2 (l.map fun x => D.bl (isF p x)) n → lcD W (gN 3) dYes (dAnd (isD CS (isaO sub (Str.ofString "Filter")) (bVar 3)) (dOp fEq (dFld [Str.ofString "Filter"] (Str.ofString "prime") (bVar 3)) (bVar 0))) l [some (.val (.int p)), x1, x2, x3] n [] q2 := by
          intro x1 x2 x3 q2 h2
          have := lcD_all (w := W) (γ := gN 3) (tt := dYes) (te := dAnd (isD CS (isaO sub (Str.ofString "Filter")) (bVar 3)) (dOp fEq (dFld [Str.ofString "Filter"] (Str.ofString "prime") (bVar 3)) (bVar 0))) (ρ := [some (.val (.int p)), x1, x2, x3]) (n := n) id (fun x => D.bl (isF p x)) l q2 (fun x hx K h => by
            rcases b2 x hx with ⟨y, rfl⟩ | ⟨t1, t2⟩ | ⟨p', y', ne, rfl⟩
            · rw [isF_fo] at h
              unfold id
              walk_at "d"
              exact h
            · rw [isF_no t2] at h
              unfold id
              obtain ⟨ty, t3, t4⟩ := t1
              cases x with
              | obj c fs => exact absurd rfl (t2 c fs)
              | hnd a => cases t3
              | exc a b c d => cases t3
              | _ =>
                walk_at "d"
                exact h
            · rw [isF_bad (.inr ⟨p', y', ne, rfl⟩)] at h
              unfold id
              walk_at "d"
              rw [eqv_int, decide_eq_false ne]
              exact h) (by omega) h2
          rw [List.map_id] at this
          exact this
        refine go _ _ _ _ ?_
        rw [bools_of]
        have hall : (l.map fun x => isF p x).all id = false := by
          obtain ⟨x, hx, t1⟩ := b3
          rw [List.all_eq_false]
          refine ⟨false, List.mem_map.mpr ⟨x, hx, ?_⟩, by decide⟩
          exact isF_bad t1
        dsimp only
        rw [hall]
        exact hq
      · rw [decide_eq_false hlw]
        walk_at "d"
        exact hq
  · rcases seq_cases h1 with rfl | rfl | rfl
    all_goals
      simp only [isLst]
      walk_at "d"
      rw [eqv_int, decide_eq_true hl]
      walk_at "d"
      refine lcD_all _ (fun _ => D.bl true) _ _ (fun x hx K h => ?_) (by omega) ?_
      · walk_at "d"
        exact h
      rw [all_yesB]
      simp only []
      rw [all_yesA]
      exact hq
end

end My

namespace My
open PySem PySem.Spec L2 DL
theorem sc_Table___init__ : FnScope ["self", "prime", "width", "rows", "index", "row"] ["self", "prime", "width", "rows"] (defScope (inClass (top 51) 0)) := ⟨rfl, rfl, rfl, by decide +kernel, rfl, by decide +kernel, by decide +kernel⟩
section
variable {P : Program} {w : World} {K : PySem.W.Frag} {mg : Str → Option Value} {base : Heap}
theorem ok_Table___init__ (T : Top K mg) : Ig P w K mg base "Table" 3 4 F_Table___init__ [] := by
  obtain ⟨fd, FD⟩ := T.d_Table___init__
  obtain ⟨ds0, rv, hb⟩ := FD.binds1 (ps := ["self", "prime", "width", "rows"]) 4 1 (by intro z; cases z) rfl (fun T kV doc pm an cdv ct us its h1 h2 => match us, h1, its, h2 with | [_, _, _, _], _, [_], _ => ⟨_, rfl, rfl⟩)
  cases rv
  refine ⟨T.g_Table, _, fd, ["self", "prime", "width", "rows"], [], [], ?_, T.mk_Table, hb, .nil, fun _ => .nil⟩
  refine ok_init FD sc_Table___init__ rfl ?_
  rintro X E W ds n q xx ⟨cdv, A, outer, s, H, rfl⟩ hr tk pso hl hF
  have hu := hr.units
  have hu1 := hu_of hr
  refine ⟨_, (pss_consD (ps_ifD (ptd_not (pt_valD (PD.pb (pd_call (ok_is_prime T) (hr.mono (by decide)) tk (by rfl) (pad_cons (pd_var 1) pad_nil))))) (pss_oneD ps_neverD) pss_nilD)
      (pss_consD (ps_ifD (PWD.pt (pwd_or (ptd_not (pt_valD (PD.pb (pd_call (ok_is_integer T) (hr.mono (by decide)) tk (by rfl) (pad_cons (pd_var 2) pad_nil))))) (pwd_or1 (pt_lt (pb_var 2) (PD.pb pd_int))))) (pss_oneD ps_neverD) pss_nilD)
      (pss_consD (ps_ifD (ptd_not (pt_valD (PD.pb (pd_call (ok_is_list T) (hr.mono (by decide)) tk (by rfl) (pad_cons (pd_var 3) pad_nil))))) (pss_oneD ps_neverD) pss_nilD)
      (pss_consD (ps_forD pso rfl (pid_enumK (by rfl) T.f_enumerate (pad_cons (pd_var 3) pad_nil)) (pgd_tup (m := 2) rfl (pgsd_cons (pgd_name 4 sc_Table___init__.nd) (pgsd_cons (pgd_name 5 sc_Table___init__.nd) pgsd_nil))) (pss_oneD (ps_ifD (ptd_not (pt_valD (PD.pb (pd_call (ok_is_row T) (hr.mono (by decide)) tk (by rfl) (pad_cons (pd_var 1) (pad_cons (pd_var 2) (pad_cons (pd_var 5) pad_nil))))))) (pss_oneD ps_neverD) pss_nilD)))
      (pss_consD (ps_fldD 0 (T.fld_Table_prime _ (List.mem_singleton_self _)).1 (T.fld_Table_prime _ (List.mem_singleton_self _)).2 (pd_var 1))
      (pss_consD (ps_fldD 0 (T.fld_Table_width _ (List.mem_singleton_self _)).1 (T.fld_Table_width _ (List.mem_singleton_self _)).2 (pd_var 2))
      (pss_oneD (ps_fldD 0 (T.fld_Table_kept _ (List.mem_singleton_self _)).1 (T.fld_Table_kept _ (List.mem_singleton_self _)).2 (PF.pd (pf_lc [("row", 5)] rfl sc_Table___init__.nd (pid_seq (pd_var 3)) (blkOk_by (own := [("row", 5)]) (N := ["self", "prime", "width", "rows", "index", "row"]) (sc := defScope (inClass (top 51) 0)) (by decide +kernel)) (fun _ _ _ _ _ => (pgd_name 5 sc_Table___init__.nd)) (fun _ _ _ _ _ => ptsD_nil) (fun _ _ _ _ _ => (pd_callTy call_tuple_of dcall_tuple (by rfl) T.f_tuple (by decide +kernel) (pab_cons (pb_var 5) pab_nil))))))))))))), ?_⟩
  clear hr tk pso hl hu hu1
  obtain ⟨p, w, d, Z, rfl, hp, hw0, hw, hsq, hZ, hR, hq⟩ := hF
  have hp0 := isPr_pos hp
  refine dSeq_at fun R1 hR1 => ?_
  walk_at "d"
  rw [F_is_prime]
  simp only [hp, bq]
  walk_at "d"
  subst hR1
  refine dSeq_at fun R2 hR2 => ?_
  walk_at "d"
  refine ⟨ok_int _, ?_⟩
  simp only [isInt, bq]
  rw [decide_eq_false (show ¬ (w : Int) < 1 by omega)]
  walk_at "d"
  subst hR2
  refine dSeq_at fun R3 hR3 => ?_
  walk_at "d"
  refine ⟨tyOk_seq hsq, ?_⟩
  rw [show isLst d = true from by rcases seq_cases hsq with rfl | rfl | rfl <;> rfl]
  walk_at "d"
  subst hR3
  refine dSeq_at fun R4 hR4 => ?_
  have key : ∀ y4 y5, R4 [some (.own (.obj "Table" [])), some (.val (.int p)), some (.val (.int (w : Int))), some (.val d), y4, y5] n := by
    intro y4 y5
    subst hR4
    rcases seq_cases hsq with rfl | rfl | rfl
    all_goals
      walk_at "d"
      refine ⟨by show 1 < 1000; decide, by show 2 < 1000; decide, ?_⟩
      refine lcD_all (fun (z : D × List (LP p)) => z.1) (fun z => rowT z.2) Z _ (fun z hz K h => ?_) (by omega) ?_
      · obtain ⟨h1, h2⟩ := hR z hz
        walk_at "d"
        rcases seq_cases h1 with e | e | e <;> (rw [e]; walk_at "d"; exact h)
      have e1 : Z.map (fun z => rowT z.2) = (Z.map (·.2)).map rowT := by rw [List.map_map]; rfl
      rw [set_tbf, e1]
      exact hq
  have loop : ∀ y4 y5, forD (gTn 2 (gsC (gN 4) (gsC (gN 5) gs0))) (dIfS (dNotT (dTest (dCall 3 F_is_row [] (dCons (dVar 1) (dCons (dVar 2) (dCons (dVar 5) dNil)))))) dNever dNext) (enumD (Z.map (·.1))) { (endsI W "Table" q xx) with nx := R4 } [some (.own (.obj "Table" [])), some (.val (.int p)), some (.val (.int (w : Int))), some (.val d), y4, y5] n := by
    intro y4 y5
    rw [enum_map (fun (z : D × List (LP p)) => z.1) (D.non, []) Z]
    refine forD_pre (List.range Z.length) (fun pre ρ n' => ∃ y4 y5, n' = n ∧ ρ = [some (.own (.obj "Table" [])), some (.val (.int p)), some (.val (.int (w : Int))), some (.val d), y4, y5]) (fun pre i post e ρ n' K hI hK => ?_) (fun ρ n' hI => ?_) ⟨_, _, rfl, rfl⟩
    · obtain ⟨y4, y5, rfl, rfl⟩ := hI
      obtain ⟨rfl, hpl⟩ := range_split e
      obtain ⟨h1, h2⟩ := hR _ (getD_mem (z := (D.non, ([] : List (LP p)))) hpl)
      walk_at "d"
      refine ⟨p, w, _, rfl, tyOk_seq h1, .inr (.inr ⟨_, h1, by omega, by omega, ?_⟩)⟩
      walk_at "d"
      exact hK _ _ ⟨_, _, rfl, rfl⟩
    · obtain ⟨y4, y5, rfl, rfl⟩ := hI
      exact key y4 y5
  rcases seq_cases hsq with rfl | rfl | rfl
  all_goals
    walk_at "d"
    exact loop _ _
theorem ok_Table___init___d1 (T : Top K mg) : Ig P w K mg base "Table" 3 4 F_Table___init__ [.tup []] := by
  obtain ⟨fd, FD⟩ := T.d_Table___init__
  obtain ⟨ds0, rv, hb⟩ := FD.binds1 (ps := ["self", "prime", "width", "rows"]) 3 0 (by intro z; cases z) rfl (fun T kV doc pm an cdv ct us its h1 h2 => match us, h1, its, h2 with | [_, _, _], _, [_], _ => ⟨_, rfl, rfl⟩)
  refine ⟨T.g_Table, _, fd, ["self", "prime", "width", "rows"], ds0, _, ?_, T.mk_Table, hb, rv, fun G => .cons (T.dfl_Table___init__ G) .nil⟩
  refine ok_init FD sc_Table___init__ rfl ?_
  rintro X E W ds n q xx ⟨cdv, A, outer, s, H, rfl⟩ hr tk pso hl hF
  have hu := hr.units
  have hu1 := hu_of hr
  refine ⟨_, (pss_consD (ps_ifD (ptd_not (pt_valD (PD.pb (pd_call (ok_is_prime T) (hr.mono (by decide)) tk (by rfl) (pad_cons (pd_var 1) pad_nil))))) (pss_oneD ps_neverD) pss_nilD)
      (pss_consD (ps_ifD (PWD.pt (pwd_or (ptd_not (pt_valD (PD.pb (pd_call (ok_is_integer T) (hr.mono (by decide)) tk (by rfl) (pad_cons (pd_var 2) pad_nil))))) (pwd_or1 (pt_lt (pb_var 2) (PD.pb pd_int))))) (pss_oneD ps_neverD) pss_nilD)
      (pss_consD (ps_ifD (ptd_not (pt_valD (PD.pb (pd_call (ok_is_list T) (hr.mono (by decide)) tk (by rfl) (pad_cons (pd_var 3) pad_nil))))) (pss_oneD ps_neverD) pss_nilD)
      (pss_consD (ps_forD pso rfl (pid_enumK (by rfl) T.f_enumerate (pad_cons (pd_var 3) pad_nil)) (pgd_tup (m := 2) rfl (pgsd_cons (pgd_name 4 sc_Table___init__.nd) (pgsd_cons (pgd_name 5 sc_Table___init__.nd) pgsd_nil))) (pss_oneD (ps_ifD (ptd_not (pt_valD (PD.pb (pd_call (ok_is_row T) (hr.mono (by decide)) tk (by rfl) (pad_cons (pd_var 1) (pad_cons (pd_var 2) (pad_cons (pd_var 5) pad_nil))))))) (pss_oneD ps_neverD) pss_nilD)))
      (pss_consD (ps_fldD 0 (T.fld_Table_prime _ (List.mem_singleton_self _)).1 (T.fld_Table_prime _ (List.mem_singleton_self _)).2 (pd_var 1))
      (pss_consD (ps_fldD 0 (T.fld_Table_width _ (List.mem_singleton_self _)).1 (T.fld_Table_width _ (List.mem_singleton_self _)).2 (pd_var 2))
      (pss_oneD (ps_fldD 0 (T.fld_Table_kept _ (List.mem_singleton_self _)).1 (T.fld_Table_kept _ (List.mem_singleton_self _)).2 (PF.pd (pf_lc [("row", 5)] rfl sc_Table___init__.nd (pid_seq (pd_var 3)) (blkOk_by (own := [("row", 5)]) (N := ["self", "prime", "width", "rows", "index", "row"]) (sc := defScope (inClass (top 51) 0)) (by decide +kernel)) (fun _ _ _ _ _ => (pgd_name 5 sc_Table___init__.nd)) (fun _ _ _ _ _ => ptsD_nil) (fun _ _ _ _ _ => (pd_callTy call_tuple_of dcall_tuple (by rfl) T.f_tuple (by decide +kernel) (pab_cons (pb_var 5) pab_nil))))))))))))), ?_⟩
  clear hr tk pso hl hu hu1
  obtain ⟨p, w, d, Z, rfl, hp, hw0, hw, hsq, hZ, hR, hq⟩ := hF
  have hp0 := isPr_pos hp
  refine dSeq_at fun R1 hR1 => ?_
  walk_at "d"
  rw [F_is_prime]
  simp only [hp, bq]
  walk_at "d"
  subst hR1
  refine dSeq_at fun R2 hR2 => ?_
  walk_at "d"
  refine ⟨ok_int _, ?_⟩
  simp only [isInt, bq]
  rw [decide_eq_false (show ¬ (w : Int) < 1 by omega)]
  walk_at "d"
  subst hR2
  refine dSeq_at fun R3 hR3 => ?_
  walk_at "d"
  refine ⟨tyOk_seq hsq, ?_⟩
  rw [show isLst d = true from by rcases seq_cases hsq with rfl | rfl | rfl <;> rfl]
  walk_at "d"
  subst hR3
  refine dSeq_at fun R4 hR4 => ?_
  have key : ∀ y4 y5, R4 [some (.own (.obj "Table" [])), some (.val (.int p)), some (.val (.int (w : Int))), some (.val d), y4, y5] n := by
    intro y4 y5
    subst hR4
    rcases seq_cases hsq with rfl | rfl | rfl
    all_goals
      walk_at "d"
      refine ⟨by show 1 < 1000; decide, by show 2 < 1000; decide, ?_⟩
      refine lcD_all (fun (z : D × List (LP p)) => z.1) (fun z => rowT z.2) Z _ (fun z hz K h => ?_) (by omega) ?_
      · obtain ⟨h1, h2⟩ := hR z hz
        walk_at "d"
        rcases seq_cases h1 with e | e | e <;> (rw [e]; walk_at "d"; exact h)
      have e1 : Z.map (fun z => rowT z.2) = (Z.map (·.2)).map rowT := by rw [List.map_map]; rfl
      rw [set_tbf, e1]
      exact hq
  have loop : ∀ y4 y5, forD (gTn 2 (gsC (gN 4) (gsC (gN 5) gs0))) (dIfS (dNotT (dTest (dCall 3 F_is_row [] (dCons (dVar 1) (dCons (dVar 2) (dCons (dVar 5) dNil)))))) dNever dNext) (enumD (Z.map (·.1))) { (endsI W "Table" q xx) with nx := R4 } [some (.own (.obj "Table" [])), some (.val (.int p)), some (.val (.int (w : Int))), some (.val d), y4, y5] n := by
    intro y4 y5
    rw [enum_map (fun (z : D × List (LP p)) => z.1) (D.non, []) Z]
    refine forD_pre (List.range Z.length) (fun pre ρ n' => ∃ y4 y5, n' = n ∧ ρ = [some (.own (.obj "Table" [])), some (.val (.int p)), some (.val (.int (w : Int))), some (.val d), y4, y5]) (fun pre i post e ρ n' K hI hK => ?_) (fun ρ n' hI => ?_) ⟨_, _, rfl, rfl⟩
    · obtain ⟨y4, y5, rfl, rfl⟩ := hI
      obtain ⟨rfl, hpl⟩ := range_split e
      obtain ⟨h1, h2⟩ := hR _ (getD_mem (z := (D.non, ([] : List (LP p)))) hpl)
      walk_at "d"
      refine ⟨p, w, _, rfl, tyOk_seq h1, .inr (.inr ⟨_, h1, by omega, by omega, ?_⟩)⟩
      walk_at "d"
      exact hK _ _ ⟨_, _, rfl, rfl⟩
    · obtain ⟨y4, y5, rfl, rfl⟩ := hI
      exact key y4 y5
  rcases seq_cases hsq with rfl | rfl | rfl
  all_goals
    walk_at "d"
    exact loop _ _
end

end My

namespace My
open PySem PySem.Spec L2 DL
theorem sc_Table_fits : FnScope ["self", "other"] ["self", "other"] (defScope (inClass (top 51) 5)) := ⟨rfl, rfl, rfl, by decide +kernel, rfl, by decide +kernel, by decide +kernel⟩
section
variable {P : Program} {w : World} {K : PySem.W.Frag} {mg : Str → Option Value} {base : Heap}
theorem ok_Table_fits (T : Top K mg) : Mg P w K mg base "Table" "fits" 3 2 F_Table_fits [] := by
  obtain ⟨fd, FD⟩ := T.d_Table_fits
  refine ⟨T.cl_Table, _, fd, ["self", "other"], [], [], ?_, T.m_Table_fits, FD.bindsN (fun _ _ _ _ _ _ us hl => match us, hl with | [_, _], _ => rfl), .nil, fun _ => .nil⟩
  refine ok_def FD sc_Table_fits rfl ?_
  rintro X E W ds n q xx ⟨cdv, A, outer, s, H, rfl⟩ hr tk pso hl hF
  have hu := hr.units
  have hu1 := hu_of hr
  refine ⟨_, (pss_oneD (ps_ifD (PWD.pt (pwd_or (pt_ne hu (PD.pb (pd_fld ["Table"] T.fld_Table_prime (pb_var 0))) (PD.pb (pd_fld ["Table"] T.fld_Table_prime (pb_var 1)))) (pwd_or1 (pt_ne hu (PD.pb (pd_fld ["Table"] T.fld_Table_width (pb_var 0))) (PD.pb (pd_fld ["Table"] T.fld_Table_width (pb_var 1))))))) (pss_oneD (ps_raise0 (xg_UnlikeTables T) (hr.mono (by decide)) rfl tk (by rfl))) pss_nilD)), ?_⟩
  clear hr tk pso hl hu hu1
  obtain ⟨p, p', w, w', R, S, rfl, hq⟩ := hF
  walk_at "d"
  rw [eqv_int, eqv_int]
  rcases hq with ⟨rfl, rfl, hq⟩ | ⟨hne, hx⟩
  · simp only [decide_true, Bool.not_true, Bool.false_eq_true, if_false]
    exact hq
  · by_cases h : p = p'
    · have h2 : ¬ (w : Int) = (w' : Int) := fun z => by
        rcases hne with h' | h'
        · exact h' h
        · exact h' (Int.ofNat.inj z)
      rw [decide_eq_true h, decide_eq_false h2]
      exact hx
    · rw [decide_eq_false h]
      exact hx
end

end My

namespace My
open PySem PySem.Spec L2 DL
theorem sc_Table___add__ : FnScope ["self", "other"] ["self", "other"] (defScope (inClass (top 51) 7)) := ⟨rfl, rfl, rfl, by decide +kernel, rfl, by decide +kernel, by decide +kernel⟩
section
variable {P : Program} {w : World} {K : PySem.W.Frag} {mg : Str → Option Value} {base : Heap}
theorem ok_Table___add__ (T : Top K mg) : Mg P w K mg base "Table" "__add__" 5 2 F_Table___add__ [] := by
  obtain ⟨fd, FD⟩ := T.d_Table___add__
  refine ⟨T.cl_Table, _, fd, ["self", "other"], [], [], ?_, T.m_Table___add__, FD.bindsN (fun _ _ _ _ _ _ us hl => match us, hl with | [_, _], _ => rfl), .nil, fun _ => .nil⟩
  refine ok_def FD sc_Table___add__ rfl ?_
  rintro X E W ds n q xx ⟨cdv, A, outer, s, H, rfl⟩ hr tk pso hl hF
  have hu := hr.units
  have hu1 := hu_of hr
  refine ⟨_, (pss_consD (ps_ifD (ptd_not (pt_valD (PD.pb (pd_isiO T.tyf (T.ko_Table) (by rfl) T.f_isinstance (by rfl) T.g_Table (pb_var 1))))) (pss_oneD (ps_retD pd_never)) pss_nilD)
      (pss_consD (ps_exprD (PD.pb (pd_meth (ok_Table_fits T) (hr.mono (by decide)) tk (pd_var 0) (pad_cons (pd_var 1) pad_nil))))
      (pss_oneD (ps_retD (pd_make (ok_Table___init__ T) (hr.mono (by decide)) tk (by rfl) (pad_cons (pd_fld ["Table"] T.fld_Table_prime (pb_var 0)) (pad_cons (pd_fld ["Table"] T.fld_Table_width (pb_var 0)) (pad_cons (pd_add (PD.pb (pd_fld ["Table"] T.fld_Table_kept (pb_var 0))) (PD.pb (pd_fld ["Table"] T.fld_Table_kept (pb_var 1)))) pad_nil)))))))), ?_⟩
  clear hr tk pso hl hu hu1
  rcases hF with ⟨p, w, R, S, rfl, hp, hw0, hw, hl, hl2, hR, hS, hq⟩ | ⟨p, p', w, w', R, S, rfl, hne, hx⟩
  · have hp0 := isPr_pos hp
    walk_at "d"
    refine ⟨rfl, p, p, w, w, R, S, rfl, .inl ⟨rfl, rfl, ?_⟩⟩
    refine ⟨by omega, ?_⟩
    rw [← List.map_append]
    refine ⟨p, w, _, (R ++ S).map (fun r => (rowT r, r)), rfl, hp, hw0, hw, ?_, by rw [List.length_map, List.length_append]; omega, ?_, ?_⟩
    · show some ((R ++ S).map rowT) = _
      rw [List.map_map]
      rfl
    · intro z hz
      obtain ⟨r, hr, rfl⟩ := List.mem_map.mp hz
      refine ⟨rfl, ?_⟩
      rcases List.mem_append.mp hr with hr | hr
      · exact hR r hr
      · exact hS r hr
    · rw [List.map_map, show ((R ++ S).map ((fun x => x.2) ∘ fun r => (rowT r, r))) = R ++ S from List.map_id _]
      exact hq
  · walk_at "d"
    exact ⟨rfl, p, p', w, w', R, S, rfl, .inr ⟨hne, hx⟩⟩
end

end My

namespace My
open PySem PySem.Spec L2 DL
theorem sc_Filter___eq__ : FnScope ["self", "other"] ["self", "other"] (defScope (inClass (top 33) 5)) := ⟨rfl, rfl, rfl, by decide +kernel, rfl, by decide +kernel, by decide +kernel⟩
section
variable {P : Program} {w : World} {K : PySem.W.Frag} {mg : Str → Option Value} {base : Heap}
theorem ok_Filter___eq__ (T : Top K mg) : Mg P w K mg base "Filter" "__eq__" 1 2 F_Filter___eq__ [] := by
  obtain ⟨fd, FD⟩ := T.d_Filter___eq__
  refine ⟨T.cl_Filter, _, fd, ["self", "other"], [], [], ?_, T.m_Filter___eq__, FD.bindsN (fun _ _ _ _ _ _ us hl => match us, hl with | [_, _], _ => rfl), .nil, fun _ => .nil⟩
  refine ok_def FD sc_Filter___eq__ rfl ?_
  rintro X E W ds n q xx ⟨cdv, A, outer, s, H, rfl⟩ hr tk pso hl hF
  have hu := hr.units
  have hu1 := hu_of hr
  refine ⟨_, (pss_oneD (ps_retD (pd_and (pd_isiO T.tyf (T.ko_Filter) (by rfl) T.f_isinstance (by rfl) T.g_Filter (pb_var 1)) (pd_and (pd_eq hu (PD.pb (pd_fld ["Filter"] T.fld_Filter_prime (pb_var 0))) (PD.pb (pd_fld ["Filter"] T.fld_Filter_prime (pb_var 1)))) (pd_one (pd_eq hu (PD.pb (pd_fld ["Filter"] T.fld_Filter_kept (pb_var 0))) (PD.pb (pd_fld ["Filter"] T.fld_Filter_kept (pb_var 1))))))))), ?_⟩
  clear hr tk pso hl hu hu1
  obtain ⟨p, ts, p', ts', rfl, hl1, hl2, hq⟩ := hF
  walk_at "d"
  rw [eqv_int, eqv_trms]
  by_cases h : p = p'
  · rw [if_pos (decide_eq_true h)]
    refine ⟨sh_trms _, sh_trms _, ?_⟩
    simpa [h] using hq
  · rw [if_neg (by simp [h])]
    simpa [h] using hq
end

end My

namespace My
open PySem PySem.Spec L2 DL
theorem sc_Table___eq__ : FnScope ["self", "other"] ["self", "other"] (defScope (inClass (top 51) 3)) := ⟨rfl, rfl, rfl, by decide +kernel, rfl, by decide +kernel, by decide +kernel⟩
section
variable {P : Program} {w : World} {K : PySem.W.Frag} {mg : Str → Option Value} {base : Heap}
theorem ok_Table___eq__ (T : Top K mg) : Mg P w K mg base "Table" "__eq__" 7 2 FG_Table___eq__ [] := by
  obtain ⟨fd, FD⟩ := T.d_Table___eq__
  refine ⟨T.cl_Table, _, fd, ["self", "other"], [], [], ?_, T.m_Table___eq__, FD.bindsN (fun _ _ _ _ _ _ us hl => match us, hl with | [_, _], _ => rfl), .nil, fun _ => .nil⟩
  refine ok_def FD sc_Table___eq__ rfl ?_
  rintro X E W ds n q xx ⟨cdv, A, outer, s, H, rfl⟩ hr tk pso hl hF
  have hu := hr.units
  have hu1 := hu_of hr
  refine ⟨_, (pss_consD (ps_ifD (PWD.pt (pwd_or (ptd_not (pt_valD (PD.pb (pd_isiO T.tyf (T.ko_Table) (by rfl) T.f_isinstance (by rfl) T.g_Table (pb_var 1))))) (pwd_or (pt_ne hu (PD.pb (pd_fld ["Table"] T.fld_Table_prime (pb_var 0))) (PD.pb (pd_fld ["Table"] T.fld_Table_prime (pb_var 1)))) (pwd_or1 (pt_ne hu (PD.pb (pd_fld ["Table"] T.fld_Table_width (pb_var 0))) (PD.pb (pd_fld ["Table"] T.fld_Table_width (pb_var 1)))))))) (pss_oneD (ps_retD pd_bl)) pss_nilD)
      (pss_oneD (ps_retD (pd_eqX (clsq1 (ok_Filter___eq__ T) (Nat.le_refl _)) (hr.mono (by decide)) tk (pd_fld ["Table"] T.fld_Table_kept (pb_var 0)) (pd_fld ["Table"] T.fld_Table_kept (pb_var 1)))))), ?_⟩
  clear hr tk pso hl hu hu1
  rcases hF with ⟨p, w, w', R, R', rfl, hp, hR, hR', hq⟩ | ⟨p, p', w, w', R, S, rfl, np, hq⟩ | ⟨p, w, R, d, t, rfl, t1, t2, t3, hq⟩
  · have hp0 := isPr_pos hp
    walk_at "d"
    rw [eqv_int]
    by_cases hw : w = w'
    · subst hw
      rw [decide_eq_true rfl]
      simp only [Bool.not_true, Bool.false_eq_true, if_false]
      obtain ⟨c, h1, h2⟩ := eqx_rows hp hR hR' (Nat.le_refl _)
      refine ⟨_, _, c, rfl, rfl, h2, ?_⟩
      rw [show (c != false) = c by cases c <;> rfl]
      exact hq c (by rw [h1]; exact ⟨fun h => ⟨rfl, h⟩, fun h => h.2⟩)
    · rw [decide_eq_false (show ¬ (w : Int) = w' by omega)]
      simp only [Bool.not_false, if_true]
      exact hq false ⟨(fun h => nomatch h), fun h => absurd h.1 hw⟩
  · walk_at "d"
    rw [eqv_int, decide_eq_false np]
    exact hq
  · walk_at "d"
    rw [t1]
    refine ⟨t2, ?_⟩
    have e : isaO sub (Str.ofString "Table") t = false := by
      cases t with
      | b s => rfl
      | own c =>
        have hc := t2 c rfl
        have : ∀ c ∈ CS, c ≠ Str.ofString "Table" → isaO sub (Str.ofString "Table") (.own c) = false := by decide +kernel
        exact this c hc fun z => t3 (by rw [z])
    rw [e]
    exact hq
end

end My

namespace My
open PySem PySem.Spec L2 DL
theorem sc_Table_rows : FnScope ["self", "row"] ["self"] (defScope (inClass (top 51) 4)) := ⟨rfl, rfl, rfl, by decide +kernel, rfl, by decide +kernel, by decide +kernel⟩
section
variable {P : Program} {w : World} {K : PySem.W.Frag} {mg : Str → Option Value} {base : Heap}
theorem ok_Table_rows (T : Top K mg) : MgE P w K mg base "Table" "rows" 1 1 FG_Table_rows [] := by
  obtain ⟨fd, FD⟩ := T.d_Table_rows
  refine ⟨T.cl_Table, _, fd, ["self"], [], [], ?_, T.m_Table_rows, FD.bindsN (fun _ _ _ _ _ _ us hl => match us, hl with | [_], _ => rfl), .nil, fun _ => .nil⟩
  refine ok_defE FD sc_Table_rows rfl ?_
  rintro X E W ds n q xx ⟨cdv, A, outer, s, H, rfl⟩ hr tk pso hl hF
  have hu := hr.units
  have hu1 := hu_of hr
  refine ⟨_, (pss_oneD (ps_retSl (psl_lcF [("row", 1)] rfl sc_Table_rows.nd (pid_seq (pd_fld ["Table"] T.fld_Table_kept (pb_var 0))) (blkOk_by (own := [("row", 1)]) (N := ["self", "row"]) (sc := defScope (inClass (top 51) 4)) (by decide +kernel)) (fun _ _ _ _ _ => (pgd_name 1 sc_Table_rows.nd)) (fun _ _ _ _ _ => ptsD_nil) (fun _ _ _ _ _ => (pf_list (by rfl) T.f_list (pab_cons (pb_var 1) pab_nil)))))), ?_⟩
  clear hr tk pso hl hu hu1
  obtain ⟨p, w, R, rfl, hl, hq⟩ := hF
  walk_at "d"
  refine lcD_all rowT rowL R _ (fun r hr K h => ?_) (by omega) ?_
  · unfold rowT
    walk_at "d"
    exact h
  · intro a bs h1 h2
    exact hq a bs (by rw [h1, List.length_map]) h2
end

end My

namespace My
open PySem PySem.Spec L2 DL
theorem sc_is_term : FnScope ["thing"] ["thing"] (defScope (top 31)) := ⟨rfl, rfl, rfl, by decide +kernel, rfl, by decide +kernel, by decide +kernel⟩
section
variable {P : Program} {w : World} {K : PySem.W.Frag} {mg : Str → Option Value} {base : Heap}
theorem ok_is_term (T : Top K mg) : Sg P w K mg base "is_term" 2 1 F_is_term [] := by
  obtain ⟨fd, FD⟩ := T.d_is_term
  refine ⟨_, fd, ["thing"], [], [], ?_, T.g_is_term, FD.kp, FD.bindsN (fun _ _ _ _ _ _ us hl => match us, hl with | [_], _ => rfl), .nil, fun _ => .nil⟩
  refine ok_def FD sc_is_term rfl ?_
  rintro X E W ds n q xx ⟨cdv, A, outer, s, H, rfl⟩ hr tk pso hl hF
  have hu := hr.units
  have hu1 := hu_of hr
  refine ⟨_, (pss_oneD (ps_retD (pd_and (pd_call (ok_is_list T) (hr.mono (by decide)) tk (by rfl) (pad_cons (pd_var 0) pad_nil)) (pd_and (pd_eq hu (PD.pb (pd_callB call_lenD2 dcall_len (by rfl) T.f_len (by decide +kernel) (pab_cons (pb_var 0) pab_nil))) (PD.pb pd_int)) (pd_and (pd_call (ok_is_integer T) (hr.mono (by decide)) tk (by rfl) (pad_cons (pd_ix (pb_var 0) (PD.pb pd_int)) pad_nil)) (pd_one (pd_call (ok_is_integer T) (hr.mono (by decide)) tk (by rfl) (pad_cons (pd_ix (pb_var 0) (PD.pb pd_int)) pad_nil)))))))), ?_⟩
  clear hr tk pso hl hu hu1
  match ds, hF with
  | [.tup [.int a, .int b]], hF =>
    have hq : q (.bl true) n := hF
    walk_at "d"
    refine ⟨ok_tup _, ?_⟩
    refine ⟨ok_int a, ?_⟩
    exact ⟨ok_int b, hq⟩
end

end My

namespace My
open PySem PySem.Spec L2 DL
theorem sc_Filter___init__ : FnScope ["self", "prime", "terms", "sums", "index", "term", "offsets", "offset"] ["self", "prime", "terms"] (defScope (inClass (top 33) 0)) := ⟨rfl, rfl, rfl, by decide +kernel, rfl, by decide +kernel, by decide +kernel⟩
section
variable {P : Program} {w : World} {K : PySem.W.Frag} {mg : Str → Option Value} {base : Heap}
theorem init_loop {E : DEnds} {L : Nat} (hL : L = 2) {p : Int} (hp : 0 < p) (o t : Option Sl) (ts : Tm) : ∀ (m : Tm) (i : Nat) (x y : Option Sl) (n : Nat), m.length + ts.length < 10000000 → (∀ x y, E.nx [o, some (.val (.int p)), t, some (.own (.dct ((ts.foldl (hstep p) m).map kvp))), x, y, none, none] n) →
    forD (gTn L (gsC (gN 4) (gsC (gN 5) gs0))) (dSeq (dIfS (dNotT (dTest (dCall 1 F_is_term [] (dCons (dVar 5) dNil)))) dNever dNext) (dPut 3 (dOp fIx (bVar 5) (dC (.int 0))) (dOp fMod (dOp fAdd (dGet2 (bVar 3) (dOp fIx (bVar 5) (dC (.int 0))) (dC (.int 0))) (dOp fIx (bVar 5) (dC (.int 1)))) (bVar 1)))) (enumF i (ts.map trm)) E [o, some (.val (.int p)), t, some (.own (.dct (m.map kvp))), x, y, none, none] n := by
  subst hL
  induction ts with
  | nil => intro m i x y n _ h; exact h x y
  | cons a ts ih =>
    intro m i x y n hl h
    rw [List.map_cons, enumF, forD_cons]
    walk_at "d"
    simp only [F_is_term, bq]
    walk_at "d"
    rw [List.length_cons] at hl
    refine ⟨hp, by omega, ?_⟩
    refine ih _ _ _ _ _ ?_ h
    have := putI_length m a.1 ((getI m a.1 + a.2) % p)
    omega
theorem ok_Filter___init__ (T : Top K mg) : Ig P w K mg base "Filter" 3 3 F_Filter___init__ [] := by
  obtain ⟨fd, FD⟩ := T.d_Filter___init__
  obtain ⟨ds0, rv, hb⟩ := FD.binds1 (ps := ["self", "prime", "terms"]) 3 1 (by intro z; cases z) rfl (fun T kV doc pm an cdv ct us its h1 h2 => match us, h1, its, h2 with | [_, _, _], _, [_], _ => ⟨_, rfl, rfl⟩)
  cases rv
  refine ⟨T.g_Filter, _, fd, ["self", "prime", "terms"], [], [], ?_, T.mk_Filter, hb, .nil, fun _ => .nil⟩
  refine ok_init FD sc_Filter___init__ rfl ?_
  rintro X E W ds n q xx ⟨cdv, A, outer, s, H, rfl⟩ hr tk pso hl hF
  have hu := hr.units
  have hu1 := hu_of hr
  refine ⟨_, (pss_consD (ps_ifD (ptd_not (pt_valD (PD.pb (pd_call (ok_is_prime T) (hr.mono (by decide)) tk (by rfl) (pad_cons (pd_var 1) pad_nil))))) (pss_oneD ps_neverD) pss_nilD)
      (pss_consD (ps_ifD (ptd_not (pt_valD (PD.pb (pd_call (ok_is_list T) (hr.mono (by decide)) tk (by rfl) (pad_cons (pd_var 2) pad_nil))))) (pss_oneD ps_neverD) pss_nilD)
      (pss_consD (ps_ownD 3 pf_dct0 sc_Filter___init__.nd)
      (pss_consD (ps_forD pso rfl (pid_enumK (by rfl) T.f_enumerate (pad_cons (pd_var 2) pad_nil)) (pgd_tup (m := 2) rfl (pgsd_cons (pgd_name 4 sc_Filter___init__.nd) (pgsd_cons (pgd_name 5 sc_Filter___init__.nd) pgsd_nil))) (pss_consD (ps_ifD (ptd_not (pt_valD (PD.pb (pd_call (ok_is_term T) (hr.mono (by decide)) tk (by rfl) (pad_cons (pd_var 5) pad_nil))))) (pss_oneD ps_neverD) pss_nilD)
      (pss_oneD (ps_putD 3 hu1 (PD.pb (pd_ix (pb_var 5) (PD.pb pd_int))) (pd_mod (PD.pb (pd_add (PD.pb (pd_get2 hu1 (pb_var 3) (PD.pb (pd_ix (pb_var 5) (PD.pb pd_int))) pd_int)) (PD.pb (pd_ix (pb_var 5) (PD.pb pd_int))))) (pb_var 1))))))
      (pss_frz 3 (pss_consD (ps_setD 6 (pd_callB cr_sortedI dcall_sorted (by rfl) T.f_sorted (by decide +kernel) (pab_cons (PD.pb (PF.pd (pf_lc [("offset", 7)] rfl sc_Filter___init__.nd (pid_keys (pd_var 3)) (blkOk_by (own := [("offset", 7)]) (N := ["self", "prime", "terms", "sums", "index", "term", "offsets", "offset"]) (sc := defScope (inClass (top 33) 0)) (by decide +kernel)) (fun _ _ _ _ _ => (pgd_name 7 sc_Filter___init__.nd)) (fun _ _ _ _ _ => ptsD_nil) (fun _ _ _ _ _ => (pd_callTy call_int1 dcall_int (by rfl) T.f_int (by decide +kernel) (pab_cons (pb_var 7) pab_nil)))))) pab_nil)) sc_Filter___init__.nd)
      (pss_consD (ps_fldD 0 (T.fld_Filter_prime _ (List.mem_singleton_self _)).1 (T.fld_Filter_prime _ (List.mem_singleton_self _)).2 (pd_var 1))
      (pss_consD (ps_fldD 0 (T.fld_Filter_kept _ (List.mem_singleton_self _)).1 (T.fld_Filter_kept _ (List.mem_singleton_self _)).2 (PF.pd (pf_lc [("offset", 7)] rfl sc_Filter___init__.nd (pid_seq (pd_var 6)) (blkOk_by (own := [("offset", 7)]) (N := ["self", "prime", "terms", "sums", "index", "term", "offsets", "offset"]) (sc := defScope (inClass (top 33) 0)) (by decide +kernel)) (fun _ _ _ _ _ => (pgd_name 7 sc_Filter___init__.nd)) (fun _ _ _ _ _ => (ptsD_one (pt_gt (PD.pb (pd_dg hu1 (pb_var 3) (pb_var 7))) (PD.pb pd_int)))) (fun _ _ _ _ _ => (pd_tup (pad_cons (pd_var 7) (pad_cons (pd_dg hu1 (pb_var 3) (pb_var 7)) pad_nil)))))))
      (pss_oneD (ps_fldD 0 (T.fld_Filter_held _ (List.mem_singleton_self _)).1 (T.fld_Filter_held _ (List.mem_singleton_self _)).2 (PF.pd (pf_dictP rfl (by rfl) T.f_dict (pad_cons (pd_fld ["Filter"] T.fld_Filter_kept (pb_var 0)) pad_nil))))))))))))), ?_⟩
  clear hr tk pso hl hu hu1
  obtain ⟨p, d, ts, rfl, hsq, hp, hl, hq⟩ := hF
  have hp0 := isPr_pos hp
  have hd : d = .lst (ts.map trm) ∨ d = .tup (ts.map trm) ∨ d = .rol (ts.map trm) := by
    cases d with
    | lst es => cases hsq; exact .inl rfl
    | tup es => cases hsq; exact .inr (.inl rfl)
    | rol es => cases hsq; exact .inr (.inr rfl)
    | _ => exact nomatch hsq
  rcases hd with rfl | rfl | rfl
  all_goals (
    walk_at "d"
    simp only [F_is_prime, hp, F_is_list]
    refine ⟨⟨_, rfl, fun c e => nomatch e⟩, ?_⟩
    walk_at "d"
    rw [enumD_eq]
    refine init_loop rfl hp0.1 _ _ ts [] 0 _ _ n (by rw [List.length_nil]; omega) fun x y => ?_
    walk_at "d"
    have eh : List.foldl (hstep p) [] ts = hsum p ts := rfl
    rw [eh]
    have hlen := hsum_length p ts
    refine lcD_map some _ _ _ (fun d hd K h => ?_) (by simp; omega) ?_
    · obtain ⟨k, _, rfl⟩ := List.mem_map.mp hd
      walk_at "d"
      exact h
    rw [fm_some, List.nil_append, intsD_map]
    intro ms hperm hsort
    obtain rfl := srt_of hperm hsort
    refine ⟨by show 1 < 1000; decide, ?_⟩
    refine lcD_map (keepF (hsum p ts)) _ _ _ (fun d hd K h => ?_) ?_ ?_
    · obtain ⟨k, hk, rfl⟩ := List.mem_map.mp hd
      walk_at "d"
      rw [get_kvp' (hsum_key hk)]
      walk_at "d"
      simp only [keepF] at h
      by_cases c : 0 < getI (hsum p ts) k
      · simp only [c, decide_true, if_true] at h ⊢
        exact ⟨by decide, h⟩
      · simp only [c, decide_false] at h ⊢
        exact h
    · rw [List.length_map, List.length_nil, (srt_perm _).length_eq, List.length_map]
      omega
    · rw [List.nil_append, keepF_eq]
      refine ⟨by show 2 < 1000; decide, ?_⟩
      rw [lk_kept]
      simp only []
      rw [pairs_trm]
      show q (setF "held" (.dct (mergeD [] ((canon p ts).map kvp))) (setF "kept" (.lst ((canon p ts).map trm)) (setF "prime" (.int p) []))) n
      rw [merge_kvp0 (canon_nodup p ts)]
      exact hq)
end

end My

namespace My
open PySem PySem.Spec L2 DL
theorem sc__law_pairs : FnScope ["_law_held_here", "_law_offset"] ["_law_held_here"] (defScope (top 58)) := ⟨rfl, rfl, rfl, by decide +kernel, rfl, by decide +kernel, by decide +kernel⟩
section
variable {P : Program} {w : World} {K : PySem.W.Frag} {mg : Str → Option Value} {base : Heap}
theorem ok__law_pairs (T : Top K mg) : Sg P w K mg base "_law_pairs" 1 1 F__law_pairs [] := by
  obtain ⟨fd, FD⟩ := T.d__law_pairs
  refine ⟨_, fd, ["_law_held_here"], [], [], ?_, T.g__law_pairs, FD.kp, FD.bindsN (fun _ _ _ _ _ _ us hl => match us, hl with | [_], _ => rfl), .nil, fun _ => .nil⟩
  refine ok_def FD sc__law_pairs rfl ?_
  rintro X E W ds n q xx ⟨cdv, A, outer, s, H, rfl⟩ hr tk pso hl hF
  have hu := hr.units
  have hu1 := hu_of hr
  refine ⟨_, (pss_oneD (ps_retD (PF.pd (pf_lc [("_law_offset", 1)] rfl sc__law_pairs.nd (pid_keys (pd_var 0)) (blkOk_by (own := [("_law_offset", 1)]) (N := ["_law_held_here", "_law_offset"]) (sc := defScope (top 58)) (by decide +kernel)) (fun _ _ _ _ _ => (pgd_name 1 sc__law_pairs.nd)) (fun _ _ _ _ _ => ptsD_nil) (fun _ _ _ _ _ => (pd_tup (pad_cons (pd_var 1) (pad_cons (pd_dg hu1 (pb_var 0) (pb_var 1)) pad_nil)))))))), ?_⟩
  clear hr tk pso hl hu hu1
  obtain ⟨ts, rfl, hn, hl2, hq⟩ := hF
  walk_at "d"
  refine lcD_map (pairF ts) _ _ _ (fun d hd K h => ?_) (by simp; omega) ?_
  · obtain ⟨k, hk, rfl⟩ := List.mem_map.mp hd
    walk_at "d"
    rw [get_kvp' hk]
    exact ⟨by decide, h⟩
  · rw [List.nil_append, pairF_eq hn]
    exact hq
end

end My

namespace My
open PySem PySem.Spec L2 DL
theorem sc__law_made : FnScope ["_law_prime_here", "_law_held_here"] ["_law_prime_here", "_law_held_here"] (defScope (top 60)) := ⟨rfl, rfl, rfl, by decide +kernel, rfl, by decide +kernel, by decide +kernel⟩
section
variable {P : Program} {w : World} {K : PySem.W.Frag} {mg : Str → Option Value} {base : Heap}
theorem ok__law_made (T : Top K mg) : Sg P w K mg base "_law_made" 5 2 F__law_made [] := by
  obtain ⟨fd, FD⟩ := T.d__law_made
  refine ⟨_, fd, ["_law_prime_here", "_law_held_here"], [], [], ?_, T.g__law_made, FD.kp, FD.bindsN (fun _ _ _ _ _ _ us hl => match us, hl with | [_, _], _ => rfl), .nil, fun _ => .nil⟩
  refine ok_def FD sc__law_made rfl ?_
  rintro X E W ds n q xx ⟨cdv, A, outer, s, H, rfl⟩ hr tk pso hl hF
  have hu := hr.units
  have hu1 := hu_of hr
  refine ⟨_, (pss_oneD (ps_retD (pd_make (ok_Filter___init__ T) (hr.mono (by decide)) tk (by rfl) (pad_cons (pd_var 0) (pad_cons (pd_call (ok__law_pairs T) (hr.mono (by decide)) tk (by rfl) (pad_cons (pd_var 1) pad_nil)) pad_nil))))), ?_⟩
  clear hr tk pso hl hu hu1
  obtain ⟨p, x, rfl, hp, hl2, hq⟩ := hF
  have hp0 := isPr_pos hp
  walk_at "d"
  refine ⟨can x, rfl, can_nodup x, hl2, ?_⟩
  refine ⟨p, _, can x, rfl, rfl, hp, (show (can x).length < 8000000 by have : (can x).length < 1000000 := hl2; omega), ?_⟩
  rw [canon_can hp0.1]
  exact hq
end

end My

namespace My
open PySem PySem.Spec L2 DL
theorem sc__law_filters : FnScope ["_law_p", "_law_row_here", "_law_held_here"] ["_law_p", "_law_row_here"] (defScope (top 65)) := ⟨rfl, rfl, rfl, by decide +kernel, rfl, by decide +kernel, by decide +kernel⟩
section
variable {P : Program} {w : World} {K : PySem.W.Frag} {mg : Str → Option Value} {base : Heap}
theorem ok__law_filters (T : Top K mg) : SgF P w K mg base "_law_filters" 6 2 F__law_filters [] := by
  obtain ⟨fd, FD⟩ := T.d__law_filters
  refine ⟨_, fd, ["_law_p", "_law_row_here"], [], [], ?_, T.g__law_filters, FD.kp, FD.bindsN (fun _ _ _ _ _ _ us hl => match us, hl with | [_, _], _ => rfl), .nil, fun _ => .nil⟩
  refine ok_defF FD sc__law_filters rfl ?_
  rintro X E W ds n q xx ⟨cdv, A, outer, s, H, rfl⟩ hr tk pso hl hF
  have hu := hr.units
  have hu1 := hu_of hr
  refine ⟨_, (pss_oneD (ps_retFD (pf_lc [("_law_held_here", 2)] rfl sc__law_filters.nd (pid_seq (pd_var 1)) (blkOk_by (own := [("_law_held_here", 2)]) (N := ["_law_p", "_law_row_here", "_law_held_here"]) (sc := defScope (top 65)) (by decide +kernel)) (fun _ _ _ _ _ => (pgd_name 2 sc__law_filters.nd)) (fun _ _ _ _ _ => ptsD_nil) (fun _ _ _ _ _ => (pd_call (ok__law_made T) (hr.mono (by decide)) DL.takes0 (by rfl) (pad_cons (pd_var 0) (pad_cons (pd_var 2) pad_nil))))))), ?_⟩
  clear hr tk pso hl hu hu1
  obtain ⟨p, r, rfl, hp, hl, hb, hq⟩ := hF
  have hp0 := isPr_pos hp
  unfold rowK
  walk_at "d"
  refine lcD_all _ fo _ _ (fun x hx K h => ?_) (by omega) ?_
  · have := (hb x hx).nt hp
    walk_at "d"
    refine ⟨p, x, rfl, hp, by omega, ?_⟩
    exact h
  exact hq
end

end My

namespace My
open PySem PySem.Spec L2 DL
theorem sc__law_table : FnScope ["_law_p", "_law_width", "_law_rows", "_law_row_here"] ["_law_p", "_law_width", "_law_rows"] (defScope (top 68)) := ⟨rfl, rfl, rfl, by decide +kernel, rfl, by decide +kernel, by decide +kernel⟩
section
variable {P : Program} {w : World} {K : PySem.W.Frag} {mg : Str → Option Value} {base : Heap}
theorem ok__law_table (T : Top K mg) : Sg P w K mg base "_law_table" 7 3 F__law_table [] := by
  obtain ⟨fd, FD⟩ := T.d__law_table
  refine ⟨_, fd, ["_law_p", "_law_width", "_law_rows"], [], [], ?_, T.g__law_table, FD.kp, FD.bindsN (fun _ _ _ _ _ _ us hl => match us, hl with | [_, _, _], _ => rfl), .nil, fun _ => .nil⟩
  refine ok_def FD sc__law_table rfl ?_
  rintro X E W ds n q xx ⟨cdv, A, outer, s, H, rfl⟩ hr tk pso hl hF
  have hu := hr.units
  have hu1 := hu_of hr
  refine ⟨_, (pss_oneD (ps_retD (pd_make (ok_Table___init__ T) (hr.mono (by decide)) tk (by rfl) (pad_cons (pd_var 0) (pad_cons (pd_var 1) (pad_cons (PF.pd (pf_lc [("_law_row_here", 3)] rfl sc__law_table.nd (pid_seq (pd_var 2)) (blkOk_by (own := [("_law_row_here", 3)]) (N := ["_law_p", "_law_width", "_law_rows", "_law_row_here"]) (sc := defScope (top 68)) (by decide +kernel)) (fun _ _ _ _ _ => (pgd_name 3 sc__law_table.nd)) (fun _ _ _ _ _ => ptsD_nil) (fun _ _ _ _ _ => (PF.pd (pf_call (ok__law_filters T) (hr.mono (by decide)) DL.takes0 (by rfl) (pad_cons (pd_var 0) (pad_cons (pd_var 3) pad_nil))))))) pad_nil)))))), ?_⟩
  clear hr tk pso hl hu hu1
  obtain ⟨p, w, R, rfl, hp, hw0, hw, hl, hR, hq⟩ := hF
  have hp0 := isPr_pos hp
  walk_at "d"
  refine lcD_all _ rowL _ _ (fun r hr K h => ?_) (by omega) ?_
  · have hr' := hR r hr
    walk_at "d"
    refine ⟨p, r, rfl, hp, by omega, hr'.2, ?_⟩
    exact h
  refine ⟨p, w, _, R.map (fun r => (rowL r, r)), rfl, hp, hw0, hw, ?_, by rw [List.length_map]; omega, ?_, ?_⟩
  · rw [List.map_map]; rfl
  · intro z hz
    obtain ⟨r, hr, rfl⟩ := List.mem_map.mp hz
    exact ⟨rfl, (hR r hr).1⟩
  · rw [List.map_map, show (R.map ((fun x => x.2) ∘ fun r => (rowL r, r))) = R from List.map_id R]
    exact hq
end

end My

namespace My
open PySem PySem.Spec L2 DL
theorem sc__law_compared_right : FnScope ["_law_t", "_law_u", "_law_p", "_law_width", "_law_one", "_law_two", "_law_thing"] ["_law_t", "_law_u", "_law_p", "_law_width", "_law_one", "_law_two"] (defScope (top 70)) := ⟨rfl, rfl, rfl, by decide +kernel, rfl, by decide +kernel, by decide +kernel⟩
section
variable {P : Program} {w : World} {K : PySem.W.Frag} {mg : Str → Option Value} {base : Heap}
theorem ok__law_compared_right (T : Top K mg) : Sg P w K mg base "_law_compared_right" 13 6 F__law_compared_right [] := by
  obtain ⟨fd, FD⟩ := T.d__law_compared_right
  refine ⟨_, fd, ["_law_t", "_law_u", "_law_p", "_law_width", "_law_one", "_law_two"], [], [], ?_, T.g__law_compared_right, FD.kp, FD.bindsN (fun _ _ _ _ _ _ us hl => match us, hl with | [_, _, _, _, _, _], _ => rfl), .nil, fun _ => .nil⟩
  refine ok_def FD sc__law_compared_right rfl ?_
  rintro X E W ds n q xx ⟨cdv, A, outer, s, H, rfl⟩ hr tk pso hl hF
  have hu := hr.units
  have hu1 := hu_of hr
  refine ⟨_, (pss_consD (ps_ifD (PWD.pt (pwd_or (pt_cmpV (pd_neO T.tyf T.ne_Table (ok_Table___eq__ T) (hr.mono (by decide)) tk (pd_var 0) (pd_call (ok__law_table T) (hr.mono (by decide)) tk (by rfl) (pad_cons (pd_var 2) (pad_cons (pd_var 3) (pad_cons (pd_var 4) pad_nil)))))) (pwd_or (ptd_not (pt_cmpV (pd_eqO T.tyf T.eq_Table (ok_Table___eq__ T) (hr.mono (by decide)) tk (pd_var 0) (pd_call (ok__law_table T) (hr.mono (by decide)) tk (by rfl) (pad_cons (pd_var 2) (pad_cons (pd_var 3) (pad_cons (pd_var 4) pad_nil))))))) (pwd_or1 (pt_ne hu (PD.pb (pd_eqO T.tyf T.eq_Table (ok_Table___eq__ T) (hr.mono (by decide)) tk (pd_var 0) (pd_var 1))) (PD.pb (pd_eqX (clsq0 (n0 := 0)) (hr.mono (by decide)) tk (pd_var 4) (pd_var 5)))))))) (pss_oneD (ps_retD pd_bl)) pss_nilD)
      (pss_consD (ps_ifD (PWD.pt (pwd_or (pt_ne hu (PD.pb (pd_eqO T.tyf T.eq_Table (ok_Table___eq__ T) (hr.mono (by decide)) tk (pd_binO T.op_Table_Add opI_add (ok_Table___add__ T) (hr.mono (by decide)) tk (pd_var 0) (pd_var 1)) (pd_binO T.op_Table_Add opI_add (ok_Table___add__ T) (hr.mono (by decide)) tk (pd_var 1) (pd_var 0)))) (PD.pb (pd_eqX (clsq0 (n0 := 0)) (hr.mono (by decide)) tk (pd_add (pb_var 4) (pb_var 5)) (pd_add (pb_var 5) (pb_var 4))))) (pwd_or1 (pt_ne hu (PD.pb (pd_neO T.tyf T.ne_Table (ok_Table___eq__ T) (hr.mono (by decide)) tk (pd_binO T.op_Table_Add opI_add (ok_Table___add__ T) (hr.mono (by decide)) tk (pd_var 0) (pd_var 1)) (pd_var 0))) (PD.pb (pd_neX (clsq0 (n0 := 0)) (hr.mono (by decide)) tk (pd_var 5) (PF.pd (pf_lst pad_nil)))))))) (pss_oneD (ps_retD pd_bl)) pss_nilD)
      (pss_oneD (ps_retD (pd_not (pd_callB (cr_any rfl) dcall_any (by rfl) T.f_any (by decide +kernel) (pab_cons (PD.pb (PF.pd (pf_lc [("_law_thing", 6)] rfl sc__law_compared_right.nd (pid_seq (PF.pd (pf_lst (pad_cons pd_non (pad_cons pd_int (pad_cons (PSl.pdG (psl_meth0 (ok_Table_rows T) (hr.mono (by decide)) tk (pd_var 0))) (pad_cons (pd_var 2) (pad_cons pd_str (pad_cons (pd_tup (pad_cons (pd_var 2) (pad_cons (pd_var 3) (pad_cons (PSl.pdG (psl_meth0 (ok_Table_rows T) (hr.mono (by decide)) tk (pd_var 0))) pad_nil)))) pad_nil))))))))) (blkOk_by (own := [("_law_thing", 6)]) (N := ["_law_t", "_law_u", "_law_p", "_law_width", "_law_one", "_law_two", "_law_thing"]) (sc := defScope (top 70)) (by decide +kernel)) (fun _ _ _ _ _ => (pgd_name 6 sc__law_compared_right.nd)) (fun _ _ _ _ _ => ptsD_nil) (fun _ _ _ _ _ => (pd_eqO T.tyf T.eq_Table (ok_Table___eq__ T) (hr.mono (by decide)) DL.takes0 (pd_var 0) (pd_var 6)))))) pab_nil))))))), ?_⟩
  clear hr tk pso hl hu hu1
  obtain ⟨p, w, R, S, rfl, hp, hl, hl2, hw0, hw, hR, hS, hq⟩ := hF
  have hp0 := isPr_pos hp
  have hR4 : Rws w 400000 R := fun r hr => ⟨(hR r hr).1, fun x hx => ((hR r hr).2 x hx).le (by decide)⟩
  have hS4 : Rws w 400000 S := fun r hr => ⟨(hS r hr).1, fun x hx => ((hS r hr).2 x hx).le (by decide)⟩
  have app : ∀ {A B : List (List (LP p))}, Rws w 400000 A → Rws w 400000 B → Rws w 400000 (A ++ B) := fun {A B} h1 h2 r hr => (List.mem_append.mp hr).elim (h1 r) (h2 r)
  have eqT : ∀ {n : Nat} {q : DQ} {xx : Xn → Nat → Prop} (A B : List (List (LP p))), Rws w 400000 A → Rws w 400000 B → (∀ c : Bool, (c = true ↔ A = B) → q (.bl c) n) → FG_Table___eq__ W [tb w A, tb w B] n q xx := fun {n q xx} A B h1 h2 h => .inl ⟨p, w, w, A, B, rfl, hp, h1, h2, fun c hc => h c (by rw [hc]; exact ⟨fun z => z.2, fun z => ⟨rfl, z⟩⟩)⟩
  have rk : ∀ (A B : List (List (LP p))), ∃ c : Bool, (c = true ↔ A = B) ∧ EqX (fun _ _ _ _ => False) 4 (.lst (A.map rowK)) (.lst (B.map rowK)) c := fun A B => eqx_list _ 3 rowK [] A B fun r _ s _ => eqx_dks hp0.1 _ 1 r s
  have same : ∀ {a b : Bool} {x : Prop}, (a = true ↔ x) → (b = true ↔ x) → a = b := fun {a b x} h1 h2 => by rw [Bool.eq_iff_iff, h1, h2]
  have tbl : ∀ {n : Nat} {q : DQ} {xx : Xn → Nat → Prop}, q (tb w R) n → F__law_table W [.int p, .int (w : Int), .lst (R.map rowK)] n q xx := fun {n q xx} h => ⟨p, w, R, rfl, hp, hw0, by omega, by omega, hR, h⟩
  have addT : ∀ {n : Nat} {q : DQ} {xx : Xn → Nat → Prop} (A B : List (List (LP p))), A.length ≤ 1000 → B.length ≤ 1000 → Rws w 400000 A → Rws w 400000 B → q (tb w (A ++ B)) n → F_Table___add__ W [tb w A, tb w B] n q xx := fun {n q xx} A B l1 l2 h1 h2 h => .inl ⟨p, w, A, B, rfl, hp, hw0, by omega, l1, l2, fun r hr => (h1 r hr).1, fun r hr => (h2 r hr).1, h⟩
  have shb : ∀ b : Bool, SeqAt.shaped (pyD (.bl b)) = true := fun b => by cases b <;> rfl
  have eqb : ∀ b : Bool, (pyD (.bl b)).eqv (pyD (.bl b)) = true := fun b => by cases b <;> rfl
  refine dSeq_at fun R1 hR1 => ?_
  walk_at "d"
  refine tbl ?_
  refine ⟨⟨_, rfl⟩, ?_⟩
  walk_at "d"
  refine eqT R R hR4 hR4 fun c hc => ?_
  obtain rfl : c = true := hc.mpr rfl
  walk_at "d"
  refine tbl ⟨⟨_, rfl⟩, ?_⟩
  walk_at "d"
  refine eqT R R hR4 hR4 fun c hc => ?_
  obtain rfl : c = true := hc.mpr rfl
  walk_at "d"
  refine ⟨⟨_, rfl⟩, eqT R S hR4 hS4 fun c hc => ?_⟩
  obtain ⟨c2, hc2, ex2⟩ := rk R S
  obtain rfl := same hc hc2
  refine ⟨_, _, c, rfl, rfl, ex2, shb _, ?_⟩
  rw [show (c != false) = c by cases c <;> rfl, eqb, if_neg (by decide)]
  subst hR1
  refine dSeq_at fun R1 hR1 => ?_
  walk_at "d"
  refine ⟨⟨_, rfl⟩, (show rOk _ _ from rfl), addT R S (by omega) (by omega) hR4 hS4 ?_⟩
  refine ⟨⟨_, rfl⟩, (show rOk _ _ from rfl), addT S R (by omega) (by omega) hS4 hR4 ?_⟩
  refine ⟨⟨_, rfl⟩, ?_⟩
  walk_at "d"
  refine eqT (R ++ S) (S ++ R) (app hR4 hS4) (app hS4 hR4) fun c hc => ?_
  refine ⟨by omega, by omega, ?_⟩
  rw [← List.map_append, ← List.map_append]
  obtain ⟨c2, hc2, ex2⟩ := rk (R ++ S) (S ++ R)
  obtain rfl := same hc hc2
  refine ⟨_, _, c, rfl, rfl, ex2, shb _, ?_⟩
  rw [show (c != false) = c by cases c <;> rfl, eqb, if_neg (by decide)]
  refine ⟨⟨_, rfl⟩, (show rOk _ _ from rfl), addT R S (by omega) (by omega) hR4 hS4 ?_⟩
  refine ⟨⟨_, rfl⟩, eqT (R ++ S) R (app hR4 hS4) hR4 fun c hc => ?_⟩
  obtain ⟨c2, hc2, ex2⟩ := rk S []
  obtain rfl : c = c2 := same hc (by rw [hc2]; exact ⟨fun h => by rw [h, List.append_nil], fun h => List.append_right_eq_self.mp h⟩)
  refine ⟨by decide, _, _, c, rfl, rfl, ex2, ?_⟩
  rw [show (c != true) = !c by cases c <;> rfl, eqb, if_neg (by decide)]
  subst hR1
  walk_at "d"
  have hz : ∀ {a : Addr} {bs : List Addr}, bs.length = R.length → _ := fun {a bs} h => fz_list (a := a) (bs := bs) (cs := R.map rowL) (by rw [h, List.length_map]) (fun c hc kvs => by
    obtain ⟨r, _, rfl⟩ := List.mem_map.mp hc
    exact fun z => nomatch z)
  refine ⟨rfl, p, w, R, rfl, by omega, fun a bs hbs hnd => ?_⟩
  dsimp only
  refine ⟨_, _, (hz hbs).1, (hz hbs).2, ?_⟩
  refine ⟨rfl, p, w, R, rfl, by omega, fun a2 bs2 hbs2 hnd2 => ?_⟩
  dsimp only
  refine ⟨_, _, (hz hbs2).1, (hz hbs2).2, by decide, by decide, ?_⟩
  obtain ⟨Th, hTh⟩ : ∃ Th, Th = [D.non, D.int 0, D.lst (R.map rowL), D.int p, D.str (Str.ofString "t"), D.tup [D.int p, D.int (w : Int), D.lst (R.map rowL)]] := ⟨_, rfl⟩
  have tk : ∀ a ∈ Th, ∃ t, tyD a = some t ∧ (∀ c, t = .own c → c ∈ CS) ∧ t ≠ .own "Table" := fun a ha => by
    rw [hTh] at ha
    simp only [List.mem_cons, List.not_mem_nil, or_false] at ha
    rcases ha with rfl | rfl | rfl | rfl | rfl | rfl
    all_goals exact ⟨_, rfl, (fun c e => nomatch e), fun e => nomatch e⟩
  rw [← hTh]
  have lTh : Th.length = 6 := by rw [hTh]; rfl
  rw [show Th = Th.map id from (List.map_id Th).symm]
  refine lcD_all id (fun _ => D.bl false) Th _ (fun a ha K' h => ?_) (by omega) ?_
  · obtain ⟨t, t1, t2, t3⟩ := tk a ha
    walk_at "d"
    refine ⟨⟨_, rfl⟩, ?_⟩
    dsimp only [id]
    rw [t1]
    exact ⟨t2, .inr (.inr ⟨p, w, R, a, t, rfl, t1, t2, t3, h⟩)⟩
  have eb : ∀ L : List D, boolsD (L.map fun _ => D.bl false) = some (L.map fun _ => false) := fun L => by
    induction L with
    | nil => rfl
    | cons k L ih =>
      rw [List.map_cons, List.map_cons]
      unfold boolsD
      rw [ih]
      rfl
  rw [eb]
  dsimp only
  rw [show (Th.map fun _ => false).any id = false by simp]
  exact hq
end

end My

namespace My
open PySem PySem.Spec L2 DL
theorem sc__law_pick : FnScope ["_law_spring_here", "_law_things"] ["_law_spring_here", "_law_things"] (defScope (top 55)) := ⟨rfl, rfl, rfl, by decide +kernel, rfl, by decide +kernel, by decide +kernel⟩
section
variable {P : Program} {w : World} {K : PySem.W.Frag} {mg : Str → Option Value} {base : Heap}
theorem ok__law_pick (T : Top K mg) : Sg P w K mg base "_law_pick" 2 2 F__law_pick [] := by
  obtain ⟨fd, FD⟩ := T.d__law_pick
  refine ⟨_, fd, ["_law_spring_here", "_law_things"], [], [], ?_, T.g__law_pick, FD.kp, FD.bindsN (fun _ _ _ _ _ _ us hl => match us, hl with | [_, _], _ => rfl), .nil, fun _ => .nil⟩
  refine ok_def FD sc__law_pick rfl ?_
  rintro X E W ds n q xx ⟨cdv, A, outer, s, H, rfl⟩ hr tk pso hl hF
  have hu := hr.units
  have hu1 := hu_of hr
  refine ⟨_, (pss_oneD (ps_retD (pd_ix (pb_var 1) (PD.pb (pd_call (ok__law_draw T) (hr.mono (by decide)) tk (by rfl) (pad_cons (pd_var 0) (pad_cons (pd_callB call_lenD2 dcall_len (by rfl) T.f_len (by decide +kernel) (pab_cons (pb_var 1) pab_nil)) pad_nil))))))), ?_⟩
  clear hr tk pso hl hu hu1
  match ds, hF with
  | [.hnd s, .lst es], hF =>
    obtain ⟨hW, h0, h1, h2, hq⟩ := hF
    walk_at "d"
    refine ⟨hW, by omega, by omega, h2, fun k hk => ?_⟩
    have hk' : k < es.length := by omega
    have e : atI es (k : Int) = some es[k] := atI_nat (List.getElem?_eq_getElem hk')
    show (match atI es (k : Int) with | some d => q d (n + 1) | none => False)
    rw [e]
    exact hq _ (List.getElem_mem hk')
end

end My

namespace My
open PySem PySem.Spec L2 DL
theorem sc__law_other : FnScope ["_law_spring_here", "_law_p", "_law_one"] ["_law_spring_here", "_law_p"] (defScope (top 63)) := ⟨rfl, rfl, rfl, by decide +kernel, rfl, by decide +kernel, by decide +kernel⟩
section
variable {P : Program} {w : World} {K : PySem.W.Frag} {mg : Str → Option Value} {base : Heap}
theorem ok__law_other (T : Top K mg) : Sg P w K mg base "_law_other" 3 2 F__law_other [] := by
  obtain ⟨fd, FD⟩ := T.d__law_other
  refine ⟨_, fd, ["_law_spring_here", "_law_p"], [], [], ?_, T.g__law_other, FD.kp, FD.bindsN (fun _ _ _ _ _ _ us hl => match us, hl with | [_, _], _ => rfl), .nil, fun _ => .nil⟩
  refine ok_def FD sc__law_other rfl ?_
  rintro X E W ds n q xx ⟨cdv, A, outer, s, H, rfl⟩ hr tk pso hl hF
  have hu := hr.units
  have hu1 := hu_of hr
  refine ⟨_, (pss_oneD (ps_retD (pd_call (ok__law_pick T) (hr.mono (by decide)) tk (by rfl) (pad_cons (pd_var 0) (pad_cons (PF.pd (pf_lc [("_law_one", 2)] rfl sc__law_other.nd (pid_seq (PF.pd (pf_lst (pad_cons pd_int (pad_cons pd_int (pad_cons pd_int (pad_cons pd_int pad_nil))))))) (blkOk_by (own := [("_law_one", 2)]) (N := ["_law_spring_here", "_law_p", "_law_one"]) (sc := defScope (top 63)) (by decide +kernel)) (fun _ _ _ _ _ => (pgd_name 2 sc__law_other.nd)) (fun _ _ _ _ _ => (ptsD_one (pt_ne hu (pb_var 2) (pb_var 1)))) (fun _ _ _ _ _ => (pd_var 2)))) pad_nil))))), ?_⟩
  clear hr tk pso hl hu hu1
  obtain ⟨s0, p, rfl, hW, hp, hn, hq⟩ := hF
  walk_at "d"
  refine ⟨by decide, ?_⟩
  refine lcD_of D.int (fun i => if i = p then none else some (.int i)) [2, 3, 5, 7] [] _ (fun a _ K h => ?_) (by decide) ?_
  · walk_at "d"
    rw [show (pyD (.int a)).eqv (pyD (.int p)) = decide (a = p) from eqv_int a p]
    by_cases e : a = p
    · simpa [e] using h
    · simpa [e] using h
  · have key : ∀ p' : Int, isPr p' = true → p' ≠ p → q (.int p') (n + 1) := hq
    refine ⟨hW, ?_, ?_, by omega, fun d hd => ?_⟩
    · rcases isPr_cases hp with rfl | rfl | rfl | rfl <;> decide
    · rcases isPr_cases hp with rfl | rfl | rfl | rfl <;> decide
    · obtain ⟨i, hi, hm⟩ := List.mem_filterMap.mp hd
      by_cases e : i = p
      · rw [if_pos e] at hm; cases hm
      · rw [if_neg e] at hm
        cases hm
        refine key i ?_ e
        simp only [List.mem_cons, List.not_mem_nil, or_false] at hi
        rcases hi with rfl | rfl | rfl | rfl <;> rfl
end

end My

namespace My
open PySem PySem.Spec L2 DL
theorem sc__law_prime : FnScope ["_law_spring_here"] ["_law_spring_here"] (defScope (top 62)) := ⟨rfl, rfl, rfl, by decide +kernel, rfl, by decide +kernel, by decide +kernel⟩
section
variable {P : Program} {w : World} {K : PySem.W.Frag} {mg : Str → Option Value} {base : Heap}
theorem ok__law_prime (T : Top K mg) : Sg P w K mg base "_law_prime" 3 1 F__law_prime [] := by
  obtain ⟨fd, FD⟩ := T.d__law_prime
  refine ⟨_, fd, ["_law_spring_here"], [], [], ?_, T.g__law_prime, FD.kp, FD.bindsN (fun _ _ _ _ _ _ us hl => match us, hl with | [_], _ => rfl), .nil, fun _ => .nil⟩
  refine ok_def FD sc__law_prime rfl ?_
  rintro X E W ds n q xx ⟨cdv, A, outer, s, H, rfl⟩ hr tk pso hl hF
  have hu := hr.units
  have hu1 := hu_of hr
  refine ⟨_, (pss_oneD (ps_retD (pd_call (ok__law_pick T) (hr.mono (by decide)) tk (by rfl) (pad_cons (pd_var 0) (pad_cons (PF.pd (pf_lst (pad_cons pd_int (pad_cons pd_int (pad_cons pd_int (pad_cons pd_int pad_nil)))))) pad_nil))))), ?_⟩
  clear hr tk pso hl hu hu1
  obtain ⟨s0, rfl, hW, hn, hq⟩ := hF
  walk_at "d"
  refine ⟨by decide, hW, by decide, by decide, hn, fun d hd => ?_⟩
  simp only [List.mem_cons, List.not_mem_nil, or_false] at hd
  rcases hd with rfl | rfl | rfl | rfl <;> exact hq _ (by decide)
end

end My

namespace My
open PySem PySem.Spec L2 DL
theorem sc__law_held : FnScope ["_law_prime_here", "_law_terms", "_law_sums", "_law_found", "_law_offset", "_law_coefficient", "_law_k"] ["_law_prime_here", "_law_terms"] (defScope (top 57)) := ⟨rfl, rfl, rfl, by decide +kernel, rfl, by decide +kernel, by decide +kernel⟩
section
variable {P : Program} {w : World} {K : PySem.W.Frag} {mg : Str → Option Value} {base : Heap}
theorem held_loop {E : DEnds} {L : Nat} (hL : L = 2) {p : Int} (hp : 0 < p) (o t : Option Sl) (ts : Tm) : ∀ (m : Tm) (x y : Option Sl) (n : Nat), m.length + ts.length < 2000000 → (∀ x y, E.nx [some (.val (.int p)), o, some (.own (.dct ((ts.foldl (hstep p) m).map kvp))), t, x, y, none] n) →
    forD (gTn L (gsC (gN 4) (gsC (gN 5) gs0))) (dPut 2 (bVar 4) (dOp fMod (dCB fInt (dCons (dOp fAdd (dGet2 (bVar 2) (bVar 4) (dC (.int 0))) (bVar 5)) dNil)) (bVar 0))) (ts.map trm) E [some (.val (.int p)), o, some (.own (.dct (m.map kvp))), t, x, y, none] n := by
  subst hL
  induction ts with
  | nil => intro m x y n _ h; exact h x y
  | cons a ts ih =>
    intro m x y n hl h
    rw [List.map_cons, forD_cons]
    walk_at "d"
    rw [List.length_cons] at hl
    refine ⟨hp, by omega, ?_⟩
    refine ih _ _ _ _ ?_ h
    have := putI_length m a.1 ((getI m a.1 + a.2) % p)
    omega
theorem held_loop2 {E : DEnds} (S : Tm) (o p : Option Sl) (ks : List Int) : ∀ (m : Tm) (x y : Option Sl) (n : Nat), m.length + ks.length < 2000000 → (m.map (·.1) ++ ks).Nodup → (∀ k ∈ ks, k ∈ S.map (·.1)) → (∀ x, E.nx [p, o, some (.val (.dct (S.map kvp))), some (.own (.dct ((m ++ (ks.filter fun k => decide (0 < getI S k)).map fun k => (k, getI S k)).map kvp))), x, y, none] n) →
    forD (gN 4) (dIfS (dTest (dOp fGt (dOp fDg (bVar 2) (bVar 4)) (dC (.int 0)))) (dPut 3 (bVar 4) (dOp fDg (bVar 2) (bVar 4))) dNext) (ks.map D.int) E [p, o, some (.val (.dct (S.map kvp))), some (.own (.dct (m.map kvp))), x, y, none] n := by
  induction ks with
  | nil => intro m x y n _ _ _ h; have z := h x; rw [List.filter_nil, List.map_nil, List.append_nil] at z; exact z
  | cons k ks ih =>
    intro m x y n hl hn hk h
    rw [List.map_cons, forD_cons]
    walk_at "d"
    rw [get_kvp' (hk k (List.mem_cons_self ..))]
    walk_at "d"
    rw [List.length_cons] at hl
    have nk : k ∉ m.map (·.1) := fun z => by
      rw [List.nodup_append] at hn
      exact hn.2.2 k z k (List.mem_cons_self ..) rfl
    rw [List.filter_cons] at h
    by_cases c : 0 < getI S k
    · simp only [c, decide_true, if_true] at h ⊢
      refine ⟨by omega, ?_⟩
      rw [putI_new _ nk]
      refine ih _ _ _ _ (by rw [List.length_append, List.length_singleton]; omega) ?_ (fun j hj => hk j (List.mem_cons_of_mem _ hj)) ?_
      · rw [List.map_append, List.append_assoc]; exact hn
      · rw [List.append_assoc]; exact h
    · simp only [c, decide_false] at h ⊢
      refine ih _ _ _ _ (by omega) ?_ (fun j hj => hk j (List.mem_cons_of_mem _ hj)) h
      exact List.Nodup.sublist (List.Sublist.append (List.Sublist.refl _) (List.sublist_cons_self ..)) hn
theorem ok__law_held (T : Top K mg) : SgF P w K mg base "_law_held" 1 2 F__law_held [] := by
  obtain ⟨fd, FD⟩ := T.d__law_held
  refine ⟨_, fd, ["_law_prime_here", "_law_terms"], [], [], ?_, T.g__law_held, FD.kp, FD.bindsN (fun _ _ _ _ _ _ us hl => match us, hl with | [_, _], _ => rfl), .nil, fun _ => .nil⟩
  refine ok_defF FD sc__law_held rfl ?_
  rintro X E W ds n q xx ⟨cdv, A, outer, s, H, rfl⟩ hr tk pso hl hF
  have hu := hr.units
  have hu1 := hu_of hr
  refine ⟨_, (pss_consD (ps_par2 2 3 rfl sc__law_held.nd (PF.sl pf_dct0) (PF.sl pf_dct0))
      (pss_consD (ps_forD pso rfl (pid_seq (pd_var 1)) (pgd_tup (m := 2) rfl (pgsd_cons (pgd_name 4 sc__law_held.nd) (pgsd_cons (pgd_name 5 sc__law_held.nd) pgsd_nil))) (pss_oneD (ps_putD 2 hu1 (pb_var 4) (pd_mod (PD.pb (pd_callTy call_int1 dcall_int (by rfl) T.f_int (by decide +kernel) (pab_cons (PD.pb (pd_add (PD.pb (pd_get2 hu1 (pb_var 2) (pb_var 4) pd_int)) (pb_var 5))) pab_nil))) (pb_var 0)))))
      (pss_frz 2 (pss_consD (ps_forD pso rfl (pid_seq (pd_callB cr_sortedI dcall_sorted (by rfl) T.f_sorted (by decide +kernel) (pab_cons (PD.pb (PF.pd (pf_lc [("_law_k", 6)] rfl sc__law_held.nd (pid_keys (pd_var 2)) (blkOk_by (own := [("_law_k", 6)]) (N := ["_law_prime_here", "_law_terms", "_law_sums", "_law_found", "_law_offset", "_law_coefficient", "_law_k"]) (sc := defScope (top 57)) (by decide +kernel)) (fun _ _ _ _ _ => (pgd_name 6 sc__law_held.nd)) (fun _ _ _ _ _ => ptsD_nil) (fun _ _ _ _ _ => (pd_callTy call_int1 dcall_int (by rfl) T.f_int (by decide +kernel) (pab_cons (pb_var 6) pab_nil)))))) pab_nil))) (pgd_name 4 sc__law_held.nd) (pss_oneD (ps_ifD (pt_gt (PD.pb (pd_dg hu1 (pb_var 2) (pb_var 4))) (PD.pb pd_int)) (pss_oneD (ps_putD 3 hu1 (pb_var 4) (pd_dg hu1 (pb_var 2) (pb_var 4)))) pss_nilD)))
      (pss_oneD (ps_retOD 3)))))), ?_⟩
  clear hr tk pso hl hu hu1
  obtain ⟨p, ts, rfl, hp, hl2, hq⟩ := hF
  walk_at "d"
  refine held_loop rfl hp _ _ ts [] _ _ n (by rw [List.length_nil]; omega) fun x y => ?_
  walk_at "d"
  have eh : List.foldl (hstep p) [] ts = hsum p ts := rfl
  rw [eh]
  have hlen := hsum_length p ts
  refine lcD_map some _ _ _ (fun d hd K h => ?_) (by simp; omega) ?_
  · obtain ⟨k, _, rfl⟩ := List.mem_map.mp hd
    walk_at "d"
    exact h
  rw [fm_some, List.nil_append, intsD_map]
  intro ms hperm hsort
  obtain rfl := srt_of hperm hsort
  refine held_loop2 (hsum p ts) _ _ _ [] _ _ n ?_ ?_ (fun k hk => hsum_key hk) fun x => ?_
  · rw [List.length_nil, (srt_perm _).length_eq, List.length_map]; omega
  · exact (srt_perm _).symm.nodup (hsum_nodup p ts)
  · walk_at "d"
    exact hq
end

end My

namespace My
open PySem PySem.Spec L2 DL
theorem sc__law_drawn : FnScope ["_law_spring_here", "_law_prime_here", "_law_most", "_law_reach", "_law_terms", "_law_k", "_law_offset"] ["_law_spring_here", "_law_prime_here", "_law_most", "_law_reach"] (defScope (top 59)) := ⟨rfl, rfl, rfl, by decide +kernel, rfl, by decide +kernel, by decide +kernel⟩
section
variable {P : Program} {w : World} {K : PySem.W.Frag} {mg : Str → Option Value} {base : Heap}
theorem drawn_loop {E : DEnds} {s0 : Addr} (hW : ∃ c, E.w = sprW s0 c) {p : Int} (hp : isPr p = true) (o : Option Sl) (reach : Nat) (hr : reach < 1000) : ∀ (ds : List D) (acc : Tm) (x y : Option Sl) (n : Nat), n + 2 * ds.length < 1000000 → acc.length + ds.length < 2000 → (∀ t ∈ acc, -(reach : Int) ≤ t.1 ∧ t.1 ≤ reach) → (∀ (ts : Tm) x y, ts.length = acc.length + ds.length → (∀ t ∈ ts, -(reach : Int) ≤ t.1 ∧ t.1 ≤ reach) → E.nx [some (.val (.hnd s0)), some (.val (.int p)), o, some (.val (.int reach)), some (.own (.lst (ts.map trm))), x, y] (n + 2 * ds.length)) →
    forD (gN 5) (dSeq (dSet 6 (dOp fSub (dCall 2 fDraw [] (dCons (dVar 0) (dCons (dOp fAdd (dOp fMul (dC (.int 2)) (bVar 3)) (dC (.int 1))) dNil))) (bVar 3))) (dApp 4 (dTup (dCons (dVar 6) (dCons (dCall 2 fDraw [] (dCons (dVar 0) (dCons (dVar 1) dNil))) dNil))))) ds E [some (.val (.hnd s0)), some (.val (.int p)), o, some (.val (.int reach)), some (.own (.lst (acc.map trm))), x, y] n
  | [], acc, x, y, n, _, _, hb, h => h acc x y rfl hb
  | d :: ds, acc, x, y, n, hn, hl, hb, h => by
    have hp0 := isPr_pos hp
    rw [List.length_cons] at hn hl
    rw [forD_cons]
    walk_at "d"
    refine ⟨.inl (.inl ⟨by decide, by decide⟩), hW, by omega, by omega, by omega, fun k hk => ?_⟩
    walk_at "d"
    refine ⟨hW, by omega, by omega, by omega, fun j hj => ?_⟩
    walk_at "d"
    refine ⟨by decide, by omega, ?_⟩
    have e : acc.map trm ++ [D.tup [.int ((k : Int) - reach), .int j]] = (acc ++ [((k : Int) - reach, (j : Int))]).map trm := by rw [List.map_append]; rfl
    rw [e]
    refine drawn_loop hW hp o reach hr ds _ _ _ _ (by omega) (by rw [List.length_append, List.length_singleton]; omega) (fun t ht => ?_) fun ts x y hts hb' => ?_
    · rcases List.mem_append.mp ht with ht | ht
      · exact hb t ht
      · rw [List.mem_singleton.mp ht]; constructor <;> omega
    rw [List.length_append, List.length_singleton] at hts
    have z := h ts x y (by rw [List.length_cons]; omega) hb'
    rw [List.length_cons, show n + 2 * (ds.length + 1) = n + 1 + 1 + 2 * ds.length by omega] at z
    exact z
theorem ok__law_drawn (T : Top K mg) : SgF P w K mg base "_law_drawn" 2 4 F__law_drawn [] := by
  obtain ⟨fd, FD⟩ := T.d__law_drawn
  refine ⟨_, fd, ["_law_spring_here", "_law_prime_here", "_law_most", "_law_reach"], [], [], ?_, T.g__law_drawn, FD.kp, FD.bindsN (fun _ _ _ _ _ _ us hl => match us, hl with | [_, _, _, _], _ => rfl), .nil, fun _ => .nil⟩
  refine ok_defF FD sc__law_drawn rfl ?_
  rintro X E W ds n q xx ⟨cdv, A, outer, s, H, rfl⟩ hr tk pso hl hF
  have hu := hr.units
  have hu1 := hu_of hr
  refine ⟨_, (pss_consD (ps_ownD 4 (pf_lst pad_nil) sc__law_drawn.nd)
      (pss_consD (ps_forD pso rfl (pid_r1 (by rfl) T.f_range (pab_cons (PD.pb (pd_call (ok__law_draw T) (hr.mono (by decide)) tk (by rfl) (pad_cons (pd_var 0) (pad_cons (pd_add (pb_var 2) (PD.pb pd_int)) pad_nil)))) pab_nil)) (pgd_name 5 sc__law_drawn.nd) (pss_consD (ps_setD 6 (pd_sub (PD.pb (pd_call (ok__law_draw T) (hr.mono (by decide)) tk (by rfl) (pad_cons (pd_var 0) (pad_cons (pd_add (PD.pb (pd_mul (PD.pb pd_int) (pb_var 3))) (PD.pb pd_int)) pad_nil)))) (pb_var 3)) sc__law_drawn.nd)
      (pss_oneD (ps_appD 4 (pd_tup (pad_cons (pd_var 6) (pad_cons (pd_call (ok__law_draw T) (hr.mono (by decide)) tk (by rfl) (pad_cons (pd_var 0) (pad_cons (pd_var 1) pad_nil))) pad_nil)))))))
      (pss_frz 4 (pss_oneD (ps_retFD (pf_call (ok__law_held T) (hr.mono (by decide)) tk (by rfl) (pad_cons (pd_var 1) (pad_cons (pd_var 4) pad_nil)))))))), ?_⟩
  clear hr tk pso hl hu hu1
  obtain ⟨s0, p, most, reach, rfl, hW, hp, hm, hr2, hn, hq⟩ := hF
  have hp0 := isPr_pos hp
  walk_at "d"
  refine ⟨by decide, hW, by omega, by omega, by omega, fun k hk => ?_⟩
  walk_at "d"
  refine ⟨⟨by omega, by omega⟩, ?_⟩
  refine drawn_loop hW hp _ reach hr2 _ [] _ _ _ (by rw [rng_len]; omega) (by rw [rng_len, List.length_nil]; omega) (fun t ht => absurd ht List.not_mem_nil) fun ts x y hts hb => ?_
  rw [rng_len] at hts ⊢
  rw [List.length_nil] at hts
  walk_at "d"
  refine ⟨p, ts, rfl, hp0.1, by omega, ?_⟩
  rw [← can_lp hp0.1]
  have h4 := nt_lp hp0.1 ts
  exact hq (lp p ts) _ (by omega) (.lp hb) (by omega)
end

end My

namespace My
open PySem PySem.Spec L2 DL
theorem sc__law_row : FnScope ["_law_spring_here", "_law_p", "_law_width", "_law_most", "_law_reach", "_law_column"] ["_law_spring_here", "_law_p", "_law_width", "_law_most", "_law_reach"] (defScope (top 64)) := ⟨rfl, rfl, rfl, by decide +kernel, rfl, by decide +kernel, by decide +kernel⟩
section
variable {P : Program} {w : World} {K : PySem.W.Frag} {mg : Str → Option Value} {base : Heap}
theorem ok__law_row (T : Top K mg) : Sg P w K mg base "_law_row" 3 5 F__law_row [] := by
  obtain ⟨fd, FD⟩ := T.d__law_row
  refine ⟨_, fd, ["_law_spring_here", "_law_p", "_law_width", "_law_most", "_law_reach"], [], [], ?_, T.g__law_row, FD.kp, FD.bindsN (fun _ _ _ _ _ _ us hl => match us, hl with | [_, _, _, _, _], _ => rfl), .nil, fun _ => .nil⟩
  refine ok_def FD sc__law_row rfl ?_
  rintro X E W ds n q xx ⟨cdv, A, outer, s, H, rfl⟩ hr tk pso hl hF
  have hu := hr.units
  have hu1 := hu_of hr
  refine ⟨_, (pss_oneD (ps_retD (PF.pd (pf_lc [("_law_column", 5)] rfl sc__law_row.nd (pid_r1 (by rfl) T.f_range (pab_cons (pb_var 2) pab_nil)) (blkOk_by (own := [("_law_column", 5)]) (N := ["_law_spring_here", "_law_p", "_law_width", "_law_most", "_law_reach", "_law_column"]) (sc := defScope (top 64)) (by decide +kernel)) (fun _ _ _ _ _ => (pgd_name 5 sc__law_row.nd)) (fun _ _ _ _ _ => ptsD_nil) (fun _ _ _ _ _ => (PF.pd (pf_call (ok__law_drawn T) (hr.mono (by decide)) DL.takes0 (by rfl) (pad_cons (pd_var 0) (pad_cons (pd_var 1) (pad_cons (pd_var 3) (pad_cons (pd_var 4) pad_nil))))))))))), ?_⟩
  clear hr tk pso hl hu hu1
  obtain ⟨s0, p, w, most, reach, rfl, hW, hp, hw, hm, hr, hn, hq⟩ := hF
  have hp0 := isPr_pos hp
  walk_at "d"
  rw [Int.toNat_natCast, rngD_map]
  refine ⟨by omega, ?_⟩
  have hb : ∀ k : Nat, k ≤ 100 → k * (1 + 2 * most) ≤ 100 * 199 := fun k hk => Nat.mul_le_mul hk (by omega)
  refine lcD_pre _ _ (fun pre acc n' => ∃ r : List (LP p), acc = r.map dk ∧ r.length = pre.length ∧ (∀ x ∈ r, Nb x reach) ∧ n' ≤ n + pre.length * (1 + 2 * most)) (fun pre i post e acc n' K hI hK => ?_) (fun acc n' hI => ?_) ⟨[], rfl, rfl, (fun x hx => nomatch hx), by simp⟩
  · obtain ⟨r, rfl, hrl, hrb, hn'⟩ := hI
    obtain ⟨rfl, hpl⟩ := range_split e
    have := hb pre.length (by omega)
    walk_at "d"
    refine ⟨s0, p, most, reach, rfl, hW, hp, hm, hr, by omega, fun x n1 h1 h2 h3 => ?_⟩
    refine ⟨by omega, hK _ _ ⟨r ++ [x], by rw [List.map_append]; rfl, by rw [List.length_append, List.length_append, hrl]; rfl, fun y hy => ?_, by rw [List.length_append, List.length_singleton, Nat.add_mul]; omega⟩⟩
    rcases List.mem_append.mp hy with hy | hy
    · exact hrb y hy
    · rw [List.mem_singleton.mp hy]; exact h2
  · obtain ⟨r, rfl, hrl, hrb, hn'⟩ := hI
    rw [List.length_range] at hrl hn'
    exact hq r n' hrl hrb hn'
end

end My

namespace My
open PySem PySem.Spec L2 DL
theorem sc_Table___len__ : FnScope ["self"] ["self"] (defScope (inClass (top 51) 1)) := ⟨rfl, rfl, rfl, by decide +kernel, rfl, by decide +kernel, by decide +kernel⟩
section
variable {P : Program} {w : World} {K : PySem.W.Frag} {mg : Str → Option Value} {base : Heap}
theorem ok_Table___len__ (T : Top K mg) : Mg P w K mg base "Table" "__len__" 1 1 F_Table___len__ [] := by
  obtain ⟨fd, FD⟩ := T.d_Table___len__
  refine ⟨T.cl_Table, _, fd, ["self"], [], [], ?_, T.m_Table___len__, FD.bindsN (fun _ _ _ _ _ _ us hl => match us, hl with | [_], _ => rfl), .nil, fun _ => .nil⟩
  refine ok_def FD sc_Table___len__ rfl ?_
  rintro X E W ds n q xx ⟨cdv, A, outer, s, H, rfl⟩ hr tk pso hl hF
  have hu := hr.units
  have hu1 := hu_of hr
  refine ⟨_, (pss_oneD (ps_retD (pd_callB call_lenD2 dcall_len (by rfl) T.f_len (by decide +kernel) (pab_cons (PD.pb (pd_fld ["Table"] T.fld_Table_kept (pb_var 0))) pab_nil)))), ?_⟩
  clear hr tk pso hl hu hu1
  obtain ⟨p, w, R, rfl, hq⟩ := hF
  walk_at "d"
  exact hq
end

end My

namespace My
open PySem PySem.Spec L2 DL
theorem sc_Filter_terms : FnScope ["self"] ["self"] (defScope (inClass (top 33) 7)) := ⟨rfl, rfl, rfl, by decide +kernel, rfl, by decide +kernel, by decide +kernel⟩
section
variable {P : Program} {w : World} {K : PySem.W.Frag} {mg : Str → Option Value} {base : Heap}
theorem ok_Filter_terms (T : Top K mg) : Mg P w K mg base "Filter" "terms" 1 1 F_Filter_terms [] := by
  obtain ⟨fd, FD⟩ := T.d_Filter_terms
  refine ⟨T.cl_Filter, _, fd, ["self"], [], [], ?_, T.m_Filter_terms, FD.bindsN (fun _ _ _ _ _ _ us hl => match us, hl with | [_], _ => rfl), .nil, fun _ => .nil⟩
  refine ok_def FD sc_Filter_terms rfl ?_
  rintro X E W ds n q xx ⟨cdv, A, outer, s, H, rfl⟩ hr tk pso hl hF
  have hu := hr.units
  have hu1 := hu_of hr
  refine ⟨_, (pss_oneD (ps_retD (PF.pd (pf_list (by rfl) T.f_list (pab_cons (PD.pb (pd_fld ["Filter"] T.fld_Filter_kept (pb_var 0))) pab_nil))))), ?_⟩
  clear hr tk pso hl hu hu1
  obtain ⟨p, ts, rfl, hq⟩ := hF
  walk_at "d"
  exact hq
end

end My

namespace My
open PySem PySem.Spec L2 DL
theorem sc__law_same : FnScope ["_law_found", "_law_due", "_law_x", "_law_y"] ["_law_found", "_law_due"] (defScope (top 56)) := ⟨rfl, rfl, rfl, by decide +kernel, rfl, by decide +kernel, by decide +kernel⟩
section
variable {P : Program} {w : World} {K : PySem.W.Frag} {mg : Str → Option Value} {base : Heap}
theorem ok__law_same (T : Top K mg) : ∀ k, Sg P w K mg base "_law_same" (k + 1) 2 (F__law_same k) []
  | 0 => by
    obtain ⟨fd, FD⟩ := T.d__law_same
    refine ⟨_, fd, ["_law_found", "_law_due"], [], [], ?_, T.g__law_same, FD.kp, FD.bindsN (fun _ _ _ _ _ _ us hl => match us, hl with | [_, _], _ => rfl), .nil, fun _ => .nil⟩
    refine ok_def FD sc__law_same rfl ?_
    rintro X E W ds n q xx ⟨cdv, A, outer, s, H, rfl⟩ hr tk pso hl hF
    have hu := hr.units
    have hu1 := hu_of hr
    refine ⟨_, (pss_consD (ps_ifD (pt_valD (PD.pb (pd_isiT T.tyf (T.kt_list_tuple) (by rfl) T.f_isinstance (pa_cons (pe_bltn (v := .ty "list") (by rfl) T.f_list (by decide +kernel) rfl) (pa_cons (pe_bltn (v := .ty "tuple") (by rfl) T.f_tuple (by decide +kernel) rfl) pa_nil)) (fun _ _ _ h => h) (.cons (.ty "list") (.cons (.ty "tuple") .nil)) (by decide) (pb_var 1)))) (pss_consD (ps_ifD (PWD.pt (pwd_or (pt_ne hu (PD.pb (pd_isiB T.tyf (T.kb_list) (by rfl) T.f_isinstance (by rfl) T.f_list (by decide +kernel) (pb_var 0))) (PD.pb (pd_isiB T.tyf (T.kb_list) (by rfl) T.f_isinstance (by rfl) T.f_list (by decide +kernel) (pb_var 1)))) (pwd_or1 (pt_ne hu (PD.pb (pd_isiB T.tyf (T.kb_tuple) (by rfl) T.f_isinstance (by rfl) T.f_tuple (by decide +kernel) (pb_var 0))) (PD.pb (pd_isiB T.tyf (T.kb_tuple) (by rfl) T.f_isinstance (by rfl) T.f_tuple (by decide +kernel) (pb_var 1))))))) (pss_oneD (ps_retD pd_bl)) pss_nilD)
      (pss_oneD (ps_retD (pd_and (pd_eq hu (PD.pb (pd_callB call_lenD2 dcall_len (by rfl) T.f_len (by decide +kernel) (pab_cons (pb_var 0) pab_nil))) (PD.pb (pd_callB call_lenD2 dcall_len (by rfl) T.f_len (by decide +kernel) (pab_cons (pb_var 1) pab_nil)))) (pd_one (pd_callB (cr_all rfl) dcall_all (by rfl) T.f_all (by decide +kernel) (pab_cons (PD.pb (PF.pd (pf_lc [("_law_x", 2), ("_law_y", 3)] rfl sc__law_same.nd (pid_zipK (by rfl) T.f_zip (pad_cons (pd_var 0) (pad_cons (pd_var 1) pad_nil))) (blkOk_by (own := [("_law_x", 2), ("_law_y", 3)]) (N := ["_law_found", "_law_due", "_law_x", "_law_y"]) (sc := defScope (top 56)) (by decide +kernel)) (fun _ _ _ _ _ => (pgd_tup (m := 2) rfl (pgsd_cons (pgd_name 2 sc__law_same.nd) (pgsd_cons (pgd_name 3 sc__law_same.nd) pgsd_nil)))) (fun _ _ _ _ _ => ptsD_nil) (fun _ _ _ _ _ => pd_never)))) pab_nil))))))) pss_nilD)
      (pss_consD (ps_ifD (pt_valD (PD.pb (pd_isiB T.tyf (T.kb_int) (by rfl) T.f_isinstance (by rfl) T.f_int (by decide +kernel) (pb_var 1)))) (pss_oneD (ps_retD (pd_and (pd_isiB T.tyf (T.kb_int) (by rfl) T.f_isinstance (by rfl) T.f_int (by decide +kernel) (pb_var 0)) (pd_and (pd_eq hu (PD.pb (pd_isiB T.tyf (T.kb_bool) (by rfl) T.f_isinstance (by rfl) T.f_bool (by decide +kernel) (pb_var 0))) (PD.pb (pd_isiB T.tyf (T.kb_bool) (by rfl) T.f_isinstance (by rfl) T.f_bool (by decide +kernel) (pb_var 1)))) (pd_one (pd_eq hu (pb_var 0) (pb_var 1))))))) pss_nilD)
      (pss_oneD (ps_retD (pd_and pd_never (pd_one (pd_eq hu (pb_var 0) (pb_var 1)))))))), ?_⟩
    obtain ⟨d, rfl, hp, hq⟩ := hF
    cases d with
    | int i =>
      walk_at "d"
      exact hq
    | bl b =>
      walk_at "d"
      exact hq
    | _ => exact hp.elim
  | k + 1 => by
    obtain ⟨fd, FD⟩ := T.d__law_same
    refine ⟨_, fd, ["_law_found", "_law_due"], [], [], ?_, T.g__law_same, FD.kp, FD.bindsN (fun _ _ _ _ _ _ us hl => match us, hl with | [_, _], _ => rfl), .nil, fun _ => .nil⟩
    refine ok_def FD sc__law_same rfl ?_
    rintro X E W ds n q xx ⟨cdv, A, outer, s, H, rfl⟩ hr tk pso hl hF
    have hu := hr.units
    have hu1 := hu_of hr
    refine ⟨_, (pss_consD (ps_ifD (pt_valD (PD.pb (pd_isiT T.tyf (T.kt_list_tuple) (by rfl) T.f_isinstance (pa_cons (pe_bltn (v := .ty "list") (by rfl) T.f_list (by decide +kernel) rfl) (pa_cons (pe_bltn (v := .ty "tuple") (by rfl) T.f_tuple (by decide +kernel) rfl) pa_nil)) (fun _ _ _ h => h) (.cons (.ty "list") (.cons (.ty "tuple") .nil)) (by decide) (pb_var 1)))) (pss_consD (ps_ifD (PWD.pt (pwd_or (pt_ne hu (PD.pb (pd_isiB T.tyf (T.kb_list) (by rfl) T.f_isinstance (by rfl) T.f_list (by decide +kernel) (pb_var 0))) (PD.pb (pd_isiB T.tyf (T.kb_list) (by rfl) T.f_isinstance (by rfl) T.f_list (by decide +kernel) (pb_var 1)))) (pwd_or1 (pt_ne hu (PD.pb (pd_isiB T.tyf (T.kb_tuple) (by rfl) T.f_isinstance (by rfl) T.f_tuple (by decide +kernel) (pb_var 0))) (PD.pb (pd_isiB T.tyf (T.kb_tuple) (by rfl) T.f_isinstance (by rfl) T.f_tuple (by decide +kernel) (pb_var 1))))))) (pss_oneD (ps_retD pd_bl)) pss_nilD)
      (pss_oneD (ps_retD (pd_and (pd_eq hu (PD.pb (pd_callB call_lenD2 dcall_len (by rfl) T.f_len (by decide +kernel) (pab_cons (pb_var 0) pab_nil))) (PD.pb (pd_callB call_lenD2 dcall_len (by rfl) T.f_len (by decide +kernel) (pab_cons (pb_var 1) pab_nil)))) (pd_one (pd_callB (cr_all rfl) dcall_all (by rfl) T.f_all (by decide +kernel) (pab_cons (PD.pb (PF.pd (pf_lc [("_law_x", 2), ("_law_y", 3)] rfl sc__law_same.nd (pid_zipK (by rfl) T.f_zip (pad_cons (pd_var 0) (pad_cons (pd_var 1) pad_nil))) (blkOk_by (own := [("_law_x", 2), ("_law_y", 3)]) (N := ["_law_found", "_law_due", "_law_x", "_law_y"]) (sc := defScope (top 56)) (by decide +kernel)) (fun _ _ _ _ _ => (pgd_tup (m := 2) rfl (pgsd_cons (pgd_name 2 sc__law_same.nd) (pgsd_cons (pgd_name 3 sc__law_same.nd) pgsd_nil)))) (fun _ _ _ _ _ => ptsD_nil) (fun _ _ _ _ _ => (pd_call (ok__law_same T k) hr DL.takes0 (by rfl) (pad_cons (pd_var 2) (pad_cons (pd_var 3) pad_nil))))))) pab_nil))))))) pss_nilD)
      (pss_consD (ps_ifD (pt_valD (PD.pb (pd_isiB T.tyf (T.kb_int) (by rfl) T.f_isinstance (by rfl) T.f_int (by decide +kernel) (pb_var 1)))) (pss_oneD (ps_retD (pd_and (pd_isiB T.tyf (T.kb_int) (by rfl) T.f_isinstance (by rfl) T.f_int (by decide +kernel) (pb_var 0)) (pd_and (pd_eq hu (PD.pb (pd_isiB T.tyf (T.kb_bool) (by rfl) T.f_isinstance (by rfl) T.f_bool (by decide +kernel) (pb_var 0))) (PD.pb (pd_isiB T.tyf (T.kb_bool) (by rfl) T.f_isinstance (by rfl) T.f_bool (by decide +kernel) (pb_var 1)))) (pd_one (pd_eq hu (pb_var 0) (pb_var 1))))))) pss_nilD)
      (pss_oneD (ps_retD (pd_and pd_never (pd_one (pd_eq hu (pb_var 0) (pb_var 1)))))))), ?_⟩
    obtain ⟨d, rfl, hp, hq⟩ := hF
    cases d with
    | lst es =>
      walk_at "d"
      rw [zip_self]
      refine lcD_map yesF _ _ _ (fun d hd K h => ?_) (by rw [List.length_map, List.length_nil]; have := hp.1; omega) ?_
      · obtain ⟨x, hx, rfl⟩ := List.mem_map.mp hd
        walk_at "d"
        exact ⟨x, rfl, hp.2 x hx, h⟩
      · rw [List.nil_append, bools_yes]
        simp only [all_yes]
        exact hq
    | tup es =>
      walk_at "d"
      rw [zip_self]
      refine lcD_map yesF _ _ _ (fun d hd K h => ?_) (by rw [List.length_map, List.length_nil]; have := hp.1; omega) ?_
      · obtain ⟨x, hx, rfl⟩ := List.mem_map.mp hd
        walk_at "d"
        exact ⟨x, rfl, hp.2 x hx, h⟩
      · rw [List.nil_append, bools_yes]
        simp only [all_yes]
        exact hq
    | int i =>
      walk_at "d"
      exact hq
    | bl b =>
      walk_at "d"
      exact hq
    | _ => exact hp.elim
theorem ok__law_same3 (T : Top K mg) : Sg P w K mg base "_law_same" 4 2 F__law_same3 [] := ok__law_same T 3
end

end My

namespace My
open PySem PySem.Spec L2 DL
theorem sc__law_is : FnScope ["_law_f", "_law_prime_here", "_law_held_here"] ["_law_f", "_law_prime_here", "_law_held_here"] (defScope (top 61)) := ⟨rfl, rfl, rfl, by decide +kernel, rfl, by decide +kernel, by decide +kernel⟩
section
variable {P : Program} {w : World} {K : PySem.W.Frag} {mg : Str → Option Value} {base : Heap}
theorem ok__law_is (T : Top K mg) : Sg P w K mg base "_law_is" 5 3 F__law_is [] := by
  obtain ⟨fd, FD⟩ := T.d__law_is
  refine ⟨_, fd, ["_law_f", "_law_prime_here", "_law_held_here"], [], [], ?_, T.g__law_is, FD.kp, FD.bindsN (fun _ _ _ _ _ _ us hl => match us, hl with | [_, _, _], _ => rfl), .nil, fun _ => .nil⟩
  refine ok_def FD sc__law_is rfl ?_
  rintro X E W ds n q xx ⟨cdv, A, outer, s, H, rfl⟩ hr tk pso hl hF
  have hu := hr.units
  have hu1 := hu_of hr
  refine ⟨_, (pss_oneD (ps_retD (pd_and (pd_isiO T.tyf (T.ko_Filter) (by rfl) T.f_isinstance (by rfl) T.g_Filter (pb_var 0)) (pd_one (pd_call (ok__law_same3 T) (hr.mono (by decide)) tk (by rfl) (pad_cons (PF.pd (pf_lst (pad_cons (pd_fld ["Filter"] T.fld_Filter_prime (pb_var 0)) (pad_cons (pd_meth0 (ok_Filter_terms T) (hr.mono (by decide)) tk (pd_var 0)) pad_nil)))) (pad_cons (PF.pd (pf_lst (pad_cons (pd_var 1) (pad_cons (pd_call (ok__law_pairs T) (hr.mono (by decide)) tk (by rfl) (pad_cons (pd_var 2) pad_nil)) pad_nil)))) pad_nil))))))), ?_⟩
  clear hr tk pso hl hu hu1
  obtain ⟨p, x, rfl, hp, hl2, hq⟩ := hF
  have hl3 : (can x).length < 1000000 := hl2
  walk_at "d"
  refine ⟨p, can x, rfl, by decide, can x, rfl, can_nodup x, hl3, by decide, _, rfl, ?_, hq⟩
  refine ⟨by show 2 < 10000000; decide, fun d hd => ?_⟩
  rcases List.mem_cons.mp hd with rfl | hd
  · exact trivial
  · rcases List.mem_cons.mp hd with rfl | hd
    · refine ⟨by rw [List.length_map]; omega, fun d hd => ?_⟩
      obtain ⟨t, _, rfl⟩ := List.mem_map.mp hd
      refine ⟨by show 2 < 10000000; decide, fun d hd => ?_⟩
      rcases List.mem_cons.mp hd with rfl | hd
      · exact trivial
      · rcases List.mem_cons.mp hd with rfl | hd
        · exact trivial
        · exact absurd hd List.not_mem_nil
    · exact absurd hd List.not_mem_nil
end

end My

namespace My
open PySem PySem.Spec L2 DL
theorem sc__law_row_is : FnScope ["_law_row_here", "_law_p", "_law_due", "_law_f", "_law_held_here"] ["_law_row_here", "_law_p", "_law_due"] (defScope (top 66)) := ⟨rfl, rfl, rfl, by decide +kernel, rfl, by decide +kernel, by decide +kernel⟩
section
variable {P : Program} {w : World} {K : PySem.W.Frag} {mg : Str → Option Value} {base : Heap}
theorem ok__law_row_is (T : Top K mg) : Sg P w K mg base "_law_row_is" 6 3 F__law_row_is [] := by
  obtain ⟨fd, FD⟩ := T.d__law_row_is
  refine ⟨_, fd, ["_law_row_here", "_law_p", "_law_due"], [], [], ?_, T.g__law_row_is, FD.kp, FD.bindsN (fun _ _ _ _ _ _ us hl => match us, hl with | [_, _, _], _ => rfl), .nil, fun _ => .nil⟩
  refine ok_def FD sc__law_row_is rfl ?_
  rintro X E W ds n q xx ⟨cdv, A, outer, s, H, rfl⟩ hr tk pso hl hF
  have hu := hr.units
  have hu1 := hu_of hr
  refine ⟨_, (pss_consD (ps_ifD (PWD.pt (pwd_or (ptd_not (pt_valD (PD.pb (pd_isiB T.tyf (T.kb_list) (by rfl) T.f_isinstance (by rfl) T.f_list (by decide +kernel) (pb_var 0))))) (pwd_or1 (pt_ne hu (PD.pb (pd_callB call_lenD2 dcall_len (by rfl) T.f_len (by decide +kernel) (pab_cons (pb_var 0) pab_nil))) (PD.pb (pd_callB call_lenD2 dcall_len (by rfl) T.f_len (by decide +kernel) (pab_cons (pb_var 2) pab_nil))))))) (pss_oneD (ps_retD pd_bl)) pss_nilD)
      (pss_oneD (ps_retD (pd_callB (cr_all rfl) dcall_all (by rfl) T.f_all (by decide +kernel) (pab_cons (PD.pb (PF.pd (pf_lc [("_law_f", 3), ("_law_held_here", 4)] rfl sc__law_row_is.nd (pid_zipK (by rfl) T.f_zip (pad_cons (pd_var 0) (pad_cons (pd_var 2) pad_nil))) (blkOk_by (own := [("_law_f", 3), ("_law_held_here", 4)]) (N := ["_law_row_here", "_law_p", "_law_due", "_law_f", "_law_held_here"]) (sc := defScope (top 66)) (by decide +kernel)) (fun _ _ _ _ _ => (pgd_tup (m := 2) rfl (pgsd_cons (pgd_name 3 sc__law_row_is.nd) (pgsd_cons (pgd_name 4 sc__law_row_is.nd) pgsd_nil)))) (fun _ _ _ _ _ => ptsD_nil) (fun _ _ _ _ _ => (pd_call (ok__law_is T) (hr.mono (by decide)) DL.takes0 (by rfl) (pad_cons (pd_var 3) (pad_cons (pd_var 1) (pad_cons (pd_var 4) pad_nil)))))))) pab_nil))))), ?_⟩
  clear hr tk pso hl hu hu1
  obtain ⟨p, r, rfl, hp, hl, hb, hq⟩ := hF
  have hp0 := isPr_pos hp
  unfold rowK
  walk_at "d"
  rw [zip_maps]
  refine lcD_all _ (fun _ => D.bl true) _ _ (fun x hx K h => ?_) (by omega) ?_
  · have := (hb x hx).nt hp
    walk_at "d"
    exact ⟨p, x, rfl, hp, by omega, h⟩
  rw [show boolsD (r.map fun _ => D.bl true) = some (r.map fun _ => true) from by
    clear hl hb hq
    induction r with
    | nil => rfl
    | cons a L ih => rw [List.map_cons, boolsD, ih]; rfl]
  simp only []
  rw [show (r.map fun _ => true).all id = true from by rw [List.all_map]; exact List.all_eq_true.mpr fun _ _ => rfl]
  exact hq
end

end My

namespace My
open PySem PySem.Spec L2 DL
theorem sc__law_table_is : FnScope ["_law_t", "_law_p", "_law_width", "_law_due", "_law_rows", "_law_row_here", "_law_held_here"] ["_law_t", "_law_p", "_law_width", "_law_due"] (defScope (top 67)) := ⟨rfl, rfl, rfl, by decide +kernel, rfl, by decide +kernel, by decide +kernel⟩
section
variable {P : Program} {w : World} {K : PySem.W.Frag} {mg : Str → Option Value} {base : Heap}
theorem ok__law_table_is (T : Top K mg) : Sg P w K mg base "_law_table_is" 7 4 F__law_table_is [] := by
  obtain ⟨fd, FD⟩ := T.d__law_table_is
  refine ⟨_, fd, ["_law_t", "_law_p", "_law_width", "_law_due"], [], [], ?_, T.g__law_table_is, FD.kp, FD.bindsN (fun _ _ _ _ _ _ us hl => match us, hl with | [_, _, _, _], _ => rfl), .nil, fun _ => .nil⟩
  refine ok_def FD sc__law_table_is rfl ?_
  rintro X E W ds n q xx ⟨cdv, A, outer, s, H, rfl⟩ hr tk pso hl hF
  have hu := hr.units
  have hu1 := hu_of hr
  refine ⟨_, (pss_consD (ps_ifD (PWD.pt (pwd_or (ptd_not (pt_valD (PD.pb (pd_isiO T.tyf (T.ko_Table) (by rfl) T.f_isinstance (by rfl) T.g_Table (pb_var 0))))) (pwd_or1 (ptd_not (pt_valD (PD.pb (pd_call (ok__law_same3 T) (hr.mono (by decide)) tk (by rfl) (pad_cons (PF.pd (pf_lst (pad_cons (pd_fld ["Table"] T.fld_Table_prime (pb_var 0)) (pad_cons (pd_fld ["Table"] T.fld_Table_width (pb_var 0)) (pad_cons (pd_lenO (ok_Table___len__ T) (hr.mono (by decide)) tk (pad_cons (pd_var 0) pad_nil) (by rfl) T.f_len) pad_nil))))) (pad_cons (PF.pd (pf_lst (pad_cons (pd_var 1) (pad_cons (pd_var 2) (pad_cons (pd_callB call_lenD2 dcall_len (by rfl) T.f_len (by decide +kernel) (pab_cons (pb_var 3) pab_nil)) pad_nil))))) pad_nil))))))))) (pss_oneD (ps_retD pd_bl)) pss_nilD)
      (pss_consD (ps_setD 4 (PSl.pdG (psl_meth0 (ok_Table_rows T) (hr.mono (by decide)) tk (pd_var 0))) sc__law_table_is.nd)
      (pss_consD (ps_ifD (PWD.pt (pwd_or (ptd_not (pt_valD (PD.pb (pd_isiB T.tyf (T.kb_list) (by rfl) T.f_isinstance (by rfl) T.f_list (by decide +kernel) (pb_var 4))))) (pwd_or1 (pt_ne hu (PD.pb (pd_callB call_lenD2 dcall_len (by rfl) T.f_len (by decide +kernel) (pab_cons (pb_var 4) pab_nil))) (PD.pb (pd_callB call_lenD2 dcall_len (by rfl) T.f_len (by decide +kernel) (pab_cons (pb_var 3) pab_nil))))))) (pss_oneD (ps_retD pd_bl)) pss_nilD)
      (pss_oneD (ps_retD (pd_callB (cr_all rfl) dcall_all (by rfl) T.f_all (by decide +kernel) (pab_cons (PD.pb (PF.pd (pf_lc [("_law_row_here", 5), ("_law_held_here", 6)] rfl sc__law_table_is.nd (pid_zipK (by rfl) T.f_zip (pad_cons (pd_var 4) (pad_cons (pd_var 3) pad_nil))) (blkOk_by (own := [("_law_row_here", 5), ("_law_held_here", 6)]) (N := ["_law_t", "_law_p", "_law_width", "_law_due", "_law_rows", "_law_row_here", "_law_held_here"]) (sc := defScope (top 67)) (by decide +kernel)) (fun _ _ _ _ _ => (pgd_tup (m := 2) rfl (pgsd_cons (pgd_name 5 sc__law_table_is.nd) (pgsd_cons (pgd_name 6 sc__law_table_is.nd) pgsd_nil)))) (fun _ _ _ _ _ => ptsD_nil) (fun _ _ _ _ _ => (pd_call (ok__law_row_is T) (hr.mono (by decide)) DL.takes0 (by rfl) (pad_cons (pd_var 5) (pad_cons (pd_var 1) (pad_cons (pd_var 6) pad_nil)))))))) pab_nil))))))), ?_⟩
  clear hr tk pso hl hu hu1
  obtain ⟨p, w, R, rfl, hp, hl, hw, hR, hq⟩ := hF
  have hp0 := isPr_pos hp
  walk_at "d"
  refine ⟨_, rfl, p, w, R, rfl, ?_⟩
  simp only []
  refine ⟨by omega, by decide, by decide, _, rfl, ⟨by show 3 < _; decide, fun d hd => ?_⟩, ?_⟩
  · simp only [List.mem_cons, List.not_mem_nil, or_false] at hd
    rcases hd with rfl | rfl | rfl <;> exact trivial
  walk_at "d"
  refine ⟨rfl, p, w, R, rfl, by omega, fun a bs hbs hnd => ?_⟩
  dsimp only
  have hz := fz_list (a := a) (bs := bs) (cs := R.map rowL) (by rw [hbs, List.length_map]) (fun c hc kvs => by
    obtain ⟨r, _, rfl⟩ := List.mem_map.mp hc
    exact fun z => nomatch z)
  refine ⟨_, _, hz.1, hz.2, ?_⟩
  walk_at "d"
  rw [zip_maps]
  refine lcD_all _ (fun _ => D.bl true) _ _ (fun r hr K h => ?_) (by omega) ?_
  · have hr' := hR r hr
    walk_at "d"
    exact ⟨p, r, rfl, hp, by omega, hr'.2, h⟩
  rw [all_yesB]
  simp only []
  rw [all_yesA]
  exact hq
end

end My

namespace My
open PySem PySem.Spec L2 DL
theorem sc_Table___iter__ : FnScope ["self"] ["self"] (defScope (inClass (top 51) 2)) := ⟨rfl, rfl, rfl, by decide +kernel, rfl, by decide +kernel, by decide +kernel⟩
section
variable {P : Program} {w : World} {K : PySem.W.Frag} {mg : Str → Option Value} {base : Heap}
theorem okIt_Table (T : Top K mg) : MgIt P w K mg base "Table" "kept" 1 := by
  obtain ⟨fd, FD⟩ := T.d_Table___iter__
  obtain ⟨z1, z2⟩ := T.fld_Table_kept "Table" (by simp)
  exact ⟨_, fd, "self", fnIt_of FD sc_Table___iter__ z1 z2 rfl (fun _ _ => rfl) T.f_iter rfl (by decide) (by decide), T.m_Table___iter__, FD.bindsN (fun _ _ _ _ _ _ us hl => match us, hl with | [_], _ => rfl)⟩
end

end My

namespace My
open PySem PySem.Spec L2 DL
theorem sc__law_told_rows_right : FnScope ["_law_t", "_law_p", "_law_width", "_law_due", "_law_told", "_law_row_here", "_law_walked", "_law_held_here"] ["_law_t", "_law_p", "_law_width", "_law_due"] (defScope (top 69)) := ⟨rfl, rfl, rfl, by decide +kernel, rfl, by decide +kernel, by decide +kernel⟩
section
variable {P : Program} {w : World} {K : PySem.W.Frag} {mg : Str → Option Value} {base : Heap}
theorem ok__law_told_rows_right (T : Top K mg) : Sg P w K mg base "_law_told_rows_right" 8 4 F__law_told_rows_right [] := by
  obtain ⟨fd, FD⟩ := T.d__law_told_rows_right
  refine ⟨_, fd, ["_law_t", "_law_p", "_law_width", "_law_due"], [], [], ?_, T.g__law_told_rows_right, FD.kp, FD.bindsN (fun _ _ _ _ _ _ us hl => match us, hl with | [_, _, _, _], _ => rfl), .nil, fun _ => .nil⟩
  refine ok_def FD sc__law_told_rows_right rfl ?_
  rintro X E W ds n q xx ⟨cdv, A, outer, s, H, rfl⟩ hr tk pso hl hF
  have hu := hr.units
  have hu1 := hu_of hr
  refine ⟨_, (pss_consD (ps_slD 4 (psl_meth0 (ok_Table_rows T) (hr.mono (by decide)) tk (pd_var 0)) sc__law_told_rows_right.nd)
      (pss_consD (ps_appGF 4 (pd_var 4) (pf_lst pad_nil))
      (pss_frzR 4 (pss_consD (ps_forD pso rfl (pid_seq (pd_var 4)) (pgd_name 5 sc__law_told_rows_right.nd) (pss_oneD (ps_appG 4 (pd_var 5) pd_non)))
      (pss_consD (ps_setLcD 6 [("_law_row_here", 5)] rfl sc__law_told_rows_right.nd (pid_iterO (okIt_Table T) (hr.mono (by decide)) (pd_var 0)) (blkOk_by (own := [("_law_row_here", 5)]) (N := ["_law_t", "_law_p", "_law_width", "_law_due", "_law_told", "_law_row_here", "_law_walked", "_law_held_here"]) (sc := defScope (top 69)) (by decide +kernel)) (fun _ _ _ _ _ => (pgd_name 5 sc__law_told_rows_right.nd)) (fun _ _ _ _ _ => ptsD_nil) (fun _ _ _ _ _ => (pd_var 5)))
      (pss_consD (ps_ifD (PWD.pt (pwd_or (pt_ne hu (PD.pb (pd_callB call_lenD2 dcall_len (by rfl) T.f_len (by decide +kernel) (pab_cons (pb_var 6) pab_nil))) (PD.pb (pd_callB call_lenD2 dcall_len (by rfl) T.f_len (by decide +kernel) (pab_cons (pb_var 3) pab_nil)))) (pwd_or1 (ptd_not (pt_valD (PD.pb (pd_callB (cr_all rfl) dcall_all (by rfl) T.f_all (by decide +kernel) (pab_cons (PD.pb (PF.pd (pf_lc [("_law_row_here", 5)] rfl sc__law_told_rows_right.nd (pid_seq (pd_var 6)) (blkOk_by (own := [("_law_row_here", 5)]) (N := ["_law_t", "_law_p", "_law_width", "_law_due", "_law_told", "_law_row_here", "_law_walked", "_law_held_here"]) (sc := defScope (top 69)) (by decide +kernel)) (fun _ _ _ _ _ => (pgd_name 5 sc__law_told_rows_right.nd)) (fun _ _ _ _ _ => ptsD_nil) (fun _ _ _ _ _ => (pd_isiB T.tyf (T.kb_tuple) (by rfl) T.f_isinstance (by rfl) T.f_tuple (by decide +kernel) (pb_var 5)))))) pab_nil)))))))) (pss_oneD (ps_retD pd_bl)) pss_nilD)
      (pss_consD (ps_ifD (ptd_not (pt_valD (PD.pb (pd_callB (cr_all rfl) dcall_all (by rfl) T.f_all (by decide +kernel) (pab_cons (PD.pb (PF.pd (pf_lc [("_law_row_here", 5), ("_law_held_here", 7)] rfl sc__law_told_rows_right.nd (pid_zipK (by rfl) T.f_zip (pad_cons (pd_var 6) (pad_cons (pd_var 3) pad_nil))) (blkOk_by (own := [("_law_row_here", 5), ("_law_held_here", 7)]) (N := ["_law_t", "_law_p", "_law_width", "_law_due", "_law_told", "_law_row_here", "_law_walked", "_law_held_here"]) (sc := defScope (top 69)) (by decide +kernel)) (fun _ _ _ _ _ => (pgd_tup (m := 2) rfl (pgsd_cons (pgd_name 5 sc__law_told_rows_right.nd) (pgsd_cons (pgd_name 7 sc__law_told_rows_right.nd) pgsd_nil)))) (fun _ _ _ _ _ => ptsD_nil) (fun _ _ _ _ _ => (pd_call (ok__law_row_is T) (hr.mono (by decide)) DL.takes0 (by rfl) (pad_cons (PF.pd (pf_list (by rfl) T.f_list (pab_cons (pb_var 5) pab_nil))) (pad_cons (pd_var 1) (pad_cons (pd_var 7) pad_nil)))))))) pab_nil))))) (pss_oneD (ps_retD pd_bl)) pss_nilD)
      (pss_oneD (ps_retD (pd_call (ok__law_table_is T) (hr.mono (by decide)) tk (by rfl) (pad_cons (pd_var 0) (pad_cons (pd_var 1) (pad_cons (pd_var 2) (pad_cons (pd_var 3) pad_nil)))))))))))))), ?_⟩
  clear hr tk pso hl hu hu1
  obtain ⟨p, w, R, rfl, hp, hl, hw, hR, hq⟩ := hF
  have hp0 := isPr_pos hp
  refine dSeq_at fun R1 hR1 => ?_
  walk_at "d"
  refine ⟨rfl, p, w, R, rfl, by omega, fun a bs hbs hnd => ?_⟩
  subst hR1
  refine dSeq_at fun R1 hR1 => ?_
  walk_at "d"
  have e0 : ∀ zs : List (Addr × D), lkG ((a, D.lst (bs.map D.hnd)) :: zs) a = some (D.lst (bs.map D.hnd)) := fun zs => by
    show (if a = a then some (D.lst (bs.map D.hnd)) else lkG zs a) = _
    rw [if_pos rfl]
  rw [e0]
  dsimp only
  refine ⟨by decide, by rw [List.length_map]; omega, fun b' hb' => ?_⟩
  have nab : a ≠ b' := hb' (a, _) (List.mem_cons_self ..)
  obtain ⟨cs, hcs⟩ : ∃ cs, cs = bs ++ [b'] := ⟨_, rfl⟩
  have lcs : cs.length ≤ 101 := by rw [hcs, List.length_append, List.length_singleton]; omega
  have ecs : bs.map D.hnd ++ [D.hnd b'] = cs.map D.hnd := by rw [hcs, List.map_append]; rfl
  have nacs : a ∉ cs := fun z => by
    rw [hcs] at z
    rcases List.mem_append.mp z with z | z
    · exact (List.nodup_cons.mp hnd).1 z
    · exact nab (List.mem_singleton.mp z)
  obtain ⟨gz, hgz⟩ : ∃ gz, gz = bs.zip (R.map rowL) ++ [(b', D.lst [])] := ⟨_, rfl⟩
  have s0 : ShG gz cs 100 := .of (fun c hc => by
    rw [hgz, List.map_append, List.map_fst_zip (by rw [List.length_map]; omega)]
    rw [hcs] at hc
    exact hc) (fun g hg => by
    rw [hgz] at hg
    rcases List.mem_append.mp hg with hg | hg
    · obtain ⟨_, h2⟩ := List.of_mem_zip (a := g.1) (b := g.2) hg
      obtain ⟨r, hr, er⟩ := List.mem_map.mp h2
      exact ⟨r.map fo, er.symm, by rw [List.length_map, (hR r hr).1]; exact hw⟩
    · rw [List.mem_singleton.mp hg]
      exact ⟨[], rfl, by decide⟩)
  rw [ecs, ← hgz, show upG ((a, D.lst (bs.map D.hnd)) :: gz) a (D.lst (cs.map D.hnd)) = (a, D.lst (cs.map D.hnd)) :: upG gz a (D.lst (cs.map D.hnd)) by
    show (if a = a then (a, D.lst (cs.map D.hnd)) else (a, D.lst (bs.map D.hnd))) :: _ = _
    rw [if_pos rfl]; rfl]
  have s1 := s0.off (d := D.lst (cs.map D.hnd)) nacs
  obtain ⟨g1, hg1⟩ : ∃ g1, g1 = upG gz a (D.lst (cs.map D.hnd)) := ⟨_, rfl⟩
  rw [← hg1] at s1 ⊢
  subst hR1
  simp only [dFrzR]
  refine ⟨rfl, (fun kvs z => nomatch z), ?_⟩
  refine dSeq_at fun R1 hR1 => ?_
  walk_at "d"
  refine forD_pre (f := D.hnd) cs (fun pre ρ n' => ∃ gs y5 y6 y7, n' = n ∧ ρ = [some (Sl.val (D.obj (Str.ofString "Table") (tbf p w R))), some (Sl.val (D.int p)), some (Sl.val (D.int ↑w)), some (Sl.val (D.lst (List.map rowK R))), some (.gst (.lst (cs.map D.hnd)) gs), y5, y6, y7] ∧ ShG gs cs (100 + pre.length)) (fun pre c post e ρ n' K hI hK => ?_) (fun ρ n' hI => ?_) ⟨_, _, _, _, rfl, rfl, s1⟩
  · obtain ⟨gs, y5, y6, y7, rfl, rfl, hS⟩ := hI
    walk_at "d"
    obtain ⟨us, eu, lu⟩ := hS c (by rw [e]; simp)
    rw [eu]
    dsimp only
    have lp : pre.length ≤ 101 := by have := congrArg List.length e; rw [List.length_append] at this; omega
    refine ⟨by omega, hK _ _ ⟨_, _, _, _, rfl, rfl, ?_⟩⟩
    rw [List.length_append, List.length_singleton]
    exact hS.up (by rw [List.length_append, List.length_singleton]; omega)
  obtain ⟨gs, y5, y6, y7, rfl, rfl, hS⟩ := hI
  show R1 _ _
  subst hR1
  refine dSeq_at fun R1 hR1 => ?_
  walk_at "d"
  obtain ⟨Y, hY⟩ : ∃ Y, Y = some (Sl.gst (D.lst (List.map D.hnd cs)) gs) := ⟨_, rfl⟩
  rw [← hY]
  refine lcD_all rowT rowT R _ (fun r hr K h => ?_) (by omega) ?_
  · walk_at "d"
    exact h
  subst hR1
  refine dSeq_at fun R1 hR1 => ?_
  walk_at "d"
  refine lcD_all rowT (fun _ => D.bl true) R _ (fun r hr K h => ?_) (by omega) ?_
  · unfold rowT
    walk_at "d"
    exact h
  rw [all_yesB]
  simp only []
  rw [if_neg (by rw [all_yesA]; decide)]
  subst hR1
  refine dSeq_at fun R1 hR1 => ?_
  walk_at "d"
  rw [zip_maps]
  refine lcD_all (fun r => D.tup [rowT r, rowK r]) (fun _ => D.bl true) _ _ (fun r hr K h => ?_) (by omega) ?_
  · have hr' := hR r hr
    unfold rowT
    walk_at "d"
    exact ⟨p, r, rfl, hp, by omega, hr'.2, h⟩
  rw [all_yesB]
  simp only []
  rw [if_neg (by rw [all_yesA]; decide)]
  subst hR1
  walk_at "d"
  exact ⟨p, w, R, rfl, hp, by omega, by omega, hR, hq⟩
end

end My

namespace My
open PySem PySem.Spec L2 DL
theorem sc__law_spring : FnScope ["_law_script"] ["_law_script"] (defScope (top 53)) := ⟨rfl, rfl, rfl, by decide +kernel, rfl, by decide +kernel, by decide +kernel⟩
theorem sc_law : FnScope ["_law_script", "_law_spring_here", "_law_turn", "_law_p", "_law_width", "_law_one", "_law_k", "_law_two", "_law_passed", "_law_row_here", "_law_inner", "_law_t", "_law_u", "_law_v", "_law_empty", "_law_strange"] ["_law_script"] (defScope (top 71)) := ⟨rfl, rfl, rfl, by decide +kernel, rfl, by decide +kernel, by decide +kernel⟩
section
variable {P : Program} {w : World} {K : PySem.W.Frag} {mg : Str → Option Value} {base : Heap}


def spSpring (K : PySem.W.Frag) : Sp := fun vs H Q _ => ∃ (a : Addr) (ns : List Int), vs = [.ref a] ∧ SqL K H a (ns.map V.int) ∧ ns.length ≤ 63 ∧ ∀ c s0, H c = none → H s0 = none → s0 ≠ c → Q (.ref s0) (upd (upd H c (.lst (ns.map V.int))) s0 (.lst [.ref c, .int 0, .int 0, .int 7]))
theorem ok__law_spring (T : Top K mg) : ∃ fd, FnOk P w K mg base (L2.CX P w) 1 (ca K "_law_spring") fd ["_law_script"] (spSpring K) ∧ PySem.W.keepIn K (.ref (ca K "_law_spring")) = true ∧ Binds K fd ["_law_script"] [] := by
  obtain ⟨fd, FD⟩ := T.d__law_spring
  refine ⟨fd, ?_, FD.kp, FD.bindsN (fun _ _ _ _ _ _ us hl => match us, hl with | [_], _ => rfl)⟩
  refine FD.ok sc__law_spring (fun vs H Q E h => ?_) (fun cdv A outer sh H vs Q E hr h => ?_)
  · obtain ⟨a, ns, rfl, _⟩ := h
    rfl
  · obtain ⟨a, ns, rfl, hS, hl, hQ⟩ := h
    refine ⟨_, pss_one (ps_ret (pe_lst (pa_cons (pe_callTy call_list_of (by rfl) T.f_list (by decide +kernel) (pa_cons (pv 0) pa_nil)) (pa_cons pe_int (pa_cons pe_int (pa_cons pe_int pa_nil)))))), ?_⟩
    refine ⟨_, rfl, a, _, rfl, .inl hS, fun c nc => ?_⟩
    refine ⟨by show 4 ≤ sizeLine; decide, fun s0 ns0 => ?_⟩
    have ne : s0 ≠ c := fun z => by rw [z, upd_same] at ns0; cases ns0
    rw [upd_ne ne] at ns0
    exact hQ c s0 nc ns0 ne
def spLaw (K : PySem.W.Frag) : Sp := fun vs H Q _ => ∃ (a : Addr) (ns : List Int), vs = [.ref a] ∧ SqL K H a (ns.map V.int) ∧ ns.length ≤ 63 ∧ (∀ x ∈ tfn, H (He.cT K (x, none)).2 = some (.tbl #[])) ∧ ∀ H', Q (.bl true) H'
theorem ok_law (T : Top K mg) {fd : FuncData} (FD : FunD K "law" "law" (defArgs (top 71)) (defBody (top 71)) (defScope (top 71)) [] [] (ca K "law") fd) (TBS : TBs K mg base) : FnOk P w K mg base (L2.CX P w) 14 (ca K "law") fd ["_law_script"] (spLaw K) := by
  refine okC (p := ("law", none)) FD sc_law (fun vs H Q E h => ?_) (fun cdv A outer sh H vs Q E hcdv hr h => ?_)
  · obtain ⟨a, ns, rfl, _⟩ := h
    rfl
  · obtain ⟨a, ns, rfl, hS, hl, hTb, hQ⟩ := h

    obtain ⟨fdS, okS, kpS, hbS⟩ := ok__law_spring (P := P) (w := w) (base := base) T
    have hu := hr.units
    have hu1 := hu_of hr
    have tk : Takes (cxOf (L2.CX P w) P w K mg base ["_law_script", "_law_spring_here", "_law_turn", "_law_p", "_law_width", "_law_one", "_law_k", "_law_two", "_law_passed", "_law_row_here", "_law_inner", "_law_t", "_law_u", "_law_v", "_law_empty", "_law_strange"] "law" (defScope (top 71)) (ca K "law") cdv A outer sh H E) (fun c d _ H => E c d H) := takes_of rfl rfl rfl rfl
    have pso : PassesOwn (model P w) (cxOf (L2.CX P w) P w K mg base ["_law_script", "_law_spring_here", "_law_turn", "_law_p", "_law_width", "_law_one", "_law_k", "_law_two", "_law_passed", "_law_row_here", "_law_inner", "_law_t", "_law_u", "_law_v", "_law_empty", "_law_strange"] "law" (defScope (top 71)) (ca K "law") cdv A outer sh H E).A (cxOf (L2.CX P w) P w K mg base ["_law_script", "_law_spring_here", "_law_turn", "_law_p", "_law_width", "_law_one", "_law_k", "_law_two", "_law_passed", "_law_row_here", "_law_inner", "_law_t", "_law_u", "_law_v", "_law_empty", "_law_strange"] "law" (defScope (top 71)) (ca K "law") cdv A outer sh H E).env (cxOf (L2.CX P w) P w K mg base ["_law_script", "_law_spring_here", "_law_turn", "_law_p", "_law_width", "_law_one", "_law_k", "_law_two", "_law_passed", "_law_row_here", "_law_inner", "_law_t", "_law_u", "_law_v", "_law_empty", "_law_strange"] "law" (defScope (top 71)) (ca K "law") cdv A outer sh H E).xe := passes_of rfl
    obtain ⟨δ, ⟨t2, p2, e2⟩, h2⟩ : ∃ δ, PSsD (cxOf (L2.CX P w) P w K mg base ["_law_script", "_law_spring_here", "_law_turn", "_law_p", "_law_width", "_law_one", "_law_k", "_law_two", "_law_passed", "_law_row_here", "_law_inner", "_law_t", "_law_u", "_law_v", "_law_empty", "_law_strange"] "law" (defScope (top 71)) (ca K "law") cdv A outer sh H E) (fun c d _ H => E c d H) ((defBody (top 71)).drop 1) δ ∧ ∀ (W : Wd) (s0 : Addr) (c : SpC), W = sprW s0 c → (∀ x ∈ tfn, LW K x W) → δ (endsD W (fun d _ => d = .bl true) (fun _ _ => False)) [none, some (.val (.hnd s0)), none, none, none, none, none, none, none, none, none, none, none, none, none, none] 0 := by
      refine ⟨_, (pss_consD (ps_forD pso rfl (pid_r1 (by rfl) T.f_range (pab_cons (PD.pb pd_int) pab_nil)) (pgd_name 2 sc_law.nd) (pss_consD (ps_par2T 3 4 rfl sc_law.nd (PD.sl (pd_call (ok__law_prime T) (hr.mono (by decide)) tk (by rfl) (pad_cons (pd_var 1) pad_nil))) (PD.sl (pd_add (PD.pb pd_int) (PD.pb (pd_call (ok__law_draw T) (hr.mono (by decide)) tk (by rfl) (pad_cons (pd_var 1) (pad_cons pd_int pad_nil)))))))
      (pss_consD (ps_setLcD 5 [("_law_k", 6)] rfl sc_law.nd (pid_r1 (by rfl) T.f_range (pab_cons (PD.pb (pd_call (ok__law_draw T) (hr.mono (by decide)) tk (by rfl) (pad_cons (pd_var 1) (pad_cons pd_int pad_nil)))) pab_nil)) (blkOk_by (own := [("_law_k", 6)]) (N := ["_law_script", "_law_spring_here", "_law_turn", "_law_p", "_law_width", "_law_one", "_law_k", "_law_two", "_law_passed", "_law_row_here", "_law_inner", "_law_t", "_law_u", "_law_v", "_law_empty", "_law_strange"]) (sc := defScope (top 71)) (by decide +kernel)) (fun _ _ _ _ _ => (pgd_name 6 sc_law.nd)) (fun _ _ _ _ _ => ptsD_nil) (fun _ _ _ _ _ => (pd_call (ok__law_row T) (hr.mono (by decide)) DL.takes0 (by rfl) (pad_cons (pd_var 1) (pad_cons (pd_var 3) (pad_cons (pd_var 4) (pad_cons pd_int (pad_cons pd_int pad_nil))))))))
      (pss_consD (ps_setLcD 7 [("_law_k", 6)] rfl sc_law.nd (pid_r1 (by rfl) T.f_range (pab_cons (PD.pb (pd_call (ok__law_draw T) (hr.mono (by decide)) tk (by rfl) (pad_cons (pd_var 1) (pad_cons pd_int pad_nil)))) pab_nil)) (blkOk_by (own := [("_law_k", 6)]) (N := ["_law_script", "_law_spring_here", "_law_turn", "_law_p", "_law_width", "_law_one", "_law_k", "_law_two", "_law_passed", "_law_row_here", "_law_inner", "_law_t", "_law_u", "_law_v", "_law_empty", "_law_strange"]) (sc := defScope (top 71)) (by decide +kernel)) (fun _ _ _ _ _ => (pgd_name 6 sc_law.nd)) (fun _ _ _ _ _ => ptsD_nil) (fun _ _ _ _ _ => (pd_call (ok__law_row T) (hr.mono (by decide)) DL.takes0 (by rfl) (pad_cons (pd_var 1) (pad_cons (pd_var 3) (pad_cons (pd_var 4) (pad_cons pd_int (pad_cons pd_int pad_nil))))))))
      (pss_consD (ps_gstLcM 8 [("_law_row_here", 9)] (by decide) rfl sc_law.nd (pid_seq (pd_var 5)) (blkOk_by (own := [("_law_row_here", 9)]) (N := ["_law_script", "_law_spring_here", "_law_turn", "_law_p", "_law_width", "_law_one", "_law_k", "_law_two", "_law_passed", "_law_row_here", "_law_inner", "_law_t", "_law_u", "_law_v", "_law_empty", "_law_strange"]) (sc := defScope (top 71)) (by decide +kernel)) (fun _ _ _ _ _ => (pgd_name 9 sc_law.nd)) (fun _ _ _ _ _ => ptsD_nil) (fun _ _ _ _ _ => (pm_pick (ok__law_pick T) (hr.mono (by decide)) DL.takes0 (by rfl) (pd_var 1) (pf_call (ok__law_filters T) (hr.mono (by decide)) DL.takes0 (by rfl) (pad_cons (pd_var 3) (pad_cons (pd_var 9) pad_nil))) (pd_callTy call_tuple_of dcall_tuple (by rfl) T.f_tuple (by decide +kernel) (pab_cons (PD.pb (PF.pd (pf_call (ok__law_filters T) (hr.mono (by decide)) DL.takes0 (by rfl) (pad_cons (pd_var 3) (pad_cons (pd_var 9) pad_nil))))) pab_nil)))))
      (pss_consD (ps_setLcN 10 8 [("_law_row_here", 9)] rfl sc_law.nd  (blkOk_by (own := [("_law_row_here", 9)]) (N := ["_law_script", "_law_spring_here", "_law_turn", "_law_p", "_law_width", "_law_one", "_law_k", "_law_two", "_law_passed", "_law_row_here", "_law_inner", "_law_t", "_law_u", "_law_v", "_law_empty", "_law_strange"]) (sc := defScope (top 71)) (by decide +kernel)) (fun _ _ _ _ _ => (pgd_name 9 sc_law.nd)) (fun _ _ _ _ _ => (ptsD_one (pt_valD (PD.pb (pd_isiB T.tyf (T.kb_list) (by rfl) T.f_isinstance (by rfl) T.f_list (by decide +kernel) (pb_res 8 (pd_var 9))))))) (fun _ _ _ _ _ => (pd_var 9)))
      (pss_consD (ps_parD 11 12 rfl sc_law.nd (pad_cons (pd_lendG 8 (pd_make (ok_Table___init__ T) (hr.mono (by decide)) tk (by rfl) (pad_cons (pd_var 3) (pad_cons (pd_var 4) (pad_cons (pd_var 8) pad_nil))))) (pad_cons (pd_call (ok__law_table T) (hr.mono (by decide)) tk (by rfl) (pad_cons (pd_var 3) (pad_cons (pd_var 4) (pad_cons (pd_var 7) pad_nil)))) pad_nil)))
      (pss_consD (ps_appG 8 (pd_var 8) pd_non)
      (pss_consD (ps_forD pso rfl (pid_seq (pd_var 10)) (pgd_name 9 sc_law.nd) (pss_oneD (ps_appG 8 (pd_var 9) pd_int)))
      (pss_consD (ps_ifD (PWD.pt (pwd_or (ptd_not (pt_valD (PD.pb (pd_call (ok__law_table_is T) (hr.mono (by decide)) tk (by rfl) (pad_cons (pd_var 11) (pad_cons (pd_var 3) (pad_cons (pd_var 4) (pad_cons (pd_var 5) pad_nil)))))))) (pwd_or1 (ptd_not (pt_valD (PD.pb (pd_call (ok__law_told_rows_right T) (hr.mono (by decide)) tk (by rfl) (pad_cons (pd_var 11) (pad_cons (pd_var 3) (pad_cons (pd_var 4) (pad_cons (pd_var 5) pad_nil))))))))))) (pss_oneD (ps_retD pd_bl)) pss_nilD)
      (pss_consD (ps_ifD (PWD.pt (pwd_or (ptd_not (pt_valD (PD.pb (pd_call (ok__law_table_is T) (hr.mono (by decide)) tk (by rfl) (pad_cons (pd_binO T.op_Table_Add opI_add (ok_Table___add__ T) (hr.mono (by decide)) tk (pd_var 11) (pd_var 12)) (pad_cons (pd_var 3) (pad_cons (pd_var 4) (pad_cons (pd_add (pb_var 5) (pb_var 7)) pad_nil)))))))) (pwd_or1 (ptd_not (pt_valD (PD.pb (pd_call (ok__law_table_is T) (hr.mono (by decide)) tk (by rfl) (pad_cons (pd_binO T.op_Table_Add opI_add (ok_Table___add__ T) (hr.mono (by decide)) tk (pd_var 12) (pd_var 11)) (pad_cons (pd_var 3) (pad_cons (pd_var 4) (pad_cons (pd_add (pb_var 7) (pb_var 5)) pad_nil))))))))))) (pss_oneD (ps_retD pd_bl)) pss_nilD)
      (pss_consD (ps_setD 13 (pd_var 11) sc_law.nd)
      (pss_consD (ps_augOD 13 T.op_Table_Add opI_add (ok_Table___add__ T) (hr.mono (by decide)) tk (pd_var 12) sc_law.nd)
      (pss_consD (ps_ifD (PWD.pt (pwd_or (ptd_not (pt_valD (PD.pb (pd_call (ok__law_table_is T) (hr.mono (by decide)) tk (by rfl) (pad_cons (pd_var 13) (pad_cons (pd_var 3) (pad_cons (pd_var 4) (pad_cons (pd_add (pb_var 5) (pb_var 7)) pad_nil)))))))) (pwd_or1 (ptd_not (pt_valD (PD.pb (pd_call (ok__law_table_is T) (hr.mono (by decide)) tk (by rfl) (pad_cons (pd_var 11) (pad_cons (pd_var 3) (pad_cons (pd_var 4) (pad_cons (pd_var 5) pad_nil))))))))))) (pss_oneD (ps_retD pd_bl)) pss_nilD)
      (pss_consD (ps_ifD (ptd_not (pt_valD (PD.pb (pd_call (ok__law_compared_right T) (hr.mono (by decide)) tk (by rfl) (pad_cons (pd_var 11) (pad_cons (pd_var 12) (pad_cons (pd_var 3) (pad_cons (pd_var 4) (pad_cons (pd_var 5) (pad_cons (pd_var 7) pad_nil)))))))))) (pss_oneD (ps_retD pd_bl)) pss_nilD)
      (pss_consD (ps_parD 14 15 rfl sc_law.nd (pad_cons (pd_make (ok_Table___init___d1 T) (hr.mono (by decide)) tk (by rfl) (pad_cons (pd_var 3) (pad_cons (pd_var 4) pad_nil))) (pad_cons (pd_make (ok_Table___init__ T) (hr.mono (by decide)) tk (by rfl) (pad_cons (pd_call (ok__law_other T) (hr.mono (by decide)) tk (by rfl) (pad_cons (pd_var 1) (pad_cons (pd_var 3) pad_nil))) (pad_cons (pd_var 4) (pad_cons (pd_tup pad_nil) pad_nil)))) pad_nil)))
      (pss_oneD (ps_ifD (PWD.pt (pwd_or (pt_cmpV (pd_eqO T.tyf T.eq_Table (ok_Table___eq__ T) (hr.mono (by decide)) tk (pd_var 14) (pd_var 15))) (pwd_or (pt_cmpV (pd_eqO T.tyf T.eq_Table (ok_Table___eq__ T) (hr.mono (by decide)) tk (pd_var 14) (pd_make (ok_Table___init___d1 T) (hr.mono (by decide)) tk (by rfl) (pad_cons (pd_var 3) (pad_cons (pd_add (pb_var 4) (PD.pb pd_int)) pad_nil))))) (pwd_or1 (pt_cmpV (pd_neO T.tyf T.ne_Table (ok_Table___eq__ T) (hr.mono (by decide)) tk (pd_var 14) (pd_make (ok_Table___init__ T) (hr.mono (by decide)) tk (by rfl) (pad_cons (pd_var 3) (pad_cons (pd_var 4) (pad_cons (PF.pd (pf_lst pad_nil)) pad_nil)))))))))) (pss_oneD (ps_retD pd_bl)) pss_nilD))))))))))))))))))
      (pss_oneD (ps_retD pd_bl))), ?_⟩
      intro W s0 c hW hL
      have hW' : ∃ c, W = sprW s0 c := ⟨c, hW⟩
      clear hr hu hu1 tk pso okS kpS hbS hS hQ hTb TBS
      walk_at "d"
      refine ⟨by decide, ?_⟩
      refine forD_ind (fun ρ n k => (∃ (y_turn y_p y_width y_one y_k y_two y_passed y_row_here y_inner y_t y_u y_v y_empty y_strange : Option Sl), ρ = [none, some (.val (.hnd s0)), y_turn, y_p, y_width, y_one, y_k, y_two, y_passed, y_row_here, y_inner, y_t, y_u, y_v, y_empty, y_strange]) ∧ n + 1000 * k ≤ 9000) (fun ρ n k d R hI hR => ?_) (fun ρ n hI => ?_) _ _ _ ⟨⟨_, _, _, _, _, _, _, _, _, _, _, _, _, _, rfl⟩, by rw [rng_len]; decide⟩
      · obtain ⟨⟨y_turn, y_p, y_width, y_one, y_k, y_two, y_passed, y_row_here, y_inner, y_t, y_u, y_v, y_empty, y_strange, rfl⟩, hn⟩ := hI
        simp only [gN]
        refine dSeq_at fun R1 hR1 => ?_
        walk_at "d"
        refine ⟨s0, rfl, hW', by omega, fun p hp => ?_⟩
        have hp0 := isPr_pos hp
        refine ⟨hW', by decide, by decide, by omega, fun w0 hw0 => ?_⟩
        try walk_at "d"
        obtain ⟨w, hw⟩ : ∃ w : Nat, (1 : Int) + (w0 : Int) = w := ⟨w0 + 1, by push_cast; omega⟩
        have hw4 : w ≤ 4 := by omega
        have hw1 : 0 < w := by omega
        rw [hw]
        subst hR1
        refine dSeq_at fun R1 hR1 => ?_
        walk_at "d"
        refine ⟨hW', by decide, by decide, by omega, fun k1 hk1 => ?_⟩
        try walk_at "d"
        rw [Int.toNat_natCast, rngD_map]
        refine ⟨by omega, ?_⟩
        refine lcD_pre _ _ (fun pre acc n' => ∃ T : List (List (LP p)), acc = T.map rowK ∧ T.length = pre.length ∧ Rws w 12 T ∧ n' ≤ n + 5 + 30 * pre.length) (fun pre i post e acc n' K hI hK => ?_) (fun acc n' hI => ?_) ⟨[], rfl, rfl, (fun x hx => nomatch hx), by simp⟩
        · obtain ⟨T, rfl, hTl, hTR, hn'⟩ := hI
          obtain ⟨rfl, hpl⟩ := range_split e
          walk_at "d"
          refine ⟨s0, p, w, 3, 12, rfl, hW', hp, by omega, by decide, by decide, by omega, fun r n1 h1 h2 h3 => ?_⟩
          have : w * (1 + 2 * 3) ≤ 4 * 7 := Nat.mul_le_mul hw4 (by decide)
          refine ⟨by omega, hK _ _ ⟨T ++ [r], by rw [List.map_append]; rfl, by rw [List.length_append, List.length_append, hTl]; rfl, fun y hy => ?_, by rw [List.length_append, List.length_singleton]; omega⟩⟩
          rcases List.mem_append.mp hy with hy | hy
          · exact hTR y hy
          · rw [List.mem_singleton.mp hy]; exact ⟨h1, h2⟩
        obtain ⟨T, rfl, hTl, hTR, hn1⟩ := hI
        rw [List.length_range] at hTl hn1
        try walk_at "d"
        subst hR1
        refine dSeq_at fun R1 hR1 => ?_
        walk_at "d"
        refine ⟨hW', by decide, by decide, by omega, fun k2 hk2 => ?_⟩
        try walk_at "d"
        rw [Int.toNat_natCast, rngD_map]
        refine ⟨by omega, ?_⟩
        refine lcD_pre _ _ (fun pre acc n' => ∃ U : List (List (LP p)), acc = U.map rowK ∧ U.length = pre.length ∧ Rws w 12 U ∧ n' ≤ n + 10 + 30 * k1 + 30 * pre.length) (fun pre i post e acc n' K hI hK => ?_) (fun acc n2 hI => ?_) ⟨[], rfl, rfl, (fun x hx => nomatch hx), by simp; omega⟩
        · obtain ⟨U, rfl, hUl, hUR, hn'⟩ := hI
          obtain ⟨rfl, hpl⟩ := range_split e
          walk_at "d"
          refine ⟨s0, p, w, 3, 12, rfl, hW', hp, by omega, by decide, by decide, by omega, fun r n1 h1 h2 h3 => ?_⟩
          have : w * (1 + 2 * 3) ≤ 4 * 7 := Nat.mul_le_mul hw4 (by decide)
          refine ⟨by omega, hK _ _ ⟨U ++ [r], by rw [List.map_append]; rfl, by rw [List.length_append, List.length_append, hUl]; rfl, fun y hy => ?_, by rw [List.length_append, List.length_singleton]; omega⟩⟩
          rcases List.mem_append.mp hy with hy | hy
          · exact hUR y hy
          · rw [List.mem_singleton.mp hy]; exact ⟨h1, h2⟩
        obtain ⟨U, rfl, hUl, hUR, hn2⟩ := hI
        rw [List.length_range] at hUl hn2
        try walk_at "d"
        have hT1 : Rws w 1000 T := fun r hr => ⟨(hTR r hr).1, fun x hx => ((hTR r hr).2 x hx).le (by decide)⟩
        have hU1 : Rws w 1000 U := fun r hr => ⟨(hUR r hr).1, fun x hx => ((hUR r hr).2 x hx).le (by decide)⟩
        have lT : T.length ≤ 4 := by omega
        have lU : U.length ≤ 2 := by omega
        have hnn : n2 ≤ n + 200 := by omega
        clear hn2 hn1 hk1 hk2 hTl hUl
        subst hR1
        refine dSeq_at fun R1 hR1 => ?_
        walk_at "d"
        refine lcD_pre rowK T (fun pre acc n' => ∃ Z : List (List D × Bool), acc = pkd Z ∧ Z.map (·.1) = pre.map (fun r => r.map fo) ∧ n' ≤ n2 + pre.length) (fun pre r post e acc n' K hI hK => ?_) (fun acc n' hI => ?_) ⟨[], rfl, rfl, by simp⟩
        · obtain ⟨Z, rfl, hZ, hn'⟩ := hI
          have hr : r ∈ T := by rw [e]; simp
          have lpre : pre.length < T.length := by rw [e]; simp
          have lZ : Z.length = pre.length := by have := congrArg List.length hZ; simpa using this
          walk_at "d"
          have hr1 := hT1 r hr
          refine ⟨p, r, rfl, hp, by omega, hr1.2, ?_⟩
          refine ⟨p, r, rfl, hp, by omega, hr1.2, ?_⟩
          unfold rowL
          dsimp only
          have lpk : (pkd Z).length = Z.length := List.length_map ..
          refine ⟨fun _ => rfl, fun b => ?_⟩
          refine ⟨hW', by show 0 < 2; decide, by show 2 < 1000000; decide, by omega, fun d1 hd1 => ?_⟩
          simp only [List.mem_cons, List.not_mem_nil, or_false] at hd1
          rcases hd1 with rfl | rfl
          · refine .inl ⟨rfl, by omega, hK _ _ ⟨Z ++ [(r.map fo, false)], by unfold pkd; rw [List.map_append]; rfl, by rw [List.map_append, List.map_append, hZ]; rfl, by rw [List.length_append, List.length_singleton]; omega⟩⟩
          · refine .inr ⟨rfl, by omega, hK _ _ ⟨Z ++ [(r.map fo, true)], by unfold pkd; rw [List.map_append]; rfl, by rw [List.map_append, List.map_append, hZ]; rfl, by rw [List.length_append, List.length_singleton]; omega⟩⟩
        obtain ⟨Z, rfl, hZ, hn3⟩ := hI
        intro a bs hbs hnd
        rw [pkd_fst]
        have lZ : Z.length = T.length := by have := congrArg List.length hZ; simpa using this
        have hbl : bs.length = Z.length := by rw [hbs]; exact List.length_map ..
        subst hR1
        refine dSeq_at fun R1 hR1 => ?_
        walk_at "d"
        have lpk : (pkd Z).length = Z.length := List.length_map ..
        have e0 : ∀ (r : D) (zs : List (Addr × D)), lkG ((a, r) :: zs) a = some r := fun r zs => by
          show (if a = a then some r else lkG zs a) = _
          rw [if_pos rfl]
        have hrow : ∀ z ∈ Z, z.1.length = w := fun z hz => by
          have h1 : z.1 ∈ Z.map (·.1) := List.mem_map.mpr ⟨z, hz, rfl⟩
          rw [hZ] at h1
          obtain ⟨r, hr, er⟩ := List.mem_map.mp h1
          rw [← er, List.length_map]
          exact (hT1 r hr).1
        obtain ⟨gs, hgs⟩ : ∃ gs, gs = (a, D.lst (mixL bs (pkd Z))) :: bs.zip (Z.map fun z => D.lst z.1) := ⟨_, rfl⟩
        have fst_gs : gs.map (·.1) = a :: bs := by
          rw [hgs, List.map_cons, List.map_fst_zip (by rw [List.length_map]; omega)]
        have sh0 : ShG gs bs 4 := .of (fun c hc => by rw [fst_gs]; exact List.mem_cons_of_mem _ hc) (fun g hg => by
          rw [hgs] at hg
          rcases List.mem_cons.mp hg with rfl | hg
          · exact ⟨_, rfl, by rw [mixL_len (by omega)]; omega⟩
          · obtain ⟨_, h2⟩ := List.of_mem_zip (a := g.1) (b := g.2) hg
            obtain ⟨z, hz, ez⟩ := List.mem_map.mp h2
            exact ⟨z.1, ez.symm, by rw [hrow z hz]; exact hw4⟩)
        have lend := ro_mix (a := a) hbl
        rw [← hgs] at lend ⊢
        refine ⟨a, gs, mixL bs (pkd Z), rfl, by rw [hgs]; exact e0 _ _, ?_⟩
        rw [mix_map hbl]
        refine lcD_of _ (fun x => if x.2.2 = true then none else some (D.hnd x.1)) _ [] _ (fun x hx K h => ?_) (by rw [List.length_zip, List.length_nil]; omega) ?_
        · obtain ⟨b, c, t⟩ := x
          have hb : b ∈ bs := (List.of_mem_zip hx).1
          cases t with
          | true =>
            walk_at "d"
            exact h
          | false =>
            obtain ⟨us, eu, _⟩ := sh0 b hb
            walk_at "d"
            rw [eu]
            exact ⟨(fun c e => nomatch e), h⟩
        obtain ⟨cs, ecs, lcs, hcs⟩ := pick_hnd (bs.zip Z)
        rw [List.nil_append, ecs]
        have csb : ∀ c ∈ cs, c ∈ bs := fun c hc => by
          have := hcs c hc
          rw [List.map_fst_zip (by omega)] at this
          exact this
        have lcs4 : cs.length ≤ 4 := by rw [List.length_zip] at lcs; omega
        subst hR1
        refine dSeq_at fun R1 hR1 => ?_
        walk_at "d"
        refine dLendG_at rfl lend.1 lend.2 ?_
        walk_at "d"
        have hzt := zip_eq hZ
        have ezt : Z.map (fun z => if z.2 = true then D.tup z.1 else D.rol z.1) = ((Z.zip T).map fun x => (if x.1.2 = true then D.tup x.1.1 else D.rol x.1.1, x.2)).map (·.1) := by
          rw [List.map_map]
          have : Z = (Z.zip T).map (·.1) := (List.map_fst_zip (by omega)).symm
          conv => lhs; rw [this]
          rw [List.map_map]
          rfl
        have ezt2 : ((Z.zip T).map fun x => ((if x.1.2 = true then D.tup x.1.1 else D.rol x.1.1 : D), x.2)).map (·.2) = T := by
          rw [List.map_map]
          exact List.map_snd_zip (by omega)
        refine ⟨p, w, _, _, rfl, hp, hw1, by omega, congrArg some ezt, by rw [List.length_map, List.length_zip]; omega, fun z hz => ?_, ?_⟩
        · obtain ⟨x, hx, rfl⟩ := List.mem_map.mp hz
          have hxT := (List.of_mem_zip (a := x.1) (b := x.2) hx).2
          refine ⟨?_, (hT1 _ hxT).1⟩
          dsimp only
          split
          · exact congrArg some (hzt x hx)
          · exact congrArg some (hzt x hx)
        rw [ezt2]
        refine ⟨tnr_tb w T, ?_⟩
        refine ⟨p, w, U, rfl, hp, hw1, by omega, by omega, hU1, ?_⟩
        subst hR1
        refine dSeq_at fun R1 hR1 => ?_
        walk_at "d"
        rw [show lkG gs a = some (D.lst (mixL bs (pkd Z))) by rw [hgs]; exact e0 _ _]
        dsimp only
        refine ⟨by rw [mixL_len (by omega)]; omega, ?_⟩
        have sh1 : ShG (upG gs a (D.lst (mixL bs (pkd Z) ++ [D.non]))) bs 4 := sh0.off (List.nodup_cons.mp hnd).1
        obtain ⟨g1, hg1⟩ : ∃ g1, g1 = upG gs a (D.lst (mixL bs (pkd Z) ++ [D.non])) := ⟨_, rfl⟩
        rw [← hg1] at sh1 ⊢
        subst hR1
        refine dSeq_at fun R1 hR1 => ?_
        walk_at "d"
        refine forD_pre (f := D.hnd) cs (fun pre ρ m => ∃ (gz : List (Addr × D)) (y9 : Option Sl), m = n' ∧ ρ = [none, some (Sl.val (D.hnd s0)), some (Sl.val d), some (Sl.val (D.int p)), some (Sl.val (D.int ↑w)),
          some (Sl.val (D.lst (List.map rowK T))), y_k, some (Sl.val (D.lst (List.map rowK U))), some (Sl.gst (D.hnd a) gz),
          y9, some (Sl.val (D.lst (List.map D.hnd cs))), some (Sl.val (D.obj (Str.ofString "Table") (tbf p w T))),
          some (Sl.val (D.obj (Str.ofString "Table") (tbf p w U))), y_v, y_empty, y_strange] ∧ ShG gz bs (4 + pre.length)) (fun pre c post e ρ m K hI hK => ?_) (fun ρ m hI => ?_) ⟨_, _, rfl, rfl, sh1⟩
        · obtain ⟨gz, y9, rfl, rfl, hS⟩ := hI
          walk_at "d"
          obtain ⟨us, eu, lu⟩ := hS c (csb c (by rw [e]; simp))
          rw [eu]
          dsimp only
          have lp : pre.length ≤ 4 := by have := congrArg List.length e; rw [List.length_append] at this; omega
          refine ⟨by omega, hK _ _ ⟨_, _, rfl, rfl, ?_⟩⟩
          rw [List.length_append, List.length_singleton]
          exact hS.up (by rw [List.length_append, List.length_singleton]; omega)
        obtain ⟨gz, y9, rfl, rfl, hS⟩ := hI
        obtain ⟨Y, hY⟩ : ∃ Y, Y = some (Sl.gst (D.hnd a) gz) := ⟨_, rfl⟩
        obtain ⟨Y2, hY2⟩ : ∃ Y2, Y2 = some (Sl.val (D.lst (List.map D.hnd cs))) := ⟨_, rfl⟩
        rw [← hY, ← hY2]
        clear hY hY2 hS sh1 hg1 hgs sh0 fst_gs
        show R1 _ _
        have isT : ∀ {n : Nat} {q : DQ} {xx : Xn → Nat → Prop} (A : List (List (LP p))), Rws w 1000 A → A.length ≤ 1000 → q (.bl true) n → F__law_table_is W [tb w A, .int p, .int (w : Int), .lst (A.map rowK)] n q xx := fun {n q xx} A h1 h2 h => ⟨p, w, A, rfl, hp, h2, by omega, h1, h⟩
        have addT : ∀ {n : Nat} {q : DQ} {xx : Xn → Nat → Prop} (A B : List (List (LP p))), A.length ≤ 1000 → B.length ≤ 1000 → Rws w 1000 A → Rws w 1000 B → q (tb w (A ++ B)) n → F_Table___add__ W [tb w A, tb w B] n q xx := fun {n q xx} A B l1 l2 h1 h2 h => .inl ⟨p, w, A, B, rfl, hp, hw1, by omega, l1, l2, fun r hr => (h1 r hr).1, fun r hr => (h2 r hr).1, h⟩
        have app : ∀ {A B : List (List (LP p))}, Rws w 1000 A → Rws w 1000 B → Rws w 1000 (A ++ B) := fun {A B} h1 h2 r hr => (List.mem_append.mp hr).elim (h1 r) (h2 r)
        subst hR1
        refine dSeq_at fun R1 hR1 => ?_
        walk_at "d"
        refine isT T hT1 (by omega) ?_
        walk_at "d"
        refine ⟨p, w, T, rfl, hp, by omega, by omega, hT1, ?_⟩
        walk_at "d"
        subst hR1
        refine dSeq_at fun R1 hR1 => ?_
        walk_at "d"
        refine ⟨⟨_, rfl⟩, (show rOk _ _ from rfl), addT T U (by omega) (by omega) hT1 hU1 ?_⟩
        rw [← List.map_append]
        refine ⟨by omega, isT (T ++ U) (app hT1 hU1) (by rw [List.length_append]; omega) ?_⟩
        walk_at "d"
        refine ⟨⟨_, rfl⟩, (show rOk _ _ from rfl), addT U T (by omega) (by omega) hU1 hT1 ?_⟩
        rw [← List.map_append]
        refine ⟨by omega, isT (U ++ T) (app hU1 hT1) (by rw [List.length_append]; omega) ?_⟩
        walk_at "d"
        subst hR1
        refine dSeq_at fun R1 hR1 => ?_
        walk_at "d"
        subst hR1
        refine dSeq_at fun R1 hR1 => ?_
        walk_at "d"
        refine ⟨⟨_, rfl⟩, (show rOk _ _ from rfl), addT T U (by omega) (by omega) hT1 hU1 ?_⟩
        subst hR1
        refine dSeq_at fun R1 hR1 => ?_
        walk_at "d"
        rw [← List.map_append]
        refine ⟨by omega, isT (T ++ U) (app hT1 hU1) (by rw [List.length_append]; omega) ?_⟩
        walk_at "d"
        refine isT T hT1 (by omega) ?_
        walk_at "d"
        subst hR1
        refine dSeq_at fun R1 hR1 => ?_
        walk_at "d"
        refine ⟨p, w, T, U, rfl, hp, by omega, by omega, hw1, by omega, hT1, hU1, ?_⟩
        walk_at "d"
        subst hR1
        refine dSeq_at fun R1 hR1 => ?_
        walk_at "d"
        have made : ∀ {n : Nat} {q : List (Str × D) → Nat → Prop} {xx : Xn → Nat → Prop} (p : Int) (w : Nat) (d : D), isPr p = true → 0 < w → w ≤ 10 → seqD d = some [] → q (tbf p w []) n → F_Table___init__ W [.int p, .int (w : Int), d] n q xx := fun {n q xx} p w d h1 h2 h3 h4 h => ⟨p, w, d, [], rfl, h1, h2, by omega, h4, by show 0 < 1000000; decide, (fun z hz => nomatch hz), h⟩
        refine made p w _ hp hw1 (by omega) rfl ?_
        refine ⟨s0, p, rfl, hW', hp, by omega, fun p2 hp2 np => ?_⟩
        refine ⟨by decide, made p2 w _ hp2 hw1 (by omega) rfl ?_⟩
        subst hR1
        walk_at "d"
        have rz : ∀ (w : Nat), Rws w 400000 ([] : List (List (LP p))) := fun w r hr => nomatch hr
        refine ⟨⟨_, rfl⟩, .inr (.inl ⟨p, p2, w, w, [], [], rfl, np.symm, ?_⟩)⟩
        walk_at "d"
        rw [show (w : Int) + 1 = ((w + 1 : Nat) : Int) by push_cast; rfl]
        refine made p (w + 1) _ hp (by omega) (by omega) rfl ?_
        refine ⟨⟨_, rfl⟩, ?_⟩
        try walk_at "d"
        refine .inl ⟨p, w, w + 1, [], [], rfl, hp, rz _, rz _, fun c hc => ?_⟩
        obtain rfl : c = false := by
          cases c with
          | false => rfl
          | true => exact absurd (hc.mp rfl).1 (by omega)
        walk_at "d"
        refine ⟨by decide, made p w _ hp hw1 (by omega) rfl ?_⟩
        refine ⟨⟨_, rfl⟩, ?_⟩
        try walk_at "d"
        refine .inl ⟨p, w, w, [], [], rfl, hp, rz _, rz _, fun c hc => ?_⟩
        obtain rfl : c = true := hc.mpr ⟨rfl, rfl⟩
        walk_at "d"
        exact hR _ _ ⟨⟨_, _, _, _, _, _, _, _, _, _, _, _, _, _, rfl⟩, by omega⟩
      · obtain ⟨⟨y_turn, y_p, y_width, y_one, y_k, y_two, y_passed, y_row_here, y_inner, y_t, y_u, y_v, y_empty, y_strange, rfl⟩, hn⟩ := hI
        walk_at "d"
    refine ⟨_, pss_cons (ps_set (i := 1) sc_law.nd rfl (by first | exact Or.inl rfl | exact Or.inr rfl) (pe_callSD okS (hr.mono (by decide)) (by rfl) T.g__law_spring kpS hbS .nil (fun σ => passAt tk σ) (pa_cons (pv 0) pa_nil))) p2, ?_⟩
    refine ⟨_, rfl, a, ns, rfl, hS, hl, fun c s0 nc ns0 ne => ?_⟩
    have nPc : ∀ x ∈ tfn, (He.cT K (x, none)).2 ≠ c := fun x hx => ne_of_none (hTb x hx) nc
    have nPs : ∀ x ∈ tfn, (He.cT K (x, none)).2 ≠ s0 := fun x hx => ne_of_none (hTb x hx) ns0
    have j0 : (sprW s0 (c, tblOf K tfn)).J 0 (upd (upd H c (.lst (ns.map V.int))) s0 (.lst [.ref c, .int 0, .int 0, .int 7])) := ⟨⟨ne, ns, 0, 7, upd_same, by rw [upd_ne (Ne.symm ne), upd_same], by decide, by decide⟩, fun p hp => by
      obtain ⟨x, hx, rfl⟩ := List.mem_map.mp hp
      exact LamX.TabS.nil (by rw [upd_ne (nPs x hx), upd_ne (nPc x hx)]; exact hTb x hx)⟩
    refine e2 ⟨sprW s0 (c, tblOf K tfn), K, _, fun _ => none, none⟩ _ _ [none, some (.val (.hnd s0)), none, none, none, none, none, none, none, none, none, none, none, none, none, none] 0 (fun _ => none) (fun _ => 0) _ _ rfl ⟨.refl _ (fun a o e => nomatch e), fun _ _ => rfl, j0, rfl, fun i d h => ?_, fun i d h => ?_, fun i j d e h => ?_, (fun a d h => nomatch h), Gh.nil fun i r gs h => ?_⟩ ?_ (h2 _ s0 (c, tblOf K tfn) rfl (fun x hx => sprW_lam (List.mem_map.mpr ⟨x, hx, rfl⟩) (nodup_at T.tbl (List.mem_map.mpr ⟨x, hx, rfl⟩))))
    · match i, h with
      | 1, h => cases h; exact ⟨_, rfl, .hnd _⟩
      | 0, h => exact nomatch h
      | 2, h => exact nomatch h
      | 3, h => exact nomatch h
      | 4, h => exact nomatch h
      | 5, h => exact nomatch h
      | 6, h => exact nomatch h
      | 7, h => exact nomatch h
      | 8, h => exact nomatch h
      | 9, h => exact nomatch h
      | 10, h => exact nomatch h
      | 11, h => exact nomatch h
      | 12, h => exact nomatch h
      | 13, h => exact nomatch h
      | 14, h => exact nomatch h
      | 15, h => exact nomatch h
      | (i + 16), h => exact nomatch h
    · match i, h with
      | 0, h => exact nomatch h
      | 1, h => exact nomatch h
      | 2, h => exact nomatch h
      | 3, h => exact nomatch h
      | 4, h => exact nomatch h
      | 5, h => exact nomatch h
      | 6, h => exact nomatch h
      | 7, h => exact nomatch h
      | 8, h => exact nomatch h
      | 9, h => exact nomatch h
      | 10, h => exact nomatch h
      | 11, h => exact nomatch h
      | 12, h => exact nomatch h
      | 13, h => exact nomatch h
      | 14, h => exact nomatch h
      | 15, h => exact nomatch h
      | (i + 16), h => exact nomatch h
    · match i, h with
      | 0, h => exact nomatch h
      | 1, h => exact nomatch h
      | 2, h => exact nomatch h
      | 3, h => exact nomatch h
      | 4, h => exact nomatch h
      | 5, h => exact nomatch h
      | 6, h => exact nomatch h
      | 7, h => exact nomatch h
      | 8, h => exact nomatch h
      | 9, h => exact nomatch h
      | 10, h => exact nomatch h
      | 11, h => exact nomatch h
      | 12, h => exact nomatch h
      | 13, h => exact nomatch h
      | 14, h => exact nomatch h
      | 15, h => exact nomatch h
      | (i + 16), h => exact nomatch h
    · match i, h with
      | 0, h => exact nomatch h
      | 1, h => exact nomatch h
      | 2, h => exact nomatch h
      | 3, h => exact nomatch h
      | 4, h => exact nomatch h
      | 5, h => exact nomatch h
      | 6, h => exact nomatch h
      | 7, h => exact nomatch h
      | 8, h => exact nomatch h
      | 9, h => exact nomatch h
      | 10, h => exact nomatch h
      | 11, h => exact nomatch h
      | 12, h => exact nomatch h
      | 13, h => exact nomatch h
      | 14, h => exact nomatch h
      | 15, h => exact nomatch h
      | (i + 16), h => exact nomatch h
    · refine ⟨fun σ H' ρ n' G' α R hq => (nomatch (show D.non = D.bl true from hq)), fun v H' d n' G' st j r hq => ?_, fun _ _ _ _ _ _ _ h => False.elim h, fun _ _ _ _ _ _ _ h => False.elim h, fun c dd σ H' ρ n' G' α e R r hq => False.elim hq, rfl, fun _ _ _ _ _ _ _ _ h => False.elim h⟩
      cases hq
      cases r
      exact hQ _
end

end My

namespace My
open PySem PySem.Spec PyProof.Rows L2 DL
theorem facts {P : Program} {w : World} {K : PySem.W.Frag} {h : Heap} {mg : Str → Option Value} {f : Addr} (X : K.In h) (G : h.Ns mainGlobals mg) (hfa : mg ("law" : Str) = some (.ref f)) (c : He.SaysD fa fn K) (cm : He5.SaysA [] cmf K) (hx : exB K = true) :
    ∃ fd : FuncData, (∀ (s : Shared) (v : Value), BindsTo s fd ⟨[v], []⟩ [("_law_script", v)]) ∧ ∀ base : Heap, K.In base → base.Ns mainGlobals mg → (∀ p ∈ tf.map (He.cT K), LamX.TabB base mg p.1 p.2) → FnOk P w K mg base (L2.CX P w) 14 f fd ["_law_script"] (spLaw K) := by
  have T : Top K mg := ⟨c, hx, cm, h, X, G⟩
  obtain ⟨fd, FD⟩ := T.d_law
  have e := hfa.symm.trans T.g_law
  cases e
  have b := FunD.bindsA (ps := ["_law_script"]) FD fun _ _ _ _ _ _ us hl => match us, hl with | [_], _ => rfl
  exact ⟨fd, fun s v => b s [v] rfl, fun base _ _ hT => ok_law T FD (fun x hx => hT _ (List.mem_map.mpr ⟨(x, none), tf_mem hx, rfl⟩))⟩
end My
open PySem PySem.W PySem.Calls PyProof.Rows
theorem PySem.Challenge.cw_seenrows_k15_tables_made_holds : PySem.Challenge.rw_seenrows_k15_tables_made.Holds := by
  refine My.pre fun said => ?_
  refine HandSHeadRun.head_any (r := OpenLaw.row PySem.Challenge.rw_seenrows_k15_tables_made) (q := view (OpenLaw.row PySem.Challenge.rw_seenrows_k15_tables_made).prog [71]) (H := My.hk) (ob := My.ob) (M := 9000) (loose := My.names) (d := HandSHeadRun.topDef (OpenLaw.row PySem.Challenge.rw_seenrows_k15_tables_made).prog 71) (kwd := []) My.ob_eq
    (by kernel_rfl) (fun s => by kernel_rfl) My.run (by kernel_rfl) (by kernel_rfl) (by kernel_rfl) (by rfl) (by first | assumption | decide +kernel) (by decide +kernel) My.pre2 ?hw ?hc
  case hw => w_witness2
  case hc =>
    refine LamX.walk_ofTsE (l := PySem.Challenge.rw_seenrows_k15_tables_made) (n := 63) (k := 14) (x := "_law_script") (CX := fun w => L2.CX PySem.Challenge.pw_seenrows_k15_tables_made w) rfl (by decide) (by kernel_rfl) ⟨rfl, by decide, by decide⟩ ?F (fun w H s e s' ⟨_, _, _, _, _, _, _, _, _, _, _, _, z⟩ => z)
    intro w mg fa h Y G hmg0
    obtain ⟨K, KX, c⟩ := Y
    have hmg : mg ("law" : PySem.Str) = some (.ref fa) := by
      have e : (HandSHeadRun.topDef (OpenLaw.row PySem.Challenge.rw_seenrows_k15_tables_made).prog 71).name = ("law" : PySem.Str) := by kernel_rfl
      rw [← e]
      exact hmg0
    obtain ⟨fd, hb, hF⟩ := My.facts (P := (PySem.Challenge.rw_seenrows_k15_tables_made).prog) (w := w) KX G hmg c.d c.cm c.more
    refine ⟨K, KX, fd, My.tf.map (He.cT K), My.spLaw K, fun p hp => ?_, fun p hp => ?_, fun p hp => ?_, hb, fun H a ns hl _ hT hS => ⟨a, ns, rfl, hS, hl, fun x hx => hT _ (List.mem_map.mpr ⟨_, My.tf_mem hx, rfl⟩), fun _ => rfl⟩, hF⟩
    · obtain ⟨d, hd, rfl⟩ := List.mem_map.mp hp
      exact (c.tabs d hd).2.2
    · obtain ⟨d, hd, rfl⟩ := List.mem_map.mp hp
      exact (c.tabs d hd).2.1
    · obtain ⟨d, hd, rfl⟩ := List.mem_map.mp hp
      exact PySem.W.codeHd_of_K KX (c.tabs d hd).1
