import PyProof.Rows.All
import Wide.All
import OpenK.AllK
import Wide.FinOn
import HandS.ForMost
import HandS.ForExc
import HandS.Walk
import HandS.Defaults
import HandS.HeadHook1
import HandS.IsInst
import HandS.Wide
import HandS.CallSlots
import HandS.Small
import HandS.SortInts
import HandS.Zip
import HandS.ListItems
import HandS.Style
import HandS.Head0
import HandS.Head1
import HandS.Head2
import HandS.HeadEnd
import HandS.HeadHook2
import HandS.Ends
import HandS.ExcInit
import HandS.TryOnly
import HandS.TryMany
import HandS.SlotsOwn
import HandS.Conv
import HandS.Star
import HandS.Flow
import KE.KDictZip
import KE.KDictSum
import KE.GoesNew
import KE.GoesEnum
import KE.KEqDict
import HandS.Lambda
import HandS.HeadHook4
import HandS.HeadWalk
import HandS.ClsMeth
import HandS.HeadNt
import PyProof.StrOps2
import PyProof.FitsStr
import PyProof.Rows.Range3
import HandS.OwnEq
import PyProof.LongRange
import HandS.More
import HandS.ExcField
import HandS.MakeKw
import HandS.Deep
import HandS.TupLe
import HandS.IterVal
import HandS.TupAny
import HandS.RevRange
import PyProof.PureInt
import PyProof.ReprRoads
import HandS.SetKeys
import PyProof.EqKinds
import HandS.HotCalls
import HandS.RaiseMore
import HandS.MapJoin
import PySem.Challenge.RW_seenrows_k01_filters_made
set_option Elab.async false
set_option linter.all false
set_option maxRecDepth 100000
set_option maxHeartbeats 0
section
open PySem PySem.W PySem.Calls PyProof.Rows
theorem My.pre (h : PySem.Challenge.rw_seenrows_k01_filters_made.row.wellSaid = true → PySem.Challenge.rw_seenrows_k01_filters_made.row.Holds) : PySem.Challenge.rw_seenrows_k01_filters_made.Holds := by
  w_on; o_law
  exact h (by assumption)
theorem My.pre2 : (OpenLaw.row PySem.Challenge.rw_seenrows_k01_filters_made).prog.bare := ⟨rfl, rfl, rfl, rfl, rfl, by decide +kernel⟩
end
set_option maxHeartbeats 200000

section
set_option autoImplicit false
namespace DL
open PySem PySem.Spec PyProof.Rows L2

inductive D where
  | non | bl (b : Bool) | int (i : Int) | str (x : Str)
  | lst (ds : List D) | tup (ds : List D)
  | dct (kvs : List (Key × D))
  | obj (c : Str) (fs : List (Str × D))
  | hnd (a : Addr)
  | exc (a dd : Addr) (c : Str) (fs : List (Str × D))
  | rol (ds : List D)

abbrev ca (K : PySem.W.Frag) (c : Str) : Addr := He.ga K c

mutual
inductive Rep (K : PySem.W.Frag) (G : Hp) : D → V → Prop where
  | non : Rep K G .non .non
  | bl (b : Bool) : Rep K G (.bl b) (.bl b)
  | int (i : Int) : Rep K G (.int i) (.int i)
  | str (x : Str) : Rep K G (.str x) (.str x)
  | lst {a : Addr} {ds : List D} {vs : List V} : G a = some (.lst vs) → RepL K G ds vs → Rep K G (.lst ds) (.ref a)
  | tup {a : Addr} {ds : List D} {vs : List V} : SqT K G a vs → RepL K G ds vs → Rep K G (.tup ds) (.ref a)
  | dct {a : Addr} {o : Obj} {kvs : List (Key × D)} {ws : List (Key × V)} : G a = some (.frz o (.dK ws)) → RepK K G kvs ws → Rep K G (.dct kvs) (.ref a)
  | obj {a dx : Addr} {c : Str} {fs : List (Str × D)} {ws : List (Str × V)} : G a = some (.ins (ca K c) dx ws) → RepF K G fs ws → Rep K G (.obj c fs) (.ref a)
  | hnd (a : Addr) : Rep K G (.hnd a) (.ref a)
  | exc {a dd : Addr} {c : Str} {fs : List (Str × D)} {ws : List (Str × V)} : G dd = some (.xd ws) → RepF K G fs ws → Rep K G (.exc a dd c fs) (.ref a)
  | rol {a : Addr} {o : Obj} {ds : List D} {vs : List V} : G a = some (.frz o (.lst vs)) → RepL K G ds vs → Rep K G (.rol ds) (.ref a)
inductive RepL (K : PySem.W.Frag) (G : Hp) : List D → List V → Prop where
  | nil : RepL K G [] []
  | cons {d : D} {v : V} {ds : List D} {vs : List V} : Rep K G d v → RepL K G ds vs → RepL K G (d :: ds) (v :: vs)
inductive RepK (K : PySem.W.Frag) (G : Hp) : List (Key × D) → List (Key × V) → Prop where
  | nil : RepK K G [] []
  | cons {k : Key} {d : D} {v : V} {ds : List (Key × D)} {vs : List (Key × V)} : Rep K G d v → RepK K G ds vs → RepK K G ((k, d) :: ds) ((k, v) :: vs)
inductive RepF (K : PySem.W.Frag) (G : Hp) : List (Str × D) → List (Str × V) → Prop where
  | nil : RepF K G [] []
  | cons {k : Str} {d : D} {v : V} {ds : List (Str × D)} {vs : List (Str × V)} : Rep K G d v → RepF K G ds vs → RepF K G ((k, d) :: ds) ((k, v) :: vs)
end

def Le (G G' : Hp) : Prop := ∀ a o, G a = some o → ∃ o', G' a = some o' ∧ o' = o
theorem Le.refl (G : Hp) : Le G G := fun a o h => ⟨o, h, rfl⟩
theorem Le.trans {G G1 G2 : Hp} (h : Le G G1) (h' : Le G1 G2) : Le G G2 := fun a o e => by
  obtain ⟨o1, e1, c1⟩ := h a o e
  obtain ⟨o2, e2, c2⟩ := h' a o1 e1
  exact ⟨o2, e2, c2.trans c1⟩
theorem Le.get {G G' : Hp} (h : Le G G') {a : Addr} {o : HO} (e : G a = some o) : G' a = some o := by
  obtain ⟨o', e', c⟩ := h a o e
  rw [e', c]
theorem Le.of_same {G G' : Hp} (h : ∀ a o, G a = some o → G' a = some o) : Le G G' := fun a o e => ⟨o, h a o e, rfl⟩
theorem Le.lst {G G' : Hp} (h : Le G G') {a : Addr} {vs : List V} (e : G a = some (.lst vs)) : G' a = some (.lst vs) := by
  obtain ⟨o, e', c⟩ := h a _ e
  rw [e', c]
theorem Le.ins {G G' : Hp} (h : Le G G') {a C dx : Addr} {ws : List (Str × V)} (e : G a = some (.ins C dx ws)) : G' a = some (.ins C dx ws) := by
  obtain ⟨o, e', c⟩ := h a _ e
  rw [e', c]
theorem Le.sqT {G G' : Hp} (h : Le G G') {K : PySem.W.Frag} {a : Addr} {vs : List V} (e : SqT K G a vs) : SqT K G' a vs := by
  rcases e with (e | ⟨x, e⟩) | e
  · obtain ⟨o, e', c⟩ := h a _ e
    exact .inl (.inl (by rw [e', c]))
  · obtain ⟨o, e', c⟩ := h a _ e
    exact .inl (.inr ⟨x, by rw [e', c]⟩)
  · exact .inr e
mutual
theorem Rep.mono {K : PySem.W.Frag} {G G' : Hp} (h : Le G G') : ∀ {d : D} {v : V}, Rep K G d v → Rep K G' d v
  | _, _, .non => .non
  | _, _, .bl b => .bl b
  | _, _, .int i => .int i
  | _, _, .str x => .str x
  | _, _, .lst e r => .lst (h.lst e) (RepL.mono h r)
  | _, _, .tup e r => .tup (h.sqT e) (RepL.mono h r)
  | _, _, .dct e r => .dct (h.get e) (RepK.mono h r)
  | _, _, .obj e r => .obj (h.ins e) (RepF.mono h r)
  | _, _, .hnd a => .hnd a
  | _, _, .exc e r => .exc (h.get e) (RepF.mono h r)
  | _, _, .rol e r => .rol (h.get e) (RepL.mono h r)
theorem RepL.mono {K : PySem.W.Frag} {G G' : Hp} (h : Le G G') : ∀ {d : List D} {v : List V}, RepL K G d v → RepL K G' d v
  | _, _, .nil => .nil
  | _, _, .cons r t => .cons (Rep.mono h r) (RepL.mono h t)
theorem RepK.mono {K : PySem.W.Frag} {G G' : Hp} (h : Le G G') : ∀ {d : List (Key × D)} {v : List (Key × V)}, RepK K G d v → RepK K G' d v
  | _, _, .nil => .nil
  | _, _, .cons r t => .cons (Rep.mono h r) (RepK.mono h t)
theorem RepF.mono {K : PySem.W.Frag} {G G' : Hp} (h : Le G G') : ∀ {d : List (Str × D)} {v : List (Str × V)}, RepF K G d v → RepF K G' d v
  | _, _, .nil => .nil
  | _, _, .cons r t => .cons (Rep.mono h r) (RepF.mono h t)
end

section
variable {K : PySem.W.Frag} {G : Hp}
theorem RepL.length : ∀ {ds : List D} {vs : List V}, RepL K G ds vs → ds.length = vs.length
  | _, _, .nil => rfl
  | _, _, .cons _ t => by rw [List.length_cons, List.length_cons, RepL.length t]
theorem RepL.get : ∀ {ds : List D} {vs : List V} {i : Nat} {d : D}, RepL K G ds vs → ds[i]? = some d → ∃ v, vs[i]? = some v ∧ Rep K G d v
  | _, _, _, _, .nil, e => by simp at e
  | _, _, 0, _, .cons r _, e => by
    simp at e
    subst e
    exact ⟨_, rfl, r⟩
  | _, _, i + 1, d, .cons _ t, e => by
    obtain ⟨u, h1, h2⟩ := RepL.get (i := i) (d := d) t (by simpa using e)
    exact ⟨u, by simpa using h1, h2⟩
theorem RepL.getV : ∀ {ds : List D} {vs : List V} {i : Nat} {v : V}, RepL K G ds vs → vs[i]? = some v → ∃ d, ds[i]? = some d ∧ Rep K G d v
  | _, _, _, _, .nil, e => by simp at e
  | _, _, 0, _, .cons r _, e => by
    simp at e
    subst e
    exact ⟨_, rfl, r⟩
  | _, _, i + 1, d, .cons _ t, e => by
    obtain ⟨u, h1, h2⟩ := RepL.getV (i := i) (v := d) t (by simpa using e)
    exact ⟨u, by simpa using h1, h2⟩
theorem RepL.append : ∀ {ds es : List D} {vs us : List V}, RepL K G ds vs → RepL K G es us → RepL K G (ds ++ es) (vs ++ us)
  | _, _, _, _, .nil, s => s
  | _, _, _, _, .cons r t, s => .cons r (RepL.append t s)
theorem RepL.set {d : D} {v : V} (r : Rep K G d v) : ∀ {ds : List D} {vs : List V} (i : Nat), RepL K G ds vs → RepL K G (ds.set i d) (vs.set i v)
  | _, _, _, .nil => .nil
  | _, _, 0, .cons _ t => .cons r t
  | _, _, i + 1, .cons q t => .cons q (RepL.set r i t)
theorem RepL.drop : ∀ {ds : List D} {vs : List V} (n : Nat), RepL K G ds vs → RepL K G (ds.drop n) (vs.drop n)
  | _, _, 0, r => r
  | _, _, _ + 1, .nil => .nil
  | _, _, n + 1, .cons _ t => RepL.drop n t
theorem RepL.take : ∀ {ds : List D} {vs : List V} (n : Nat), RepL K G ds vs → RepL K G (ds.take n) (vs.take n)
  | _, _, 0, _ => .nil
  | _, _, _ + 1, .nil => .nil
  | _, _, n + 1, .cons r t => .cons r (RepL.take n t)
theorem RepL.snoc {ds : List D} {vs : List V} {d : D} {v : V} (t : RepL K G ds vs) (r : Rep K G d v) : RepL K G (ds ++ [d]) (vs ++ [v]) := t.append (.cons r .nil)
theorem RepL.rep {ds : List D} {vs : List V} (h : RepL K G ds vs) : ∀ k : Nat, RepL K G (List.replicate k ds).flatten (List.replicate k vs).flatten
  | 0 => .nil
  | k + 1 => by
    rw [List.replicate_succ, List.replicate_succ, List.flatten_cons, List.flatten_cons]
    exact h.append (RepL.rep h k)
theorem RepF.lookup {f : Str} {d : D} : ∀ {fs : List (Str × D)} {ws : List (Str × V)}, RepF K G fs ws → fs.lookup f = some d → ∃ v, ws.lookup f = some v ∧ Rep K G d v
  | _, _, .nil, e => by simp at e
  | _, _, .cons (k := k) (ds := ds) (vs := vs) r t, e => by
    rw [List.lookup_cons] at e ⊢
    cases q : (f == k) with
    | true =>
      rw [q] at e
      simp at e
      subst e
      exact ⟨_, rfl, r⟩
    | false =>
      rw [q] at e
      exact RepF.lookup t e
theorem RepF.lookupN {f : Str} : ∀ {fs : List (Str × D)} {ws : List (Str × V)}, RepF K G fs ws → fs.lookup f = none → ws.lookup f = none
  | _, _, .nil, e => rfl
  | _, _, .cons (k := k) (ds := ds) (vs := vs) r t, e => by
    rw [List.lookup_cons] at e ⊢
    cases q : (f == k) with
    | true =>
      rw [q] at e
      simp at e
    | false =>
      rw [q] at e
      exact RepF.lookupN t e
theorem RepF.length : ∀ {fs : List (Str × D)} {ws : List (Str × V)}, RepF K G fs ws → fs.length = ws.length
  | _, _, .nil => rfl
  | _, _, .cons _ t => by rw [List.length_cons, List.length_cons, RepF.length t]
theorem RepK.length : ∀ {fs : List (Key × D)} {ws : List (Key × V)}, RepK K G fs ws → fs.length = ws.length
  | _, _, .nil => rfl
  | _, _, .cons _ t => by rw [List.length_cons, List.length_cons, RepK.length t]
end

def getD (kvs : List (Key × D)) (k : Key) : Option D := (kvs.find? fun kv => decide (kv.1 = k)).map (·.2)
def putD (kvs : List (Key × D)) (k : Key) (d : D) : List (Key × D) :=
  if kvs.any fun kv => decide (kv.1 = k) then kvs.map fun kv => if kv.1 = k then (kv.1, d) else kv else kvs ++ [(k, d)]
def setF (f : Str) (d : D) : List (Str × D) → List (Str × D)
  | [] => [(f, d)]
  | (g, x) :: r => if g = f then (g, d) :: r else (g, x) :: setF f d r
end DL

end

section
set_option autoImplicit false
namespace DL
open PySem PySem.Spec L2
section
variable {K : PySem.W.Frag} {G : Hp}
theorem getD_cons (k j : Key) (d : D) (r : List (Key × D)) : getD ((k, d) :: r) j = if k = j then some d else getD r j := by
  unfold getD
  rw [List.find?_cons]
  by_cases e : k = j
  · simp [e]
  · simp [e]
theorem valV_cons (k j : Key) (v : V) (r : List (Key × V)) : valV ((k, v) :: r) j = if k = j then some v else valV r j := by
  by_cases e : k = j
  · rw [if_pos e]; exact valV_pos (p := (k, v)) e
  · rw [if_neg e]; exact valV_neg (p := (k, v)) e
theorem RepK.val {k : Key} : ∀ {kvs : List (Key × D)} {ws : List (Key × V)}, RepK K G kvs ws → (∃ d v, getD kvs k = some d ∧ valV ws k = some v ∧ Rep K G d v) ∨ (getD kvs k = none ∧ valV ws k = none)
  | _, _, .nil => .inr ⟨rfl, rfl⟩
  | _, _, .cons (k := j) (d := d) (v := v) r t => by
    rw [getD_cons, valV_cons]
    by_cases e : j = k
    · rw [if_pos e, if_pos e]
      exact .inl ⟨d, v, rfl, rfl, r⟩
    · rw [if_neg e, if_neg e]
      exact RepK.val t
theorem RepK.any {k : Key} : ∀ {kvs : List (Key × D)} {ws : List (Key × V)}, RepK K G kvs ws → (kvs.any fun kv => decide (kv.1 = k)) = ws.any fun kv => decide (kv.1 = k)
  | _, _, .nil => rfl
  | _, _, .cons r t => by rw [List.any_cons, List.any_cons, RepK.any t]
theorem RepK.repl {k : Key} {d : D} {v : V} (r : Rep K G d v) : ∀ {kvs : List (Key × D)} {ws : List (Key × V)}, RepK K G kvs ws → RepK K G (kvs.map fun kv => if kv.1 = k then (kv.1, d) else kv) (ws.map fun kv => if kv.1 = k then (kv.1, v) else kv)
  | _, _, .nil => .nil
  | _, _, .cons (k := j) q t => by
    rw [List.map_cons, List.map_cons]
    by_cases e : j = k
    · rw [if_pos e, if_pos e]
      exact .cons r (RepK.repl r t)
    · rw [if_neg e, if_neg e]
      exact .cons q (RepK.repl r t)
theorem RepK.snoc {k : Key} {d : D} {v : V} (r : Rep K G d v) : ∀ {kvs : List (Key × D)} {ws : List (Key × V)}, RepK K G kvs ws → RepK K G (kvs ++ [(k, d)]) (ws ++ [(k, v)])
  | _, _, .nil => .cons r .nil
  | _, _, .cons q t => .cons q (RepK.snoc r t)
theorem RepK.put {k : Key} {d : D} {v : V} (r : Rep K G d v) {kvs : List (Key × D)} {ws : List (Key × V)} (h : RepK K G kvs ws) : RepK K G (putD kvs k d) (putK ws k v) := by
  unfold putD putK
  rw [h.any (k := k)]
  cases (ws.any fun kv => decide (kv.1 = k)) with
  | true => exact h.repl r
  | false => exact h.snoc r
theorem RepF.put {f : Str} {d : D} {v : V} (r : Rep K G d v) : ∀ {fs : List (Str × D)} {ws : List (Str × V)}, RepF K G fs ws → RepF K G (setF f d fs) (putF f v ws)
  | _, _, .nil => .cons r .nil
  | _, _, .cons (k := g) q t => by
    unfold setF putF
    by_cases e : g = f
    · rw [if_pos e, if_pos e]
      exact .cons r t
    · rw [if_neg e, if_neg e]
      exact .cons q (RepF.put r t)
end

structure Wd where
  rg : Addr → Prop
  J : Nat → Hp → Prop
  stable : ∀ n H H', (∀ a, rg a → H' a = H a) → (∀ a e, H a = some (.ext e) → H' a = some (.ext e)) → J n H → J n H'
  there : ∀ n H a, J n H → rg a → H a ≠ none
def Wd.none : Wd := ⟨fun _ => False, fun _ _ => True, fun _ _ _ _ _ _ => trivial, fun _ _ _ _ h => h.elim⟩

structure Step (W : Wd) (H G H' G' : Hp) : Prop where
  fr : ∀ a o, H a = some o → ¬ W.rg a → H' a = some o
  le : Le G G'
  hh : Le G' H'
  new : ∀ a, G' a ≠ none → G a ≠ none ∨ (H a = none ∧ ¬ W.rg a)
theorem Step.refl (W : Wd) {H G : Hp} (h : Le G H) : Step W H G H G := ⟨fun _ _ e _ => e, Le.refl G, h, fun _ e => .inl e⟩
theorem Step.trans {W : Wd} {H G H1 G1 H2 G2 : Hp} (s : Step W H G H1 G1) (t : Step W H1 G1 H2 G2) : Step W H G H2 G2 := by
  refine ⟨fun a o e r => t.fr a o (s.fr a o e r) r, s.le.trans t.le, t.hh, fun a e => ?_⟩
  rcases t.new a e with e | ⟨e, r⟩
  · exact s.new a e
  · refine .inr ⟨?_, r⟩
    cases q : H a with
    | none => rfl
    | some o => rw [s.fr a o q r] at e; cases e
structure StepP (H G H' G' : Hp) : Prop where
  fr : ∀ a o, H a = some o → H' a = some o
  le : Le G G'
  hh : Le G' H'
  new : ∀ a, G' a ≠ none → G a ≠ none ∨ H a = none
theorem StepP.refl {H G : Hp} (h : Le G H) : StepP H G H G := ⟨fun _ _ e => e, Le.refl G, h, fun _ e => .inl e⟩
theorem StepP.step {W : Wd} {n : Nat} {H G H' G' : Hp} (s : StepP H G H' G') (j : W.J n H) : Step W H G H' G' :=
  ⟨fun a o e _ => s.fr a o e, s.le, s.hh, fun a e => (s.new a e).imp (fun z => z) fun z => ⟨z, fun r => W.there n H a j r z⟩⟩
theorem StepP.J {W : Wd} {n : Nat} {H G H' G' : Hp} (s : StepP H G H' G') (j : W.J n H) : W.J n H' := by
  refine W.stable n H H' (fun a r => ?_) (fun a e q => s.fr a _ q) j
  cases q : H a with
  | none => exact (W.there n H a j r q).elim
  | some o => exact s.fr a o q
theorem StepP.made {H G : Hp} {p : Addr} {o : HO} (h : Le G H) (np : H p = none) : StepP H G (upd H p o) (upd G p o) := by
  have gp : G p = none := by
    cases q : G p with
    | none => rfl
    | some u =>
      obtain ⟨o', e, _⟩ := h p u q
      rw [np] at e; cases e
  refine ⟨fun a u e => by rw [upd_ne (ne_of_none e np)]; exact e, .of_same fun a u e => by rw [upd_ne (ne_of_none e gp)]; exact e, fun a u e => ?_, fun a e => ?_⟩
  · by_cases z : a = p
    · subst z
      rw [upd_same] at e
      cases e
      exact ⟨_, upd_same, rfl⟩
    · rw [upd_ne z] at e
      obtain ⟨o', e', c⟩ := h a u e
      exact ⟨o', by rw [upd_ne z]; exact e', c⟩
  · by_cases z : a = p
    · subst z
      exact .inr np
    · rw [upd_ne z] at e
      exact .inl e
theorem StepP.laid {H G : Hp} {p : Addr} {o : HO} (h : Le G H) (np : H p = none) : StepP H G (upd H p o) G := by
  refine ⟨fun a u e => by rw [upd_ne (ne_of_none e np)]; exact e, Le.refl G, fun a u e => ?_, fun a e => .inl e⟩
  obtain ⟨o', e', c⟩ := h a u e
  exact ⟨o', by rw [upd_ne (ne_of_none e' np)]; exact e', c⟩
theorem StepP.trans {H G H1 G1 H2 G2 : Hp} (s : StepP H G H1 G1) (t : StepP H1 G1 H2 G2) : StepP H G H2 G2 := by
  refine ⟨fun a o e => t.fr a o (s.fr a o e), s.le.trans t.le, t.hh, fun a e => ?_⟩
  rcases t.new a e with e | e
  · exact s.new a e
  · refine .inr ?_
    cases q : H a with
    | none => rfl
    | some o => rw [s.fr a o q] at e; cases e

inductive Sl where
  | val (d : D)
  | own (d : D)
  | gst (r : D) (gs : List (Addr × D))
abbrev Env := List (Option Sl)
def OwnAt (K : PySem.W.Frag) (G H : Hp) (a : Addr) : D → Prop
  | .lst ds => ∃ vs, H a = some (.lst vs) ∧ RepL K G ds vs
  | .dct kvs => ∃ ws, H a = some (.dK ws) ∧ RepK K G kvs ws
  | .obj c fs => ∃ dx ws, H a = some (.ins (ca K c) dx ws) ∧ RepF K G fs ws
  | _ => False
theorem OwnAt.noExt {K : PySem.W.Frag} {G H : Hp} {a : Addr} {d : D} {e : Heap → Prop} (h : OwnAt K G H a d) (q : H a = some (.ext e)) : False := by
  cases d with
  | lst ds => obtain ⟨vs, z, _⟩ := h; rw [q] at z; cases z
  | dct ds => obtain ⟨vs, z, _⟩ := h; rw [q] at z; cases z
  | obj c fs => obtain ⟨_, vs, z, _⟩ := h; rw [q] at z; cases z
  | _ => exact h.elim
theorem OwnAt.there {K : PySem.W.Frag} {G H : Hp} {a : Addr} {d : D} (h : OwnAt K G H a d) : ∃ o, H a = some o := by
  cases d with
  | lst ds => obtain ⟨vs, e, _⟩ := h; exact ⟨_, e⟩
  | dct ds => obtain ⟨vs, e, _⟩ := h; exact ⟨_, e⟩
  | obj c fs => obtain ⟨dx, ws, e, _⟩ := h; exact ⟨_, e⟩
  | _ => exact h.elim
theorem OwnAt.mono {K : PySem.W.Frag} {G H G' H' : Hp} {a : Addr} {d : D} (h : OwnAt K G H a d) (le : Le G G') (fr : ∀ o, H a = some o → H' a = some o) : OwnAt K G' H' a d := by
  cases d with
  | lst ds => obtain ⟨vs, e, r⟩ := h; exact ⟨vs, fr _ e, r.mono le⟩
  | dct ds => obtain ⟨vs, e, r⟩ := h; exact ⟨vs, fr _ e, r.mono le⟩
  | obj c fs => obtain ⟨dx, ws, e, r⟩ := h; exact ⟨dx, ws, fr _ e, r.mono le⟩
  | _ => exact h.elim
structure Bs where
  W : Wd
  K : PySem.W.Frag
  H0 : Hp
  G0 : Hp
  self : Option Addr
structure Gh (B : Bs) (σ : St) (H : Hp) (ρ : Env) (G : Hp) (α : Nat → Addr) : Prop where
  gst : ∀ (i : Nat) (r : D) (gs : List (Addr × D)), ρ[i]? = some (some (.gst r gs)) → (∃ v, σ[i]? = some (some v) ∧ Rep B.K G r v) ∧ (gs.map (·.1)).Nodup
  at_ : ∀ (i : Nat) (r : D) (gs : List (Addr × D)), ρ[i]? = some (some (.gst r gs)) → ∀ g ∈ gs, G g.1 = none ∧ B.H0 g.1 = none ∧ ¬ B.W.rg g.1 ∧ OwnAt B.K G H g.1 g.2
  sep : ∀ (i j : Nat) (r r' : D) (gs gs' : List (Addr × D)), ρ[i]? = some (some (.gst r gs)) → ρ[j]? = some (some (.gst r' gs')) → i ≠ j → ∀ g ∈ gs, ∀ g' ∈ gs', g.1 ≠ g'.1
  off : ∀ (i j : Nat) (r : D) (gs : List (Addr × D)) (d : D), ρ[i]? = some (some (.gst r gs)) → ρ[j]? = some (some (.own d)) → ∀ g ∈ gs, g.1 ≠ α j
  p1 : ∀ (a : Addr) (r : D) (gs : List (Addr × D)), B.self = some a → ρ[0]? = some (some (.gst r gs)) → r = .hnd a
theorem Gh.nil {B : Bs} {σ : St} {H : Hp} {ρ : Env} {G : Hp} {α : Nat → Addr} (h : ∀ (i : Nat) (r : D) (gs : List (Addr × D)), ρ[i]? ≠ some (some (.gst r gs))) : Gh B σ H ρ G α :=
  ⟨fun i r gs e => (h i r gs e).elim, fun i r gs e => (h i r gs e).elim, fun i _ r _ gs _ e => (h i r gs e).elim, fun i _ r gs _ e => (h i r gs e).elim, fun _ r gs _ e => (h 0 r gs e).elim⟩
theorem Gh.of {B B' : Bs} {σ σ' : St} {H H' : Hp} {ρ ρ' : Env} {G G' : Hp} {α α' : Nat → Addr} (h : Gh B σ H ρ G α) (eK : B'.K = B.K) (eH : B'.H0 = B.H0) (eW : B'.W = B.W) (eS : B'.self = B.self)
    (hg : ∀ (j : Nat) (r : D) (gs : List (Addr × D)), ρ'[j]? = some (some (.gst r gs)) → ρ[j]? = some (some (.gst r gs)) ∧ ∀ v, σ[j]? = some (some v) → σ'[j]? = some (some v))
    (ho : ∀ (j : Nat) (d : D), ρ'[j]? = some (some (.own d)) → (∃ d', ρ[j]? = some (some (.own d')) ∧ α' j = α j) ∨ ∀ (i : Nat) (r : D) (gs : List (Addr × D)), ρ'[i]? = some (some (.gst r gs)) → ∀ g ∈ gs, g.1 ≠ α' j)
    (hh : ∀ (i : Nat) (r : D) (gs : List (Addr × D)), ρ'[i]? = some (some (.gst r gs)) → ∀ g ∈ gs, G g.1 = none → ¬ B.W.rg g.1 → (∃ o, H g.1 = some o) → G' g.1 = none ∧ ∀ o, H g.1 = some o → H' g.1 = some o)
    (le : Le G G') : Gh B' σ' H' ρ' G' α' := by
  refine ⟨fun i r gs e => ?_, fun i r gs e g hm => ?_, fun i j r r' gs gs' e e' => h.sep i j r r' gs gs' (hg i r gs e).1 (hg j r' gs' e').1, fun i j r gs d e e' => ?_, fun a r gs hs e => h.p1 a r gs (eS ▸ hs) (hg 0 r gs e).1⟩
  · obtain ⟨e1, e2⟩ := hg i r gs e
    obtain ⟨⟨v, h1, h2⟩, h3⟩ := h.gst i r gs e1
    exact ⟨⟨v, e2 v h1, eK ▸ h2.mono le⟩, h3⟩
  · obtain ⟨h1, h2, h3, h4⟩ := h.at_ i r gs (hg i r gs e).1 g hm
    obtain ⟨k1, k2⟩ := hh i r gs e g hm h1 h3 h4.there
    exact ⟨k1, eH ▸ h2, eW ▸ h3, eK ▸ h4.mono le k2⟩
  · rcases ho j d e' with ⟨d', k1, k2⟩ | k
    · rw [k2]
      exact h.off i j r gs d' (hg i r gs e).1 k1
    · exact k i r gs e
structure RelB (B : Bs) (σ : St) (H : Hp) (ρ : Env) (n : Nat) (G : Hp) (α : Nat → Addr) : Prop where
  st : Step B.W B.H0 B.G0 H G
  rg : ∀ a, B.W.rg a → G a = none
  J : B.W.J n H
  len : σ.length = ρ.length
  val : ∀ (i : Nat) (d : D), ρ[i]? = some (some (.val d)) → ∃ v, σ[i]? = some (some v) ∧ Rep B.K G d v
  own : ∀ (i : Nat) (d : D), ρ[i]? = some (some (.own d)) → σ[i]? = some (some (.ref (α i))) ∧ G (α i) = none ∧ B.H0 (α i) = none ∧ ¬ B.W.rg (α i) ∧ OwnAt B.K G H (α i) d
  inj : ∀ (i j : Nat) (d e : D), ρ[i]? = some (some (.own d)) → ρ[j]? = some (some (.own e)) → α i = α j → i = j
  p0 : ∀ (a : Addr) (d : D), B.self = some a → ρ[0]? = some (some (.own d)) → α 0 = a
  gh : Gh B σ H ρ G α
theorem RelB.step {B : Bs} {σ : St} {H : Hp} {ρ : Env} {n : Nat} {G : Hp} {α : Nat → Addr} (R : RelB B σ H ρ n G α) {H' G' : Hp} {n' : Nat} (s : Step B.W H G H' G') (j : B.W.J n' H') : RelB B σ H' ρ n' G' α := by
  refine ⟨R.st.trans s, fun a r => ?_, j, R.len, fun i d e => ?_, fun i d e => ?_, R.inj, R.p0, R.gh.of rfl rfl rfl rfl (fun j r gs e => ⟨e, fun _ h => h⟩) (fun j d e => .inl ⟨d, e, rfl⟩) (fun i r gs e g hm h1 h3 h4 => ⟨?_, fun o q => s.fr _ o q h3⟩) s.le⟩
  · cases q : G' a with
    | none => rfl
    | some o =>
      rcases s.new a (by rw [q]; exact fun z => nomatch z) with z | ⟨_, z⟩
      · exact (z (R.rg a r)).elim
      · exact (z r).elim
  · obtain ⟨v, h1, h2⟩ := R.val i d e
    exact ⟨v, h1, h2.mono s.le⟩
  · obtain ⟨h1, h2, h3, h4, h5⟩ := R.own i d e
    refine ⟨h1, ?_, h3, h4, h5.mono s.le fun o q => s.fr _ o q h4⟩
    cases q : G' (α i) with
    | none => rfl
    | some o =>
      rcases s.new (α i) (by rw [q]; exact fun z => nomatch z) with z | ⟨z, _⟩
      · exact (z h2).elim
      · obtain ⟨o', z'⟩ := h5.there
        rw [z] at z'; cases z'
  · cases q : G' g.1 with
    | none => rfl
    | some o =>
      obtain ⟨o', h4⟩ := h4
      rcases s.new g.1 (by rw [q]; exact fun z => nomatch z) with z | ⟨z, _⟩
      · exact (z h1).elim
      · rw [z] at h4; cases h4
theorem RelB.le {B : Bs} {σ : St} {H : Hp} {ρ : Env} {n : Nat} {G : Hp} {α : Nat → Addr} (R : RelB B σ H ρ n G α) : Le G H := R.st.hh

abbrev Xn := Str × List (Str × D)
structure DX where
  ex : Xn → Nat → Prop
  w : Wd
abbrev DQ := D → Nat → Prop
abbrev DE := DX → Env → Nat → DQ → Prop
abbrev DT := DX → Env → Nat → (Bool → Nat → Prop) → Prop
abbrev DA := DX → Env → Nat → (List D → Nat → Prop) → Prop
def XRep (K : PySem.W.Frag) (W : Wd) (Hs G H : Hp) (e : Xn) (c : Value) (dd : Option Addr) : Prop :=
  c = .ref (ca K e.1) ∧ match dd with
    | some a => (Hs a = none ∧ ¬ W.rg a) ∧ ∃ ws, H a = some (.xd ws) ∧ RepF K G e.2 ws
    | none => e.2 = []
theorem XRep.backF {K : PySem.W.Frag} {W : Wd} {Hs H1 G H : Hp} {e : Xn} {c : Value} {dd : Option Addr} (r : XRep K W H1 G H e c dd) (fr : ∀ a o, Hs a = some o → ¬ W.rg a → H1 a = some o) : XRep K W Hs G H e c dd := by
  obtain ⟨h1, h2⟩ := r
  refine ⟨h1, ?_⟩
  cases dd with
  | none => exact h2
  | some a =>
    obtain ⟨⟨n1, n2⟩, h3⟩ := h2
    refine ⟨⟨?_, n2⟩, h3⟩
    cases q : Hs a with
    | none => rfl
    | some o => rw [fr a o q n2] at n1; cases n1
theorem XRep.back {K : PySem.W.Frag} {W : Wd} {Hs Gs H1 G1 G H : Hp} {e : Xn} {c : Value} {dd : Option Addr} (r : XRep K W H1 G H e c dd) (s : Step W Hs Gs H1 G1) : XRep K W Hs G H e c dd := r.backF s.fr
def XL (B : Bs) (W : WX) (σ : St) (H G : Hp) (x : DX) : Prop :=
  x.w = B.W ∧ ∀ (c : Value) (dd : Option Addr) (H' G' : Hp) (e : Xn) (n' : Nat), Step B.W H G H' G' → B.W.J n' H' → XRep B.K B.W H G' H' e c dd → x.ex e n' → W c dd σ H'
theorem XL.step {B : Bs} {W : WX} {σ : St} {H G H1 G1 : Hp} {x : DX} (h : XL B W σ H G x) (s : Step B.W H G H1 G1) : XL B W σ H1 G1 x :=
  ⟨h.1, fun c dd H' G' e n' t j r q => h.2 c dd H' G' e n' (s.trans t) j (r.back s) q⟩
def RepB (K : PySem.W.Frag) (W : Wd) (G H : Hp) (d : D) (v : V) : Prop :=
  Rep K G d v ∨ ∃ a, v = .ref a ∧ G a = none ∧ ¬ W.rg a ∧ OwnAt K G H a d
theorem RepB.step {K : PySem.W.Frag} {W : Wd} {G H G' H' : Hp} {d : D} {v : V} (r : RepB K W G H d v) (s : Step W H G H' G') : RepB K W G' H' d v := by
  rcases r with r | ⟨a, e, g, h4, h5⟩
  · exact .inl (r.mono s.le)
  · refine .inr ⟨a, e, ?_, h4, h5.mono s.le fun o q => s.fr _ o q h4⟩
    cases q : G' a with
    | none => rfl
    | some o =>
      rcases s.new a (by rw [q]; exact fun z => nomatch z) with z | ⟨z, _⟩
      · exact (z g).elim
      · obtain ⟨o', z'⟩ := h5.there
        rw [z] at z'; cases z'
inductive RepBL (K : PySem.W.Frag) (W : Wd) (G H : Hp) : List D → List V → Prop where
  | nil : RepBL K W G H [] []
  | cons {d : D} {v : V} {ds : List D} {vs : List V} : RepB K W G H d v → RepBL K W G H ds vs → RepBL K W G H (d :: ds) (v :: vs)
theorem RepBL.step {K : PySem.W.Frag} {W : Wd} {G H G' H' : Hp} (s : Step W H G H' G') : ∀ {ds : List D} {vs : List V}, RepBL K W G H ds vs → RepBL K W G' H' ds vs
  | _, _, .nil => .nil
  | _, _, .cons r t => .cons (r.step s) (RepBL.step s t)

def ED (K : PySem.W.Frag) (W : WX) (t : TE) (δ : DE) : Prop :=
  ∀ (B : Bs) (σ : St) (H : Hp) (ρ : Env) (n : Nat) (G : Hp) (α : Nat → Addr) (Q : VK) (x : DX) (q : DQ), B.K = K → RelB B σ H ρ n G α → XL B W σ H G x → δ x ρ n q →
    (∀ v H' G' d n', Step B.W H G H' G' → B.W.J n' H' → Rep K G' d v → q d n' → Q v H') → t σ H Q
def EB (K : PySem.W.Frag) (W : WX) (t : TE) (δ : DE) : Prop :=
  ∀ (B : Bs) (σ : St) (H : Hp) (ρ : Env) (n : Nat) (G : Hp) (α : Nat → Addr) (Q : VK) (x : DX) (q : DQ), B.K = K → RelB B σ H ρ n G α → XL B W σ H G x → δ x ρ n q →
    (∀ v H' G' d n', Step B.W H G H' G' → B.W.J n' H' → RepB K B.W G' H' d v → q d n' → Q v H') → t σ H Q
def EF (K : PySem.W.Frag) (W : WX) (t : TE) (δ : DE) : Prop :=
  ∀ (B : Bs) (σ : St) (H : Hp) (ρ : Env) (n : Nat) (G : Hp) (α : Nat → Addr) (Q : VK) (x : DX) (q : DQ), B.K = K → RelB B σ H ρ n G α → XL B W σ H G x → δ x ρ n q →
    (∀ a H' G' d n', Step B.W H G H' G' → B.W.J n' H' → H a = none → G' a = none → ¬ B.W.rg a → OwnAt K G' H' a d → q d n' → Q (.ref a) H') → t σ H Q
def ET (K : PySem.W.Frag) (W : WX) (t : TT) (δ : DT) : Prop :=
  ∀ (B : Bs) (σ : St) (H : Hp) (ρ : Env) (n : Nat) (G : Hp) (α : Nat → Addr) (Q : Bool → Hp → Prop) (x : DX) (q : Bool → Nat → Prop), B.K = K → RelB B σ H ρ n G α → XL B W σ H G x → δ x ρ n q →
    (∀ b H' G' n', Step B.W H G H' G' → B.W.J n' H' → q b n' → Q b H') → t σ H Q
def EA (K : PySem.W.Frag) (W : WX) (t : TA) (δ : DA) : Prop :=
  ∀ (B : Bs) (σ : St) (H : Hp) (ρ : Env) (n : Nat) (G : Hp) (α : Nat → Addr) (Q : List V → Hp → Prop) (x : DX) (q : List D → Nat → Prop), B.K = K → RelB B σ H ρ n G α → XL B W σ H G x → δ x ρ n q →
    (∀ vs H' G' ds n', Step B.W H G H' G' → B.W.J n' H' → RepL K G' ds vs → q ds n' → Q vs H') → t σ H Q
def EAB (K : PySem.W.Frag) (W : WX) (t : TA) (δ : DA) : Prop :=
  ∀ (B : Bs) (σ : St) (H : Hp) (ρ : Env) (n : Nat) (G : Hp) (α : Nat → Addr) (Q : List V → Hp → Prop) (x : DX) (q : List D → Nat → Prop), B.K = K → RelB B σ H ρ n G α → XL B W σ H G x → δ x ρ n q →
    (∀ vs H' G' ds n', Step B.W H G H' G' → B.W.J n' H' → RepBL K B.W G' H' ds vs → q ds n' → Q vs H') → t σ H Q
def PD (X : Cx) (W : WX) (e : Expr) (δ : DE) : Prop := ∃ t, PE X e t ∧ ED X.K W t δ
def PB (X : Cx) (W : WX) (e : Expr) (δ : DE) : Prop := ∃ t, PE X e t ∧ EB X.K W t δ
def PF (X : Cx) (W : WX) (e : Expr) (δ : DE) : Prop := ∃ t, PE X e t ∧ EF X.K W t δ
def PTD (X : Cx) (W : WX) (e : Expr) (δ : DT) : Prop := ∃ t, PT X e t ∧ ET X.K W t δ
def PWD (X : Cx) (W : WX) (e : Expr) (δ : DT) : Prop := ∃ t, PW X e t ∧ ET X.K W t δ
def PAD (X : Cx) (W : WX) (es : List Expr) (δ : DA) : Prop := ∃ t, PA X es t ∧ EA X.K W t δ
def PAB (X : Cx) (W : WX) (es : List Expr) (δ : DA) : Prop := ∃ t, PA X es t ∧ EAB X.K W t δ
section
variable {X : Cx} {W : WX} {e : Expr} {δ : DE}
theorem PD.pb (h : PD X W e δ) : PB X W e δ := by
  obtain ⟨t, p, h⟩ := h
  exact ⟨t, p, fun B σ H ρ n G α Q x q hK R hx hd k => h B σ H ρ n G α Q x q hK R hx hd fun v H' G' d n' s j r => k v H' G' d n' s j (.inl r)⟩
theorem PWD.pt {δ : DT} (h : PWD X W e δ) : PTD X W e δ := by
  obtain ⟨t, p, h⟩ := h
  exact ⟨t, p.pt, h⟩
def LkP (Q : Hp → Prop) (H : Hp) : Prop := Q H ∨ ∃ d u, H d = some u ∧ Mut (some u) ∧ ∀ od, Q (upd H d (.frz od u))
def tLk (t : TE) : TE := fun σ H Q => t σ H fun v H' => LkP (Q v) H'
theorem LkP.inv {X : Cx} {pins : List (Addr × Obj)} {σ : St} {H : Hp} {s : Shared} {Q : Hp → Prop} (I : Inv X pins σ H s) (h : LkP Q H) : ∃ H', Inv X pins σ H' s ∧ Q H' := by
  rcases h with h | ⟨d, u, e, mu, h⟩
  · exact ⟨H, I, h⟩
  · obtain ⟨od, I1⟩ := I.lock e mu
    exact ⟨_, I1, h od⟩
theorem pe_lk {X : Cx} {e : Expr} {t : TE} (h : PE X e t) : PE X e (tLk t) := by
  refine ⟨fun pins s σ H Q I hw => thn (h.run pins s σ H _ I hw) fun v s1 ⟨x, H1, I1, r, q⟩ => ?_⟩
  obtain ⟨H2, I2, q⟩ := LkP.inv I1 q
  exact ⟨x, H2, I2, r, q⟩
theorem pss_lk {X : Cx} {st : List Stmt} {t : TS} (h : PSs X st t) : PSs X st (fun D σ H => LkP (t D σ) H) := by
  refine ⟨fun pins s σ H D I hw => ?_⟩
  obtain ⟨H2, I2, q⟩ := LkP.inv I hw
  exact h.run pins s σ H2 D I2 q
theorem freeze {K : PySem.W.Frag} {G H : Hp} {a : Addr} {d : D} {Q : Hp → Prop} (le : Le G H) (hg : G a = none) (h : OwnAt K G H a d) (k : ∀ H1 o, H1 a = some o → (∀ b, b ≠ a → H1 b = H b) → Le (upd G a o) H1 → Le G (upd G a o) → Rep K (upd G a o) d (.ref a) → Q H1) : LkP Q H := by
  have l2 : ∀ o, Le G (upd G a o) := fun o => .of_same fun b u q => by rw [upd_ne (ne_of_none q hg)]; exact q
  have l1 : ∀ o, H a = some o → Le (upd G a o) H := fun o e b u q => by
    by_cases z : b = a
    · subst z
      rw [upd_same] at q
      cases q
      exact ⟨_, e, rfl⟩
    · rw [upd_ne z] at q
      exact le b u q
  cases d with
  | lst ds =>
    obtain ⟨vs, e, r⟩ := h
    exact .inl (k H _ e (fun _ _ => rfl) (l1 _ e) (l2 _) (.lst upd_same (r.mono (l2 _))))
  | dct ds =>
    obtain ⟨vs, e, r⟩ := h
    refine .inr ⟨a, _, e, trivial, fun od => k _ _ upd_same (fun b hb => upd_ne hb) (fun b u q => ?_) (l2 _) (.dct upd_same (r.mono (l2 _)))⟩
    by_cases z : b = a
    · subst z
      rw [upd_same] at q ⊢
      cases q
      exact ⟨_, rfl, rfl⟩
    · rw [upd_ne z] at q ⊢
      exact le b u q
  | obj c fs =>
    obtain ⟨dx, ws, e, r⟩ := h
    exact .inl (k H _ e (fun _ _ => rfl) (l1 _ e) (l2 _) (.obj upd_same (r.mono (l2 _))))
  | _ => exact h.elim
theorem freezeL {K : PySem.W.Frag} {G H : Hp} {a : Addr} {d : D} (le : Le G H) (hg : G a = none) (h : OwnAt K G H a d) (nd : ∀ kvs, d ≠ .dct kvs) : ∃ o, H a = some o ∧ Le (upd G a o) H ∧ Le G (upd G a o) ∧ Rep K (upd G a o) d (.ref a) := by
  have go : ∀ o, H a = some o → Le (upd G a o) H ∧ Le G (upd G a o) := fun o e => by
    refine ⟨fun b u q => ?_, .of_same fun b u q => by rw [upd_ne (ne_of_none q hg)]; exact q⟩
    by_cases z : b = a
    · subst z
      rw [upd_same] at q
      cases q
      exact ⟨_, e, rfl⟩
    · rw [upd_ne z] at q
      exact le b u q
  cases d with
  | lst ds =>
    obtain ⟨vs, e, r⟩ := h
    obtain ⟨l1, l2⟩ := go _ e
    exact ⟨_, e, l1, l2, .lst upd_same (r.mono l2)⟩
  | dct ds => exact (nd _ rfl).elim
  | obj c fs =>
    obtain ⟨dx, ws, e, r⟩ := h
    obtain ⟨l1, l2⟩ := go _ e
    exact ⟨_, e, l1, l2, .obj upd_same (r.mono l2)⟩
  | _ => exact h.elim
theorem Step.frozen {W : Wd} {H G H' G' H1 : Hp} {a : Addr} {o : HO} (s : Step W H G H' G') (np : H a = none) (nr : ¬ W.rg a) (off : ∀ b, b ≠ a → H1 b = H' b) (l1 : Le (upd G' a o) H1) (l2 : Le G' (upd G' a o)) : Step W H G H1 (upd G' a o) := by
  refine ⟨fun b u e r => by rw [off b (ne_of_none e np)]; exact s.fr b u e r, s.le.trans l2, l1, fun b z => ?_⟩
  by_cases q : b = a
  · subst q
    exact .inr ⟨np, nr⟩
  · rw [upd_ne q] at z
    exact s.new b z
theorem PF.pd (h : PF X W e δ) : PD X W e δ := by
  obtain ⟨t, p, h⟩ := h
  refine ⟨_, pe_lk p, fun B σ H ρ n G α Q x q hK R hx hd k => h B σ H ρ n G α _ x q hK R hx hd fun a H' G' d n' s j np ng nr o hq => ?_⟩
  refine freeze s.hh ng o fun H1 ob e off l1 l2 r => ?_
  exact k _ H1 (upd G' a ob) d n' (s.frozen np nr off l1 l2) (B.W.stable _ _ _ (fun b hb => off b fun z => nr (z ▸ hb)) (fun b e q => (off b fun z => o.noExt (z ▸ q)).trans q) j) r hq
theorem PF.pb (h : PF X W e δ) : PB X W e δ := h.pd.pb
end

def dVar (i : Nat) : DE := fun _ ρ n q => match ρ[i]? with
  | some (some (.val d)) => q d n
  | some (some (.gst r _)) => q r n
  | _ => False
def lkG : List (Addr × D) → Addr → Option D
  | [], _ => none
  | g :: gs, b => if g.1 = b then some g.2 else lkG gs b
def resG (gs : List (Addr × D)) : D → D
  | .hnd a => (lkG gs a).getD (.hnd a)
  | d => d
theorem lkG_mem {b : Addr} {d : D} : ∀ {gs : List (Addr × D)}, lkG gs b = some d → (b, d) ∈ gs
  | [], h => nomatch h
  | g :: gs, h => by
    unfold lkG at h
    split at h
    · rename_i e
      cases h
      rw [← e]
      exact List.mem_cons_self ..
    · exact List.mem_cons_of_mem _ (lkG_mem h)
def bVar (i : Nat) : DE := fun _ ρ n q => match ρ[i]? with
  | some (some (.val d)) => q d n
  | some (some (.own d)) => q d n
  | some (some (.gst r gs)) => q (resG gs r) n
  | _ => False
def dC (d : D) : DE := fun _ _ n q => q d n
section
variable {X : Cx} {W : WX} {pos : Pos}
theorem pd_var (i : Nat) {x : Str} (hN : X.N[i]? = some x := by rfl) (hv : Vis X.env.scope x := by first | exact Or.inl rfl | exact Or.inr (Or.inl rfl) | exact Or.inr (Or.inr rfl)) (hd : (x == ("__debug__" : Str)) = false := by decide)
    (hcd : (x == ("__classdict__" : Str)) = false := by decide) : PD X W (.Name x pos) (dVar i) := by
  refine ⟨tVar i, pe_var hN hv hd hcd, fun B σ H ρ n G α Q x q hK R hx h k => ?_⟩
  unfold dVar at h
  split at h
  · rename_i d e
    obtain ⟨v, e1, r⟩ := R.val i d e
    exact ⟨v, e1, k v H G d n (.refl _ R.le) R.J (hK ▸ r) h⟩
  · rename_i r gs e
    obtain ⟨⟨v, e1, r⟩, _⟩ := R.gh.gst i r gs e
    exact ⟨v, e1, k v H G _ n (.refl _ R.le) R.J (hK ▸ r) h⟩
  · exact h.elim
theorem pb_var (i : Nat) {x : Str} (hN : X.N[i]? = some x := by rfl) (hv : Vis X.env.scope x := by first | exact Or.inl rfl | exact Or.inr (Or.inl rfl) | exact Or.inr (Or.inr rfl)) (hd : (x == ("__debug__" : Str)) = false := by decide)
    (hcd : (x == ("__classdict__" : Str)) = false := by decide) : PB X W (.Name x pos) (bVar i) := by
  refine ⟨tVar i, pe_var hN hv hd hcd, fun B σ H ρ n G α Q x q hK R hx h k => ?_⟩
  unfold bVar at h
  split at h
  · rename_i d e
    obtain ⟨v, e1, r⟩ := R.val i d e
    exact ⟨v, e1, k v H G d n (.refl _ R.le) R.J (.inl (hK ▸ r)) h⟩
  · rename_i d e
    obtain ⟨e1, g, _, nr, o⟩ := R.own i d e
    exact ⟨_, e1, k _ H G d n (.refl _ R.le) R.J (.inr ⟨_, rfl, g, nr, hK ▸ o⟩) h⟩
  · rename_i r gs e
    obtain ⟨⟨v, e1, hr⟩, _⟩ := R.gh.gst i r gs e
    refine ⟨v, e1, k v H G _ n (.refl _ R.le) R.J ?_ h⟩
    cases r with
    | hnd a =>
      cases hr
      cases q : lkG gs a with
      | none =>
        show RepB X.K B.W G H ((lkG gs a).getD (.hnd a)) _
        rw [q]
        exact .inl (.hnd a)
      | some d =>
        obtain ⟨h1, _, h3, h4⟩ := R.gh.at_ i _ gs e _ (lkG_mem q)
        show RepB X.K B.W G H ((lkG gs a).getD (.hnd a)) _
        rw [q]
        exact .inr ⟨a, rfl, h1, h3, hK ▸ h4⟩
    | _ => exact .inl (hK ▸ hr)
  · exact h.elim
theorem pd_c {e : Expr} {v : V} {d : D} (h : PE X e (tC v)) (r : ∀ G, Rep X.K G d v) : PD X W e (dC d) :=
  ⟨tC v, h, fun B σ H ρ n G α Q x q hK R hx h k => k v H G d n (.refl _ R.le) R.J (r G) h⟩
theorem pd_int {i j} : PD X W (.Constant (.int i) j pos) (dC (.int i)) := pd_c pe_int fun _ => .int i
theorem pd_bl {b j} : PD X W (.Constant (.bool b) j pos) (dC (.bl b)) := pd_c pe_bl fun _ => .bl b
theorem pd_non {j} : PD X W (.Constant .none j pos) (dC .non) := pd_c pe_non fun _ => .non
theorem pd_str {x j} : PD X W (.Constant (.str x) j pos) (dC (.str x)) := pd_c pe_str fun _ => .str x
end

abbrev F2 := D → D → (D → Prop) → Prop
def DOp (K : PySem.W.Frag) (r : R2) (f : F2) : Prop := ∀ (W : Wd) (H G : Hp) (x y : V) (dx dy : D) (Q : VK) (k : D → Prop), Le G H → RepB K W G H dx x → RepB K W G H dy y → f dx dy k →
  (∀ v H' G' d, StepP H G H' G' → Rep K G' d v → k d → Q v H') → r x y H Q
def dOp (f : F2) (a b : DE) : DE := fun x ρ n q => a x ρ n fun u n1 => b x ρ n1 fun v n2 => f u v fun z => q z n2
section
variable {X : Cx} {W : WX} {a b : Expr} {δa δb : DE} {pos : Pos}
theorem ed_op {K : PySem.W.Frag} {r : R2} {f : F2} {ta tb : TE} (hr : DOp K r f) (ha : EB K W ta δa) (hb : EB K W tb δb) : ED K W (tOp r ta tb) (dOp f δa δb) := by
  intro B σ H ρ n G α Q x q hK R hx h k
  refine ha B σ H ρ n G α _ x _ hK R hx h fun v1 H1 G1 d1 n1 s1 j1 r1 h1 => ?_
  refine hb B σ H1 ρ n1 G1 α _ x _ hK (R.step s1 j1) (hx.step s1) h1 fun v2 H2 G2 d2 n2 s2 j2 r2 h2 => ?_
  exact hr B.W H2 G2 v1 v2 d1 d2 Q _ s2.hh (r1.step s2) r2 h2 fun v H' G' d s r hq => k v H' G' d n2 (s1.trans (s2.trans (s.step j2))) (s.J j2) r hq
theorem pd_op {op : Operator} {r : R2} {f : F2} (ho : OpR X (binaryOp op) r) (hr : DOp X.K r f) (ha : PB X W a δa) (hb : PB X W b δb) : PD X W (.BinOp a op b pos) (dOp f δa δb) := by
  obtain ⟨ta, pa, ea⟩ := ha
  obtain ⟨tb, pb, eb⟩ := hb
  exact ⟨_, pe_op ho pa pb, ed_op hr ea eb⟩
theorem pd_cmp {op : CmpOp} {r : R2} {f : F2} (ho : OpR X (compareOp op) r) (hr : DOp X.K r f) (ha : PB X W a δa) (hb : PB X W b δb) (hm : behindInMarks op b = false) : PD X W (.Compare a [op] [b] pos) (dOp f δa δb) := by
  obtain ⟨ta, pa, ea⟩ := ha
  obtain ⟨tb, pb, eb⟩ := hb
  exact ⟨_, pe_cmpR ho pa pb hm, ed_op hr ea eb⟩
def bq (q : Bool → Nat → Prop) : DQ := fun d n => match d with
  | .bl b => q b n
  | _ => False
def dTest (δ : DE) : DT := fun x ρ n q => δ x ρ n (bq q)
theorem et_of {K : PySem.W.Frag} {t : TE} {δ : DE} (h : EB K W t δ) : ET K W (fun σ H Q => t σ H fun x H' => ∃ k, x = .bl k ∧ Q k H') (dTest δ) := by
  intro B σ H ρ n G α Q x q hK R hx hd k
  refine h B σ H ρ n G α _ x _ hK R hx hd fun v H' G' d n' s j r hq => ?_
  cases d with
  | bl b =>
    rcases r with r | ⟨a, e, _, _, o⟩
    · cases r
      exact ⟨b, rfl, k b H' G' n' s j hq⟩
    · exact o.elim
  | _ => exact hq.elim
theorem ED.eb {K : PySem.W.Frag} {t : TE} {δ : DE} (h : ED K W t δ) : EB K W t δ := fun B σ H ρ n G α Q x q hK R hx hd k => h B σ H ρ n G α Q x q hK R hx hd fun v H' G' d n' s j r => k v H' G' d n' s j (.inl r)
theorem pt_cmpD {op : CmpOp} {r : R2} {f : F2} (ho : OpR X (compareOp op) r) (hr : DOp X.K r f) (ha : PB X W a δa) (hb : PB X W b δb) (hm : behindInMarks op b = false) : PTD X W (.Compare a [op] [b] pos) (dTest (dOp f δa δb)) := by
  obtain ⟨ta, pa, ea⟩ := ha
  obtain ⟨tb, pb, eb⟩ := hb
  exact ⟨_, pt_cmpR ho pa pb hm, et_of (ed_op hr ea eb).eb⟩
theorem pt_valD {e : Expr} {δ : DE} (h : PB X W e δ) (he : ∀ whole, isTrue e X.env whole = (do let v ← whole; standAt e.pos; holding [v] (truthy v)) := by intro _; rfl) : PTD X W e (dTest δ) := by
  obtain ⟨t, p, h⟩ := h
  exact ⟨_, pt_val p he, et_of h⟩
end

section
variable {K : PySem.W.Frag} {W : Wd} {G H : Hp} {v : V}
theorem RepB.int {i : Int} (r : RepB K W G H (.int i) v) : v = .int i := by
  rcases r with r | ⟨a, e, _, _, o⟩
  · cases r; rfl
  · exact o.elim
theorem RepB.bl {b : Bool} (r : RepB K W G H (.bl b) v) : v = .bl b := by
  rcases r with r | ⟨a, e, _, _, o⟩
  · cases r; rfl
  · exact o.elim
theorem RepB.str {x : Str} (r : RepB K W G H (.str x) v) : v = .str x := by
  rcases r with r | ⟨a, e, _, _, o⟩
  · cases r; rfl
  · exact o.elim
theorem RepB.non (r : RepB K W G H .non v) : v = .non := by
  rcases r with r | ⟨a, e, _, _, o⟩
  · cases r; rfl
  · exact o.elim
theorem RepB.lst {ds : List D} (le : Le G H) (r : RepB K W G H (.lst ds) v) : ∃ a vs, v = .ref a ∧ H a = some (.lst vs) ∧ RepL K G ds vs := by
  rcases r with r | ⟨a, e, _, _, o⟩
  · cases r with
    | lst e r => exact ⟨_, _, rfl, le.lst e, r⟩
  · obtain ⟨vs, e1, r⟩ := o
    exact ⟨a, vs, e, e1, r⟩
theorem RepB.tup {ds : List D} (le : Le G H) (r : RepB K W G H (.tup ds) v) : ∃ a vs, v = .ref a ∧ SqT K H a vs ∧ RepL K G ds vs := by
  rcases r with r | ⟨a, e, _, _, o⟩
  · cases r with
    | tup e r => exact ⟨_, _, rfl, le.sqT e, r⟩
  · exact o.elim
theorem RepB.dct {kvs : List (Key × D)} (le : Le G H) (r : RepB K W G H (.dct kvs) v) : ∃ a ws, v = .ref a ∧ Rd H a (.dK ws) ∧ RepK K G kvs ws := by
  rcases r with r | ⟨a, e, _, _, o⟩
  · cases r with
    | dct e r => exact ⟨_, _, rfl, .inr ⟨_, le.get e⟩, r⟩
  · obtain ⟨vs, e1, r⟩ := o
    exact ⟨a, vs, e, .inl e1, r⟩
theorem RepB.obj {c : Str} {fs : List (Str × D)} (le : Le G H) (r : RepB K W G H (.obj c fs) v) : ∃ a dx ws, v = .ref a ∧ H a = some (.ins (ca K c) dx ws) ∧ RepF K G fs ws := by
  rcases r with r | ⟨a, e, _, _, o⟩
  · cases r with
    | obj e r => exact ⟨_, _, _, rfl, le.ins e, r⟩
  · obtain ⟨dx, ws, e1, r⟩ := o
    exact ⟨a, dx, ws, e, e1, r⟩
end
end DL

end

section
set_option autoImplicit false
namespace DL
open PySem PySem.Spec L2

def fI (C : Int → Int → Prop) (g : Int → Int → D) : F2 := fun x y k => match x, y with
  | .int i, .int j => C i j ∧ k (g i j)
  | _, _ => False
def fI0 (g : Int → Int → D) : F2 := fun x y k => match x, y with
  | .int i, .int j => k (g i j)
  | _, _ => False
section
variable {K : PySem.W.Frag}
theorem dop_I {C : Int → Int → Prop} {gv : Int → Int → V} {g : Int → Int → D} (h : ∀ i j G, Rep K G (g i j) (gv i j)) : DOp K (rI C gv) (fI C g) := by
  intro W H G x y dx dy Q k le rx ry hf hk
  cases dx with
  | int i =>
    cases dy with
    | int j => exact ⟨i, j, rx.int, ry.int, hf.1, hk _ H G _ (.refl le) (h i j G) hf.2⟩
    | _ => exact hf.elim
  | _ => exact hf.elim
theorem dop_I0 {gv : Int → Int → V} {g : Int → Int → D} (h : ∀ i j G, Rep K G (g i j) (gv i j)) : DOp K (rI0 gv) (fI0 g) := by
  intro W H G x y dx dy Q k le rx ry hf hk
  cases dx with
  | int i =>
    cases dy with
    | int j => exact ⟨i, j, rx.int, ry.int, hk _ H G _ (.refl le) (h i j G) hf⟩
    | _ => exact hf.elim
  | _ => exact hf.elim
def fOr (f g : F2) : F2 := fun x y k => f x y k ∨ g x y k
theorem dop_or {r r' : R2} {f f' : F2} (h : DOp K r f) (h' : DOp K r' f') : DOp K (fun x y H Q => r x y H Q ∨ r' x y H Q) (fOr f f') := by
  intro W H G x y dx dy Q k le rx ry hf hk
  rcases hf with hf | hf
  · exact .inl (h W H G x y dx dy Q k le rx ry hf hk)
  · exact .inr (h' W H G x y dx dy Q k le rx ry hf hk)
theorem DOp.imp {r : R2} {f f' : F2} (h : DOp K r f) (hf : ∀ x y k, f' x y k → f x y k) : DOp K r f' :=
  fun W H G x y dx dy Q k le rx ry q hk => h W H G x y dx dy Q k le rx ry (hf _ _ _ q) hk
end
def fAdd : F2 := fun x y k => match x, y with
  | .int i, .int j => k (.int (i + j))
  | .lst a, .lst b => a.length + b.length ≤ 16777216 ∧ k (.lst (a ++ b))
  | .str a, .str b => a.length + b.length ≤ 16777216 ∧ k (.str (a ++ b))
  | _, _ => False
def fSub : F2 := fI0 fun i j => .int (i - j)
def MulOk (i j : Int) : Prop := CMul i j ∨ CMulW i j
def fMul : F2 := fun x y k => match x, y with
  | .int i, .int j => MulOk i j ∧ k (.int (i * j))
  | .lst a, .int j => (-(2 ^ 63) ≤ j ∧ j < 2 ^ 63 ∧ a.length * j.toNat ≤ 16777216) ∧ k (.lst (List.replicate j.toNat a).flatten)
  | _, _ => False
def fDiv : F2 := fI (fun _ j => 0 < j ∧ j < 1073741824) fun i j => .int (i / j)
def fMod : F2 := fI (fun _ j => 0 < j) fun i j => .int (i % j)
def fPow : F2 := fI (fun i j => 0 ≤ j ∧ j ≤ 1000000 ∧ i.natAbs < 2 ^ 64) fun i j => .int (i ^ j.toNat)
def fLt : F2 := fI0 fun i j => .bl (decide (i < j))
def fLe : F2 := fI0 fun i j => .bl (decide (i ≤ j))
def fGt : F2 := fI0 fun i j => .bl (decide (j < i))
def fGe : F2 := fI0 fun i j => .bl (decide (j ≤ i))
section
variable {K : PySem.W.Frag} {X : Cx}
theorem dop_cat : DOp K rCat (fun x y k => match x, y with | .lst a, .lst b => a.length + b.length ≤ 16777216 ∧ k (.lst (a ++ b)) | _, _ => False) := by
  intro W H G x y dx dy Q k le rx ry hf hk
  cases dx with
  | lst a =>
    cases dy with
    | lst b =>
      obtain ⟨p, vs, e1, h1, r1⟩ := rx.lst le
      obtain ⟨p', us, e2, h2, r2⟩ := ry.lst le
      obtain ⟨hz, hf⟩ := hf
      have l1 := r1.length
      have l2 := r2.length
      refine ⟨p, p', vs, us, e1, e2, h1, h2, by rw [sizeLine_eq]; omega, fun z np => ?_⟩
      have s := StepP.made (o := .lst (vs ++ us)) le np
      exact hk _ _ _ _ s (.lst upd_same ((r1.append r2).mono s.le)) hf
    | _ => exact hf.elim
  | _ => exact hf.elim
theorem dop_addS : DOp K (fun x y H Q => ∃ i j, x = .str i ∧ y = .str j ∧ i.length + j.length ≤ sizeLine ∧ Q (.str (i ++ j)) H) (fun x y k => match x, y with | .str a, .str b => a.length + b.length ≤ 16777216 ∧ k (.str (a ++ b)) | _, _ => False) := by
  intro W H G x y dx dy Q k le rx ry hf hk
  cases dx with
  | str a =>
    cases dy with
    | str b => exact ⟨a, b, rx.str, ry.str, by rw [sizeLine_eq]; exact hf.1, hk _ H G _ (.refl le) (.str _) hf.2⟩
    | _ => exact hf.elim
  | _ => exact hf.elim
theorem op_addD : OpR X (binaryOp .Add) (fun x y H Q => rI0 (fun i j => .int (i + j)) x y H Q ∨ (rCat x y H Q ∨ (∃ i j, x = .str i ∧ y = .str j ∧ i.length + j.length ≤ sizeLine ∧ Q (.str (i ++ j)) H))) := op_add.or (op_cat.or op_add_str)
theorem dop_add : DOp K (fun x y H Q => rI0 (fun i j => .int (i + j)) x y H Q ∨ (rCat x y H Q ∨ (∃ i j, x = .str i ∧ y = .str j ∧ i.length + j.length ≤ sizeLine ∧ Q (.str (i ++ j)) H))) fAdd :=
  (dop_or (dop_I0 (g := fun i j => .int (i + j)) fun i j G => .int _) (dop_or dop_cat dop_addS)).imp fun x y k h => by
    unfold fAdd at h
    split at h
    · exact .inl h
    · exact .inr (.inl h)
    · exact .inr (.inr h)
    · exact h.elim
theorem dop_sub : DOp K (rI0 fun i j => .int (i - j)) fSub := dop_I0 fun i j G => .int _
theorem dop_rep : DOp K rRep (fun x y k => match x, y with | .lst a, .int j => (-(2 ^ 63) ≤ j ∧ j < 2 ^ 63 ∧ a.length * j.toNat ≤ 16777216) ∧ k (.lst (List.replicate j.toNat a).flatten) | _, _ => False) := by
  intro W H G x y dx dy Q k le rx ry hf hk
  cases dx with
  | lst a =>
    cases dy with
    | int j =>
      obtain ⟨p, vs, e1, h1, r1⟩ := rx.lst le
      obtain ⟨⟨h2, h3, h4⟩, hf⟩ := hf
      have l1 := r1.length
      refine ⟨p, j, vs, e1, ry.int, h1, h2, h3, by rw [sizeLine_eq, ← l1]; exact h4, fun z np => ?_⟩
      have s := StepP.made (o := .lst (List.replicate j.toNat vs).flatten) le np
      exact hk _ _ _ _ s (.lst upd_same ((r1.rep j.toNat).mono s.le)) hf
    | _ => exact hf.elim
  | _ => exact hf.elim
theorem op_mulD : OpR X (binaryOp .Mult) (fun x y H Q => rI CMul (fun i j => .int (i * j)) x y H Q ∨ (rI CMulW (fun i j => .int (i * j)) x y H Q ∨ rRep x y H Q)) := op_mul.or (op_mulW.or op_rep)
theorem dop_mul : DOp K (fun x y H Q => rI CMul (fun i j => .int (i * j)) x y H Q ∨ (rI CMulW (fun i j => .int (i * j)) x y H Q ∨ rRep x y H Q)) fMul :=
  (dop_or (dop_I (g := fun i j => .int (i * j)) fun i j G => .int _) (dop_or (dop_I (g := fun i j => .int (i * j)) fun i j G => .int _) dop_rep)).imp fun x y k h => by
    unfold fMul at h
    split at h
    · rcases h with ⟨h | h, q⟩
      · exact .inl ⟨h, q⟩
      · exact .inr (.inl ⟨h, q⟩)
    · exact .inr (.inr h)
    · exact h.elim
theorem dop_mod : DOp K (rI (fun _ j => 0 < j) fun i j => .int (i % j)) fMod := dop_I fun i j G => .int _
theorem dop_pow : DOp K (rI CPow fun i j => .int (i ^ j.toNat)) fPow := dop_I fun i j G => .int _
theorem dop_gt : DOp K (rI0 fun i j => .bl (decide (j < i))) fGt := dop_I0 fun i j G => .bl _
end
section
variable {X : Cx} {W : WX} {a b : Expr} {δa δb : DE} {pos : Pos}
theorem pd_add (ha : PB X W a δa) (hb : PB X W b δb) : PD X W (.BinOp a .Add b pos) (dOp fAdd δa δb) := pd_op op_addD dop_add ha hb
theorem pd_sub (ha : PB X W a δa) (hb : PB X W b δb) : PD X W (.BinOp a .Sub b pos) (dOp fSub δa δb) := pd_op op_sub dop_sub ha hb
theorem pd_mul (ha : PB X W a δa) (hb : PB X W b δb) : PD X W (.BinOp a .Mult b pos) (dOp fMul δa δb) := pd_op op_mulD dop_mul ha hb
theorem pd_mod (ha : PB X W a δa) (hb : PB X W b δb) : PD X W (.BinOp a .Mod b pos) (dOp fMod δa δb) := pd_op op_mod dop_mod ha hb
theorem pd_pow (ha : PB X W a δa) (hb : PB X W b δb) : PD X W (.BinOp a .Pow b pos) (dOp fPow δa δb) := pd_op op_pow dop_pow ha hb
end

mutual
def pyD : D → PyData
  | .non => .none
  | .bl b => .bool b
  | .int i => .int i
  | .str x => .str x
  | .lst ds => .list (pyL ds)
  | .tup ds => .tuple (pyL ds)
  | .dct _ => .dict []
  | .obj _ _ => .dict []
  | .hnd _ => .dict []
  | .exc _ _ _ _ => .dict []
  | .rol _ => .dict []
def pyL : List D → List PyData
  | [] => []
  | d :: ds => pyD d :: pyL ds
end
mutual
theorem Rep.dp {K : PySem.W.Frag} {G : Hp} : ∀ {d : D} {v : V}, Rep K G d v → (pyD d).canLay0 = true → Dp K G v (pyD d)
  | _, _, .non, _ => .non
  | _, _, .bl b, _ => .bl b
  | _, _, .int i, _ => .int i
  | _, _, .str x, _ => .str x
  | _, _, .lst e r, h => .lst (SqL.of e) (RepL.dp r (by simpa [pyD, PyData.canLay0] using h))
  | _, _, .tup e r, h => .tup e (RepL.dp r (by simpa [pyD, PyData.canLay0] using h))
  | _, _, .dct _ _, h => by simp [pyD, PyData.canLay0] at h
  | _, _, .obj _ _, h => by simp [pyD, PyData.canLay0] at h
  | _, _, .hnd _, h => by simp [pyD, PyData.canLay0] at h
  | _, _, .exc _ _, h => by simp [pyD, PyData.canLay0] at h
  | _, _, .rol _ _, h => by simp [pyD, PyData.canLay0] at h
theorem RepL.dp {K : PySem.W.Frag} {G : Hp} : ∀ {d : List D} {v : List V}, RepL K G d v → PyData.canLayAll0 (pyL d) = true → DpAll K G v (pyL d)
  | _, _, .nil, _ => .nil
  | _, _, .cons (d := d) (ds := ds) r t, h => by
    have h' := Bool.and_eq_true_iff.mp (show (PyData.canLay0 (pyD d) && PyData.canLayAll0 (pyL ds)) = true from h)
    exact .cons (Rep.dp r h'.1) (RepL.dp t h'.2)
end
theorem Le.sqL {G H : Hp} (h : Le G H) {K : PySem.W.Frag} {a : Addr} {vs : List V} (e : SqL K G a vs) : SqL K H a vs := by
  rcases e with (e | ⟨x, e⟩) | e
  · exact .inl (.inl (h.lst e))
  · obtain ⟨o, e', c⟩ := h a _ e
    exact .inl (.inr ⟨x, by rw [e', c]⟩)
  · exact .inr e
mutual
theorem dp_mono {K : PySem.W.Frag} {G H : Hp} (le : Le G H) : ∀ {v : V} {d : PyData}, Dp K G v d → Dp K H v d
  | _, _, .non => .non
  | _, _, .bl b => .bl b
  | _, _, .int i => .int i
  | _, _, .str x => .str x
  | _, _, .lst e r => .lst (le.sqL e) (dpAll_mono le r)
  | _, _, .tup e r => .tup (le.sqT e) (dpAll_mono le r)
theorem dpAll_mono {K : PySem.W.Frag} {G H : Hp} (le : Le G H) : ∀ {v : List V} {d : List PyData}, DpAll K G v d → DpAll K H v d
  | _, _, .nil => .nil
  | _, _, .cons r t => .cons (dp_mono le r) (dpAll_mono le t)
end
theorem RepB.dp {K : PySem.W.Frag} {W : Wd} {G H : Hp} {d : D} {v : V} (le : Le G H) (r : RepB K W G H d v) (h : SeqAt.shaped (pyD d) = true) : Dp K H v (pyD d) := by
  have h0 := SeqAt.canLay_of_shaped h
  rcases r with r | ⟨a, e, _, _, o⟩
  · exact dp_mono le (r.dp h0)
  · cases d with
    | lst ds =>
      obtain ⟨vs, e1, r⟩ := o
      subst e
      refine .lst (SqL.of e1) (dpAll_mono le (r.dp (by simpa [pyD, PyData.canLay0] using h0)))
    | dct _ => simp [pyD, PyData.canLay0] at h0
    | obj _ _ => simp [pyD, PyData.canLay0] at h0
    | _ => exact o.elim
def fEq : F2 := fun x y k => SeqAt.shaped (pyD x) = true ∧ SeqAt.shaped (pyD y) = true ∧ k (.bl (PyData.eqv (pyD x) (pyD y)))
def fNe : F2 := fun x y k => SeqAt.shaped (pyD x) = true ∧ SeqAt.shaped (pyD y) = true ∧ k (.bl (!PyData.eqv (pyD x) (pyD y)))
section
variable {K : PySem.W.Frag}
theorem dop_eq : DOp K (rEqD K) fEq := by
  intro W H G x y dx dy Q k le rx ry hf hk
  obtain ⟨h1, h2, hf⟩ := hf
  exact ⟨_, _, rx.dp le h1, ry.dp le h2, h1, h2, hk _ H G _ (.refl le) (.bl _) hf⟩
theorem dop_ne : DOp K (rNeD K) fNe := by
  intro W H G x y dx dy Q k le rx ry hf hk
  obtain ⟨h1, h2, hf⟩ := hf
  exact ⟨_, _, rx.dp le h1, ry.dp le h2, h1, h2, hk _ H G _ (.refl le) (.bl _) hf⟩
def isNonD : D → Bool
  | .non => true
  | _ => false
def fIs : F2 := fun x y k => match y with
  | .non => k (.bl (isNonD x))
  | _ => False
def fIsNot : F2 := fun x y k => match y with
  | .non => k (.bl (!isNonD x))
  | _ => False
def flatD : D → Bool
  | .non => true
  | .bl _ => true
  | .int _ => true
  | .str _ => true
  | _ => false
def eqD : D → D → Bool
  | .non, .non => true
  | .bl a, .bl b => a == b
  | .bl a, .int b => (if a then 1 else 0) == b
  | .int a, .bl b => a == (if b then 1 else 0)
  | .int a, .int b => a == b
  | .str a, .str b => a == b
  | _, _ => false
theorem Rep.flat {G : Hp} {d : D} {v : V} (r : Rep K G d v) (h : flatD d = true) : flatV v = true := by
  cases r <;> first | rfl | (simp [flatD] at h)
theorem Rep.eqV {G : Hp} {d e : D} {v u : V} (r : Rep K G d v) (r' : Rep K G e u) (h : flatD d = true) (h' : flatD e = true) : eqV v u = eqD d e := by
  cases r <;> first | (simp [flatD] at h; done) | (cases r' <;> first | rfl | (simp [flatD] at h'))
theorem RepL.flat {G : Hp} : ∀ {ds : List D} {vs : List V}, RepL K G ds vs → ds.all flatD = true → vs.all flatV = true
  | _, _, .nil, _ => rfl
  | _, _, .cons r t, h => by
    rw [List.all_cons, Bool.and_eq_true_iff] at h
    rw [List.all_cons, r.flat h.1, RepL.flat t h.2]
    rfl
theorem RepL.inV {G : Hp} {d : D} {v : V} (r : Rep K G d v) (h : flatD d = true) : ∀ {ds : List D} {vs : List V}, RepL K G ds vs → ds.all flatD = true → inV v vs = ds.any fun y => eqD y d
  | _, _, .nil, _ => rfl
  | _, _, .cons q t, z => by
    rw [List.all_cons, Bool.and_eq_true_iff] at z
    rw [List.any_cons, ← RepL.inV r h t z.2]
    show (eqV _ v || _) = _
    rw [q.eqV r z.1 h]
    rfl
def seqD : D → Option (List D)
  | .lst ds => some ds
  | .tup ds => some ds
  | .rol ds => some ds
  | _ => none
def fIn (neg : Bool) : F2 := fun x y k => flatD x = true ∧ match seqD y with
  | some ds => ds.all flatD = true ∧ k (.bl (if neg then !ds.any (fun y => eqD y x) else ds.any fun y => eqD y x))
  | none => False
theorem RepB.seq {W : Wd} {G H : Hp} {d : D} {v : V} {ds : List D} (le : Le G H) (r : RepB K W G H d v) (h : seqD d = some ds) : ∃ a vs, v = .ref a ∧ (SqL K H a vs ∨ SqT K H a vs) ∧ RepL K G ds vs := by
  cases d with
  | lst es =>
    obtain ⟨a, vs, e, h1, r1⟩ := r.lst le
    cases h
    exact ⟨a, vs, e, .inl (SqL.of h1), r1⟩
  | tup es =>
    obtain ⟨a, vs, e, h1, r1⟩ := r.tup le
    cases h
    exact ⟨a, vs, e, .inr h1, r1⟩
  | rol es =>
    cases h
    rcases r with r | ⟨a, e, _, _, o⟩
    · cases r with
      | rol e r => exact ⟨_, _, rfl, .inl (.inl (.inr ⟨_, le.get e⟩)), r⟩
    · exact o.elim
  | _ => exact nomatch h
theorem RepB.flat_rep {W : Wd} {G H : Hp} {d : D} {v : V} (r : RepB K W G H d v) (h : flatD d = true) : Rep K G d v := by
  rcases r with r | ⟨a, e, _, _, o⟩
  · exact r
  · cases d <;> first | exact o.elim | exact nomatch h
theorem dop_in (neg : Bool) : DOp K (rIn K neg) (fIn neg) := by
  intro W H G x y dx dy Q k le rx ry hf hk
  obtain ⟨h1, hf⟩ := hf
  split at hf
  · rename_i ds e
    obtain ⟨a, vs, ey, hs, r⟩ := ry.seq le e
    obtain ⟨h2, hf⟩ := hf
    have rx' := rx.flat_rep h1
    refine ⟨a, vs, ey, hs, rx'.flat h1, r.flat h2, hk _ H G _ (.refl le) ?_ hf⟩
    rw [RepL.inV rx' h1 r h2]
    exact .bl _
  · exact hf.elim
end
section
variable {X : Cx} {W : WX} {a b : Expr} {δa δb : DE} {pos : Pos}
theorem pd_eq (hu : X.A.units + 64 < cLine) (ha : PB X W a δa) (hb : PB X W b δb) : PD X W (.Compare a [.Eq] [b] pos) (dOp fEq δa δb) := pd_cmp (op_eqD hu) dop_eq ha hb (nomark _)
theorem pd_ne (hu : X.A.units + 64 < cLine) (ha : PB X W a δa) (hb : PB X W b δb) : PD X W (.Compare a [.NotEq] [b] pos) (dOp fNe δa δb) := pd_cmp (op_neD hu) dop_ne ha hb (nomark _)
theorem pd_in (ha : PB X W a δa) (hb : PB X W b δb) (hm : behindInMarks .In b = false := by rfl) : PD X W (.Compare a [.In] [b] pos) (dOp (fIn false) δa δb) := pd_cmp op_in_seq (dop_in false) ha hb hm
theorem pt_gt (ha : PB X W a δa) (hb : PB X W b δb) : PTD X W (.Compare a [.Gt] [b] pos) (dTest (dOp fGt δa δb)) := pt_cmpD op_gt dop_gt ha hb (nomark _)
theorem pt_eq (hu : X.A.units + 64 < cLine) (ha : PB X W a δa) (hb : PB X W b δb) : PTD X W (.Compare a [.Eq] [b] pos) (dTest (dOp fEq δa δb)) := pt_cmpD (op_eqD hu) dop_eq ha hb (nomark _)
theorem pt_ne (hu : X.A.units + 64 < cLine) (ha : PB X W a δa) (hb : PB X W b δb) : PTD X W (.Compare a [.NotEq] [b] pos) (dTest (dOp fNe δa δb)) := pt_cmpD (op_neD hu) dop_ne ha hb (nomark _)
end

def dAndT (a b : DT) : DT := fun x ρ n q => a x ρ n fun c n1 => if c = true then b x ρ n1 q else q false n1
def dOrT (a b : DT) : DT := fun x ρ n q => a x ρ n fun c n1 => if c = true then q true n1 else b x ρ n1 q
def dNotT (a : DT) : DT := fun x ρ n q => a x ρ n fun c n1 => q (!c) n1
def bd (k : Bool → Nat → Prop) : DQ := fun d n => match d with
  | .bl c => k c n
  | _ => False
def dAnd (a b : DE) : DE := fun x ρ n q => a x ρ n (bd fun c n1 => if c = true then b x ρ n1 q else q (.bl false) n1)
def dOr (a b : DE) : DE := fun x ρ n q => a x ρ n (bd fun c n1 => if c = true then q (.bl true) n1 else b x ρ n1 q)
def dNot (a : DE) : DE := fun x ρ n q => a x ρ n (bd fun c n1 => q (.bl (!c)) n1)
def dIf (t : DT) (a b : DE) : DE := fun x ρ n q => t x ρ n fun c n1 => if c = true then a x ρ n1 q else b x ρ n1 q
section
variable {X : Cx} {W : WX} {a b c : Expr} {rest : List Expr} {δa δb : DE} {τa τb : DT} {pos : Pos}
theorem pwd_or1 (h : PTD X W a τa) : PWD X W (.BoolOp .Or [a] pos) τa := by
  obtain ⟨t, p, e⟩ := h
  exact ⟨t, pw_or1 p, e⟩
theorem pwd_or (h : PTD X W a τa) (h2 : PWD X W (.BoolOp .Or (b :: rest) pos) τb) : PWD X W (.BoolOp .Or (a :: b :: rest) pos) (dOrT τa τb) := by
  obtain ⟨t, p, e⟩ := h
  obtain ⟨t', p', e'⟩ := h2
  refine ⟨_, pw_or p p', fun B σ H ρ n G α Q x q hK R hx hd k => ?_⟩
  refine e B σ H ρ n G α _ x _ hK R hx hd fun c H1 G1 n1 s1 j1 h1 => ?_
  cases c with
  | true =>
    rw [if_pos rfl] at h1 ⊢
    exact k true H1 G1 n1 s1 j1 h1
  | false =>
    rw [if_neg Bool.false_ne_true] at h1 ⊢
    exact e' B σ H1 ρ n1 G1 α Q x q hK (R.step s1 j1) (hx.step s1) h1 fun b H2 G2 n2 s2 j2 h2 => k b H2 G2 n2 (s1.trans s2) j2 h2
theorem ptd_not (h : PTD X W a τa) : PTD X W (.UnaryOp .Not a pos) (dNotT τa) := by
  obtain ⟨t, p, e⟩ := h
  refine ⟨_, pt_not p, fun B σ H ρ n G α Q x q hK R hx hd k => ?_⟩
  exact e B σ H ρ n G α _ x _ hK R hx hd fun c H1 G1 n1 s1 j1 h1 => k (!c) H1 G1 n1 s1 j1 h1
theorem pd_one {op} (h : PD X W a δa) : PD X W (.BoolOp op [a] pos) δa := by
  obtain ⟨t, p, e⟩ := h
  exact ⟨t, pe_one p, e⟩
theorem pd_and (h : PD X W a δa) (h2 : PD X W (.BoolOp .And (b :: rest) pos) δb) : PD X W (.BoolOp .And (a :: b :: rest) pos) (dAnd δa δb) := by
  obtain ⟨t, p, e⟩ := h
  obtain ⟨t', p', e'⟩ := h2
  refine ⟨_, pe_and p p', fun B σ H ρ n G α Q x q hK R hx hd k => ?_⟩
  refine e B σ H ρ n G α _ x _ hK R hx hd fun v H1 G1 d n1 s1 j1 r1 h1 => ?_
  cases d with
  | bl c =>
    cases r1
    refine ⟨c, rfl, ?_⟩
    cases c with
    | true =>
      have h1' : δb x ρ n1 q := h1
      rw [if_pos rfl]
      exact e' B σ H1 ρ n1 G1 α Q x q hK (R.step s1 j1) (hx.step s1) h1' fun v H2 G2 d n2 s2 j2 h2 => k v H2 G2 d n2 (s1.trans s2) j2 h2
    | false =>
      rw [if_neg Bool.false_ne_true]
      exact k _ H1 G1 _ n1 s1 j1 (.bl false) h1
  | _ => exact h1.elim
theorem pd_not (h : PD X W a δa) : PD X W (.UnaryOp .Not a pos) (dNot δa) := by
  obtain ⟨t, p, e⟩ := h
  refine ⟨_, pe_not p, fun B σ H ρ n G α Q x q hK R hx hd k => ?_⟩
  refine e B σ H ρ n G α _ x _ hK R hx hd fun v H1 G1 d n1 s1 j1 r1 h1 => ?_
  cases d with
  | bl c =>
    cases r1
    exact ⟨c, rfl, k _ H1 G1 _ n1 s1 j1 (.bl (!c)) h1⟩
  | _ => exact h1.elim
theorem pd_if (hc : PTD X W c τa) (ha : PD X W a δa) (hb : PD X W b δb) : PD X W (.IfExp c a b pos) (dIf τa δa δb) := by
  obtain ⟨t, p, e⟩ := hc
  obtain ⟨ta, pa, ea⟩ := ha
  obtain ⟨tb, pb, eb⟩ := hb
  refine ⟨_, pe_ifExp p pa pb, fun B σ H ρ n G α Q x q hK R hx hd k => ?_⟩
  refine e B σ H ρ n G α _ x _ hK R hx hd fun c H1 G1 n1 s1 j1 h1 => ?_
  cases c with
  | true =>
    rw [if_pos rfl] at h1 ⊢
    exact ea B σ H1 ρ n1 G1 α Q x q hK (R.step s1 j1) (hx.step s1) h1 fun v H2 G2 d n2 s2 j2 h2 => k v H2 G2 d n2 (s1.trans s2) j2 h2
  | false =>
    rw [if_neg Bool.false_ne_true] at h1 ⊢
    exact eb B σ H1 ρ n1 G1 α Q x q hK (R.step s1 j1) (hx.step s1) h1 fun v H2 G2 d n2 s2 j2 h2 => k v H2 G2 d n2 (s1.trans s2) j2 h2
end

def dNil : DA := fun _ _ n q => q [] n
def dCons (a : DE) (r : DA) : DA := fun x ρ n q => a x ρ n fun d n1 => r x ρ n1 fun ds n2 => q (d :: ds) n2
def dTup (a : DA) : DE := fun x ρ n q => a x ρ n fun ds n1 => ds.length ≤ 16777216 ∧ q (.tup ds) n1
def dLst (a : DA) : DE := fun x ρ n q => a x ρ n fun ds n1 => ds.length ≤ 16777216 ∧ q (.lst ds) n1
def dEmp : DE := fun _ _ n q => q (.dct []) n
section
variable {X : Cx} {W : WX} {e : Expr} {es : List Expr} {δ : DE} {α' : DA} {pos : Pos}
theorem pad_nil : PAD X W [] dNil := ⟨_, pa_nil, fun B σ H ρ n G α Q x q hK R hx hd k => k [] H G [] n (.refl _ R.le) R.J .nil hd⟩
theorem pad_cons (h : PD X W e δ) (h2 : PAD X W es α') (hs : starEach (e :: es) X.env = (false, eval e X.env) :: starEach es X.env := by rfl) : PAD X W (e :: es) (dCons δ α') := by
  obtain ⟨t, p, h⟩ := h
  obtain ⟨t', p', h'⟩ := h2
  refine ⟨_, pa_cons p p' hs, fun B σ H ρ n G α Q x q hK R hx hd k => ?_⟩
  refine h B σ H ρ n G α _ x _ hK R hx hd fun v H1 G1 d n1 s1 j1 r1 h1 => ?_
  refine h' B σ H1 ρ n1 G1 α _ x _ hK (R.step s1 j1) (hx.step s1) h1 fun vs H2 G2 ds n2 s2 j2 r2 h2 => ?_
  exact k _ H2 G2 _ n2 (s1.trans s2) j2 (.cons (r1.mono s2.le) r2) h2
theorem pab_nil : PAB X W [] dNil := ⟨_, pa_nil, fun B σ H ρ n G α Q x q hK R hx hd k => k [] H G [] n (.refl _ R.le) R.J .nil hd⟩
theorem pab_cons (h : PB X W e δ) (h2 : PAB X W es α') (hs : starEach (e :: es) X.env = (false, eval e X.env) :: starEach es X.env := by rfl) : PAB X W (e :: es) (dCons δ α') := by
  obtain ⟨t, p, h⟩ := h
  obtain ⟨t', p', h'⟩ := h2
  refine ⟨_, pa_cons p p' hs, fun B σ H ρ n G α Q x q hK R hx hd k => ?_⟩
  refine h B σ H ρ n G α _ x _ hK R hx hd fun v H1 G1 d n1 s1 j1 r1 h1 => ?_
  refine h' B σ H1 ρ n1 G1 α _ x _ hK (R.step s1 j1) (hx.step s1) h1 fun vs H2 G2 ds n2 s2 j2 r2 h2 => ?_
  exact k _ H2 G2 _ n2 (s1.trans s2) j2 (.cons (r1.step s2) r2) h2
theorem pd_tup {x1} (h : PAD X W es α') : PD X W (.Tuple es x1 pos) (dTup α') := by
  obtain ⟨t, p, h⟩ := h
  refine ⟨_, pe_tup p, fun B σ H ρ n G α Q x q hK R hx hd k => ?_⟩
  refine h B σ H ρ n G α _ x _ hK R hx hd fun vs H1 G1 ds n1 s1 j1 r1 h1 => ?_
  refine ⟨by rw [sizeLine_eq, ← r1.length]; exact h1.1, fun a np => ?_⟩
  have s := StepP.made (o := .tup vs) s1.hh np
  exact k _ _ _ _ n1 (s1.trans (s.step j1)) (s.J j1) (.tup (SqT.of upd_same) (r1.mono s.le)) h1.2
theorem pf_lst (h : PAD X W es α') : PF X W (.List es pos) (dLst α') := by
  obtain ⟨t, p, h⟩ := h
  refine ⟨_, pe_lst p, fun B σ H ρ n G α Q x q hK R hx hd k => ?_⟩
  refine h B σ H ρ n G α _ x _ hK R hx hd fun vs H1 G1 ds n1 s1 j1 r1 h1 => ?_
  refine ⟨by rw [sizeLine_eq, ← r1.length]; exact h1.1, fun a np => ?_⟩
  have s := StepP.laid (o := .lst vs) s1.hh np
  have nr : ¬ B.W.rg a := fun r => B.W.there n1 H1 a j1 r np
  have h0 : H a = none := by
    cases e : H a with
    | none => rfl
    | some o => rw [s1.fr a o e nr] at np; cases np
  have g0 : G1 a = none := by
    cases e : G1 a with
    | none => rfl
    | some o =>
      obtain ⟨o', e', _⟩ := s1.hh a o e
      rw [np] at e'; cases e'
  exact k a _ _ (.lst ds) n1 (s1.trans (s.step j1)) (s.J j1) h0 g0 nr ⟨vs, upd_same, r1⟩ h1.2
theorem pf_dct0 : PF X W (.Dict [] [] pos) dEmp := by
  refine ⟨_, pe_dnewK, fun B σ H ρ n G α Q x q hK R hx hd k => fun a np => ?_⟩
  have s := StepP.laid (o := .dK []) R.le np
  have nr : ¬ B.W.rg a := fun r => B.W.there n H a R.J r np
  have g0 : G a = none := by
    cases e : G a with
    | none => rfl
    | some o =>
      obtain ⟨o', e', _⟩ := R.le a o e
      rw [np] at e'; cases e'
  exact k a _ _ (.dct []) n (s.step R.J) (s.J R.J) np g0 nr ⟨[], upd_same, .nil⟩ hd
end

def fIx : F2 := fun x y k => match y with
  | .int i => (match seqD x with
    | some ds => (match atI ds i with
      | some d => k d
      | none => False)
    | none => False)
  | _ => False
section
variable {K : PySem.W.Frag}
theorem RepL.atI {G : Hp} {ds : List D} {vs : List V} {i : Int} {d : D} (r : RepL K G ds vs) (h : atI ds i = some d) : ∃ v, atI vs i = some v ∧ Rep K G d v := by
  unfold L2.atI at h ⊢
  rw [← r.length]
  cases e : ixN ds.length i with
  | none => rw [e] at h; cases h
  | some j =>
    rw [e] at h
    obtain ⟨v, h1, h2⟩ := r.get (i := j) h
    exact ⟨v, h1, h2⟩
theorem dop_ix : DOp K (rIx K) fIx := by
  intro W H G x y dx dy Q k le rx ry hf hk
  cases dy with
  | int i =>
    unfold fIx at hf
    simp only at hf
    split at hf
    · rename_i ds e
      split at hf
      · rename_i d e2
        obtain ⟨a, vs, ex, hs, r⟩ := rx.seq le e
        obtain ⟨v, h1, h2⟩ := r.atI e2
        rcases hs with hs | hs
        · exact .inl ⟨a, vs, i, v, ex, ry.int, hs, h1, hk _ H G _ (.refl le) h2 hf⟩
        · exact .inr (.inl ⟨a, vs, i, v, ex, ry.int, hs, h1, hk _ H G _ (.refl le) h2 hf⟩)
      · exact hf.elim
    · exact hf.elim
  | _ => exact hf.elim
end
def keyD : D → Option Key
  | .int i => some (.inl i)
  | .str x => some (.inr x)
  | _ => none
def fDg : F2 := fun x y k => match x, keyD y with
  | .dct kvs, some j => (match getD kvs j with
    | some d => k d
    | none => False)
  | _, _ => False
theorem keyD_rep {K : PySem.W.Frag} {W : Wd} {G H : Hp} {d : D} {v : V} {k : Key} (h : keyD d = some k) (r : RepB K W G H d v) : v = kV k := by
  cases d with
  | int i => cases h; exact r.int
  | str x => cases h; exact r.str
  | _ => exact nomatch h
section
variable {X : Cx} {W : WX} {a b : Expr} {δa δb : DE} {pos : Pos}
theorem pd_ix (ha : PB X W a δa) (hb : PB X W b δb) (hs : PlainIx b := by exact fun _ _ => rfl) : PD X W (.Subscript a b pos) (dOp fIx δa δb) := by
  obtain ⟨ta, pa, ea⟩ := ha
  obtain ⟨tb, pb, eb⟩ := hb
  exact ⟨_, pe_ix ix_seq pa pb hs, ed_op dop_ix ea eb⟩
theorem pd_dg (hu : X.A.units + 1 < cLine) (ha : PB X W a δa) (hb : PB X W b δb) (hs : NoSl b := by exact fun _ _ => rfl) : PD X W (.Subscript a b pos) (dOp fDg δa δb) := by
  obtain ⟨ta, pa, ea⟩ := ha
  obtain ⟨tb, pb, eb⟩ := hb
  refine ⟨_, pe_dget hu pa pb hs, fun B σ H ρ n G α Q x q hK R hx h k => ?_⟩
  refine ea B σ H ρ n G α _ x _ hK R hx h fun v1 H1 G1 d1 n1 s1 j1 r1 h1 => ?_
  refine eb B σ H1 ρ n1 G1 α _ x _ hK (R.step s1 j1) (hx.step s1) h1 fun v2 H2 G2 d2 n2 s2 j2 r2 h2 => ?_
  unfold fDg at h2
  split at h2
  · rename_i kvs j ej
    split at h2
    · rename_i d e
      obtain ⟨p, ws, e1, hd, rk⟩ := (r1.step s2).dct s2.hh
      rcases rk.val (k := j) with ⟨d', v', g1, g2, g3⟩ | ⟨g1, _⟩
      · rw [e] at g1
        cases g1
        exact ⟨p, v', e1, .inl ⟨ws, j, hd, keyD_rep ej r2, g2.symm⟩, k v' H2 G2 d n2 (s1.trans s2) j2 g3 h2⟩
      · rw [e] at g1; cases g1
    · exact h2.elim
  · exact h2.elim
end
end DL

end

section
set_option autoImplicit false
namespace DL
open PySem PySem.Spec L2

abbrev FL := List D → (D → Prop) → Prop
def DCall (K : PySem.W.Frag) (r : List V → Hp → VK → Prop) (f : FL) : Prop := ∀ (W : Wd) (H G : Hp) (vs : List V) (ds : List D) (Q : VK) (k : D → Prop), Le G H → RepBL K W G H ds vs → f ds k →
  (∀ v H' G' d, StepP H G H' G' → Rep K G' d v → k d → Q v H') → r vs H Q
def dCB (f : FL) (a : DA) : DE := fun x ρ n q => a x ρ n fun ds n1 => f ds fun d => q d n1
section
variable {X : Cx} {W : WX} {e : Expr} {es : List Expr} {α' : DA} {p pos : Pos} {x : Str} {id T : String} {r : List V → Hp → VK → Prop} {f : FL}
theorem ed_cb {K : PySem.W.Frag} {t : TA} (hr : DCall K r f) (ha : EAB K W t α') : ED K W (tCB r t) (dCB f α') := by
  intro B σ H ρ n G α Q x q hK R hx h k
  refine ha B σ H ρ n G α _ x _ hK R hx h fun vs H1 G1 ds n1 s1 j1 r1 h1 => ?_
  exact hr B.W H1 G1 vs ds Q _ s1.hh r1 h1 fun v H' G' d s r hq => k v H' G' d n1 (s1.trans (s.step j1)) (s.J j1) r hq
theorem pd_callB (hc : CallR X (.builtin id) r) (hr : DCall X.K r f) (hg : Gl X x) (hm : X.mg x = none) (hv : bootBuiltins x = some (.builtin id)) (ha : PAB X W (e :: es) α') (hn : x ≠ "__name__" := by decide) (hdb : (x == ("__debug__" : Str)) = false := by decide)
    (hst : starEach (e :: es) X.env = (false, eval e X.env) :: starEach es X.env := by rfl) (hpl : (backTo pos (starEach es X.env)).any (·.1) = false := by rfl) : PD X W (.Call (.Name x p) (e :: es) [] pos) (dCB f α') := by
  obtain ⟨t, pa, ea⟩ := ha
  exact ⟨_, pe_callB hc hg hm hv pa hn hdb hst hpl, ed_cb hr ea⟩
theorem pd_callTy (hc : CallR X (.type T) r) (hr : DCall X.K r f) (hg : Gl X x) (hm : X.mg x = none) (hv : bootBuiltins x = some (.type T)) (ha : PAB X W (e :: es) α') (hn : x ≠ "__name__" := by decide) (hdb : (x == ("__debug__" : Str)) = false := by decide)
    (hst : starEach (e :: es) X.env = (false, eval e X.env) :: starEach es X.env := by rfl) (hpl : (backTo pos (starEach es X.env)).any (·.1) = false := by rfl) : PD X W (.Call (.Name x p) (e :: es) [] pos) (dCB f α') := by
  obtain ⟨t, pa, ea⟩ := ha
  exact ⟨_, pe_callTy hc hg hm hv pa hn hdb hst hpl, ed_cb hr ea⟩
end
section
variable {K : PySem.W.Frag} {W : Wd} {G H : Hp}
theorem RepBL.one {d : D} {vs : List V} (r : RepBL K W G H [d] vs) : ∃ v, vs = [v] ∧ RepB K W G H d v := by
  cases r with
  | cons r t => cases t; exact ⟨_, rfl, r⟩
end
def lenD : D → Option Nat
  | .lst ds => some ds.length
  | .tup ds => some ds.length
  | .rol ds => some ds.length
  | .dct kvs => some kvs.length
  | _ => none
def fLen : FL := fun ds k => match ds with
  | [d] => (match lenD d with
    | some n => k (.int n)
    | none => False)
  | _ => False
def f1 (f : D → (D → Prop) → Prop) : FL := fun ds k => match ds with
  | [d] => f d k
  | _ => False
theorem call_lenD2 {X : Cx} : CallR X (.builtin "len") (fun xs H Q => (∃ x n, xs = [x] ∧ LenV X.K x H n ∧ Q (.int n) H) ∨ ∃ a kvs, xs = [.ref a] ∧ Rd H a (.dK kvs) ∧ Q (.int kvs.length) H) := by
  refine call_len.or ?_
  intro pins s σ H xs us Q I r h
  obtain ⟨a, kvs, rfl, hd, q⟩ := h
  obtain ⟨u, rfl, r1⟩ := vals1 r
  obtain rfl : u = Value.ref a := r1
  exact d_len I hd fun t s' I' => ⟨.int kvs.length, H, I', ⟨t, rfl⟩, q⟩
section
variable {K : PySem.W.Frag}
theorem dcall_len : DCall K (fun xs H Q => (∃ x n, xs = [x] ∧ LenV K x H n ∧ Q (.int n) H) ∨ ∃ a kvs, xs = [.ref a] ∧ Rd H a (.dK kvs) ∧ Q (.int kvs.length) H) fLen := by
  intro W H G vs ds Q k le r hf hk
  unfold fLen at hf
  split at hf
  · rename_i d
    obtain ⟨v, rfl, r0⟩ := r.one
    split at hf
    · rename_i n e
      cases d with
      | lst ds =>
        cases e
        obtain ⟨a, us, e1, h1, r1⟩ := r0.lst le
        subst e1
        refine .inl ⟨_, us.length, rfl, .inl ⟨us, SqL.of h1, rfl⟩, hk _ H G _ (.refl le) (by rw [r1.length]; exact .int _) hf⟩
      | tup ds =>
        cases e
        obtain ⟨a, us, e1, h1, r1⟩ := r0.tup le
        subst e1
        refine .inl ⟨_, us.length, rfl, .inr ⟨us, h1, rfl⟩, hk _ H G _ (.refl le) (by rw [r1.length]; exact .int _) hf⟩
      | rol ds =>
        cases e
        rcases r0 with r0 | ⟨b, _, _, _, o⟩
        · cases r0 with
          | @rol a o _ us e1 r1 =>
            refine .inl ⟨_, us.length, rfl, .inl ⟨us, .inl (.inr ⟨_, le.get e1⟩), rfl⟩, hk _ H G _ (.refl le) (by rw [r1.length]; exact .int _) hf⟩
        · exact o.elim
      | dct kvs =>
        cases e
        obtain ⟨a, ws, e1, h1, r1⟩ := r0.dct le
        subst e1
        refine .inr ⟨_, ws, rfl, h1, hk _ H G _ (.refl le) (by rw [r1.length]; exact .int _) hf⟩
      | _ => exact nomatch e
    · exact hf.elim
  · exact hf.elim
def fAbs : FL := f1 fun d k => match d with
  | .int i => k (.int (if i < 0 then -i else i))
  | _ => False
def fInt : FL := f1 fun d k => match d with
  | .int i => k (.int i)
  | .bl b => k (.int (if b then 1 else 0))
  | _ => False
theorem dcall_int : DCall K (fun xs H Q => (∃ i, xs = [.int i] ∧ Q (.int i) H) ∨ ∃ k, xs = [.bl k] ∧ Q (.int (if k then 1 else 0)) H) fInt := by
  intro W H G vs ds Q k le r hf hk
  unfold fInt f1 at hf
  split at hf
  · rename_i d
    obtain ⟨v, rfl, r0⟩ := r.one
    cases d with
    | int i => exact .inl ⟨i, by rw [r0.int], hk _ H G _ (.refl le) (.int _) hf⟩
    | bl b => exact .inr ⟨b, by rw [r0.bl], hk _ H G _ (.refl le) (.int _) hf⟩
    | _ => exact hf.elim
  · exact hf.elim
def fList : FL := f1 fun d k => match seqD d with
  | some ds => k (.lst ds)
  | none => False
def fTuple : FL := f1 fun d k => match seqD d with
  | some ds => k (.tup ds)
  | none => False
theorem dcall_tuple : DCall K (fun xs H Q => ∃ p ys, xs = [.ref p] ∧ ((SqL K H p ys ∧ ∀ l, H l = none → Q (.ref l) (upd H l (.tup ys))) ∨ (SqT K H p ys ∧ Q (.ref p) H))) fTuple := by
  intro W H G vs ds Q k le r hf hk
  unfold fTuple f1 at hf
  split at hf
  · rename_i d
    obtain ⟨v, rfl, r0⟩ := r.one
    cases d with
    | lst es =>
      obtain ⟨a, us, e1, h1, r1⟩ := r0.lst le
      subst e1
      refine ⟨a, us, rfl, .inl ⟨SqL.of h1, fun l np => ?_⟩⟩
      have s := StepP.made (o := .tup us) le np
      exact hk _ _ _ _ s (.tup (SqT.of upd_same) (r1.mono s.le)) hf
    | tup es =>
      obtain ⟨a, us, e1, h1, r1⟩ := r0.tup le
      rcases r0 with r0 | ⟨b, _, _, _, o⟩
      · subst e1
        exact ⟨a, us, rfl, .inr ⟨h1, hk _ _ _ _ (.refl le) r0 hf⟩⟩
      · exact o.elim
    | rol es =>
      rcases r0 with r0 | ⟨b, _, _, _, o⟩
      · cases r0 with
        | @rol a o _ us e r1 =>
          refine ⟨a, us, rfl, .inl ⟨.inl (.inr ⟨_, le.get e⟩), fun l np => ?_⟩⟩
          have s := StepP.made (o := .tup us) le np
          exact hk _ _ _ _ s (.tup (SqT.of upd_same) (r1.mono s.le)) hf
      · exact o.elim
    | _ => exact hf.elim
  · exact hf.elim
def intsD : List D → Option (List Int)
  | [] => some []
  | .int i :: ds => (intsD ds).map (i :: ·)
  | _ :: _ => none
def boolsD : List D → Option (List Bool)
  | [] => some []
  | .bl i :: ds => (boolsD ds).map (i :: ·)
  | _ :: _ => none
theorem RepL.ints {G : Hp} : ∀ {ds : List D} {vs : List V} {ns : List Int}, RepL K G ds vs → intsD ds = some ns → vs = ns.map V.int
  | _, _, _, .nil, h => by cases h; rfl
  | _, _, ns, .cons (d := d) (ds := ds) r t, h => by
    cases d with
    | int i =>
      cases r
      cases e : intsD ds with
      | none => simp [intsD, e] at h
      | some ms =>
        simp [intsD, e] at h
        subst h
        rw [List.map_cons, RepL.ints t e]
    | _ => exact nomatch h
theorem RepL.bools {G : Hp} : ∀ {ds : List D} {vs : List V} {ns : List Bool}, RepL K G ds vs → boolsD ds = some ns → vs = ns.map V.bl
  | _, _, _, .nil, h => by cases h; rfl
  | _, _, ns, .cons (d := d) (ds := ds) r t, h => by
    cases d with
    | bl i =>
      cases r
      cases e : boolsD ds with
      | none => simp [boolsD, e] at h
      | some ms =>
        simp [boolsD, e] at h
        subst h
        rw [List.map_cons, RepL.bools t e]
    | _ => exact nomatch h
theorem RepL.of_ints {G : Hp} : ∀ (ns : List Int), RepL K G (ns.map D.int) (ns.map V.int)
  | [] => .nil
  | i :: ns => .cons (.int i) (RepL.of_ints ns)
def fSeqInts (f : List Int → (D → Prop) → Prop) : FL := f1 fun d k => match d with
  | .lst ds => (match intsD ds with
    | some ns => f ns k
    | none => False)
  | _ => False
def fSum : FL := fSeqInts fun ns k => k (.int ns.sum)
def fMax : FL := fSeqInts fun ns k => 0 < ns.length ∧ ∀ m, m ∈ ns → (∀ y, y ∈ ns → y ≤ m) → k (.int m)
def fMin : FL := fSeqInts fun ns k => 0 < ns.length ∧ ∀ m, m ∈ ns → (∀ y, y ∈ ns → m ≤ y) → k (.int m)
def fSorted : FL := fSeqInts fun ns k => ∀ ms : List Int, ms.Perm ns → ms.Pairwise (· ≤ ·) → k (.lst (ms.map D.int))
theorem dcall_sorted : DCall K (rSortedI K) fSorted := by
  intro W H G vs ds Q k le r hf hk
  unfold fSorted fSeqInts f1 at hf
  split at hf
  · rename_i d
    obtain ⟨v, rfl, r0⟩ := r.one
    split at hf
    · split at hf
      · rename_i e
        obtain ⟨a, us, e1, h1, r1⟩ := r0.lst le
        subst e1
        refine ⟨a, _, rfl, SqL.of (by rw [← r1.ints e]; exact h1), fun ms p hp hs np => ?_⟩
        have s := StepP.made (o := .lst (ms.map V.int)) le np
        exact hk _ _ _ _ s (.lst upd_same (RepL.of_ints ms)) (hf ms hp hs)
      · exact hf.elim
    · exact hf.elim
  · exact hf.elim
def fBools (f : List Bool → Bool) : FL := f1 fun d k => match d with
  | .lst ds => (match boolsD ds with
    | some bs => k (.bl (f bs))
    | none => False)
  | _ => False
theorem dcall_any : DCall K (rAny K) (fBools fun bs => bs.any id) := by
  intro W H G vs ds Q k le r hf hk
  unfold fBools f1 at hf
  split at hf
  · rename_i d
    obtain ⟨v, rfl, r0⟩ := r.one
    split at hf
    · split at hf
      · rename_i e
        obtain ⟨a, us, e1, h1, r1⟩ := r0.lst le
        subst e1
        exact ⟨a, _, rfl, SqL.of (by rw [← r1.bools e]; exact h1), hk _ H G _ (.refl le) (.bl _) hf⟩
      · exact hf.elim
    · exact hf.elim
  · exact hf.elim
theorem dcall_all : DCall K (rAll K) (fBools fun bs => bs.all id) := by
  intro W H G vs ds Q k le r hf hk
  unfold fBools f1 at hf
  split at hf
  · rename_i d
    obtain ⟨v, rfl, r0⟩ := r.one
    split at hf
    · split at hf
      · rename_i e
        obtain ⟨a, us, e1, h1, r1⟩ := r0.lst le
        subst e1
        exact ⟨a, _, rfl, SqL.of (by rw [← r1.bools e]; exact h1), hk _ H G _ (.refl le) (.bl _) hf⟩
      · exact hf.elim
    · exact hf.elim
  · exact hf.elim
end
end DL

end

section
set_option autoImplicit false
namespace DL
open PySem PySem.Spec L2

def SlRep (K : PySem.W.Frag) (W : Wd) (H0 G H : Hp) : Sl → V → Prop
  | .val d, v => Rep K G d v
  | .own d, v => ∃ a, v = .ref a ∧ H0 a = none ∧ G a = none ∧ ¬ W.rg a ∧ OwnAt K G H a d
  | .gst r gs, v => Rep K G r v ∧ (gs.map (·.1)).Nodup ∧ ∀ g ∈ gs, H0 g.1 = none ∧ G g.1 = none ∧ ¬ W.rg g.1 ∧ OwnAt K G H g.1 g.2
theorem SlRep.step {K : PySem.W.Frag} {W : Wd} {H0 G H G' H' : Hp} {sl : Sl} {v : V} (r : SlRep K W H0 G H sl v) (s : Step W H G H' G') : SlRep K W H0 G' H' sl v := by
  have kp : ∀ {a : Addr} {o : HO}, H a = some o → G a = none → G' a = none := fun {a o} h g => by
    cases e : G' a with
    | none => rfl
    | some u =>
      rcases s.new a (by rw [e]; exact fun z => nomatch z) with z | ⟨z, _⟩
      · exact (z g).elim
      · rw [h] at z; cases z
  cases sl with
  | val d => exact Rep.mono s.le r
  | own d =>
    obtain ⟨a, e, h0, g, nr, o⟩ := r
    obtain ⟨u, q⟩ := o.there
    exact ⟨a, e, h0, kp q g, nr, o.mono s.le fun o q => s.fr _ o q nr⟩
  | gst r' gs =>
    obtain ⟨r, nd, h⟩ := r
    refine ⟨r.mono s.le, nd, fun x hm => ?_⟩
    obtain ⟨h0, g, nr, o⟩ := h x hm
    obtain ⟨u, q⟩ := o.there
    exact ⟨h0, kp q g, nr, o.mono s.le fun o q => s.fr _ o q nr⟩
structure DEnds where
  nx : Env → Nat → Prop
  rt : DQ
  bk : Env → Nat → Prop
  ct : Env → Nat → Prop
  ex : Xn → Env → Nat → Prop
  w : Wd
  ro : Sl → Nat → Prop
def DEnds.xx (E : DEnds) (ρ : Env) : DX := ⟨fun e n => E.ex e ρ n, E.w⟩
abbrev DS := DEnds → Env → Nat → Prop
structure Lk (B : Bs) (W : WX) (D : Ends) (E : DEnds) : Prop where
  nx : ∀ σ H ρ n G α, RelB B σ H ρ n G α → E.nx ρ n → D.nx σ H
  rt : ∀ v H d n G, Step B.W B.H0 B.G0 H G → B.W.J n H → Rep B.K G d v → E.rt d n → D.rt v H
  bk : ∀ σ H ρ n G α, RelB B σ H ρ n G α → E.bk ρ n → D.bk σ H
  ct : ∀ σ H ρ n G α, RelB B σ H ρ n G α → E.ct ρ n → D.ct σ H
  ex : ∀ c dd σ H ρ n G α e, RelB B σ H ρ n G α → XRep B.K B.W B.H0 G H e c dd → E.ex e ρ n → W c dd σ H
  w : E.w = B.W
  ro : ∀ v H sl n G, Step B.W B.H0 B.G0 H G → B.W.J n H → SlRep B.K B.W B.H0 G H sl v → E.ro sl n → D.rt v H
theorem Lk.xl {B : Bs} {W : WX} {D : Ends} {E : DEnds} (L : Lk B W D E) {σ : St} {H : Hp} {ρ : Env} {n : Nat} {G : Hp} {α : Nat → Addr} (R : RelB B σ H ρ n G α) : XL B W σ H G (E.xx ρ) :=
  ⟨L.w, fun c dd H' G' e n' s j r q => L.ex c dd σ H' ρ n' G' α e (R.step s j) (r.back R.st) q⟩
def SD (K : PySem.W.Frag) (W : WX) (t : TS) (δ : DS) : Prop :=
  ∀ (B : Bs) (σ : St) (H : Hp) (ρ : Env) (n : Nat) (G : Hp) (α : Nat → Addr) (D : Ends) (E : DEnds), B.K = K → RelB B σ H ρ n G α → Lk B W D E → δ E ρ n → t D σ H
def PSD (X : Cx) (W : WX) (st : Stmt) (δ : DS) : Prop := ∃ t, PS X st t ∧ SD X.K W t δ
def PSsD (X : Cx) (W : WX) (st : List Stmt) (δ : DS) : Prop := ∃ t, PSs X st t ∧ SD X.K W t δ

def dNext : DS := fun E ρ n => E.nx ρ n
def dSeq (a b : DS) : DS := fun E ρ n => a { E with nx := b E } ρ n
def dRet (δ : DE) : DS := fun E ρ n => δ (E.xx ρ) ρ n E.rt
def dRetN : DS := fun E _ n => E.rt .non n
def dExp (δ : DE) : DS := fun E ρ n => δ (E.xx ρ) ρ n fun _ n1 => E.nx ρ n1
def dIfS (t : DT) (a b : DS) : DS := fun E ρ n => t (E.xx ρ) ρ n fun c n1 => if c = true then a E ρ n1 else b E ρ n1
def dBreak : DS := fun E ρ n => E.bk ρ n
def dCont : DS := fun E ρ n => E.ct ρ n
def dNever : DS := fun _ _ _ => False
section
variable {X : Cx} {W : WX} {st : Stmt} {rest : List Stmt} {a b : DS} {e : Expr} {δ : DE} {pos : Pos}
theorem pss_nilD : PSsD X W [] dNext := ⟨_, pss_nil, fun B σ H ρ n G α D E hK R L h => L.nx σ H ρ n G α R h⟩
theorem pss_consD (h : PSD X W st a) (h2 : PSsD X W rest b) : PSsD X W (st :: rest) (dSeq a b) := by
  obtain ⟨t, p, e⟩ := h
  obtain ⟨t', p', e'⟩ := h2
  refine ⟨_, pss_cons p p', fun B σ H ρ n G α D E hK R L h => ?_⟩
  exact e B σ H ρ n G α _ { E with nx := b E } hK R ⟨fun σ1 H1 ρ1 n1 G1 α1 R1 h1 => e' B σ1 H1 ρ1 n1 G1 α1 D E hK R1 L h1, L.rt, L.bk, L.ct, L.ex, L.w, L.ro⟩ h
theorem pss_oneD (h : PSD X W st a) : PSsD X W [st] a := by
  obtain ⟨t, p, e⟩ := h
  exact ⟨t, pss_one p, e⟩
theorem ps_retD (he : PD X W e δ) : PSD X W (.Return (some e) pos) (dRet δ) := by
  obtain ⟨t, p, h⟩ := he
  refine ⟨_, ps_ret p, fun B σ H ρ n G α D E hK R L hd => ?_⟩
  exact h B σ H ρ n G α _ _ _ hK R (L.xl R) hd fun v H' G' d n' s j r hq => L.rt v H' d n' G' (R.st.trans s) j (hK ▸ r) hq
def dRetF (δ : DE) : DS := fun E ρ n => δ (E.xx ρ) ρ n fun d n1 => E.ro (.own d) n1
theorem ps_retFD (he : PF X W e δ) : PSD X W (.Return (some e) pos) (dRetF δ) := by
  obtain ⟨t, p, h⟩ := he
  refine ⟨_, ps_ret p, fun B σ H ρ n G α D E hK R L hd => ?_⟩
  refine h B σ H ρ n G α _ _ _ hK R (L.xl R) hd fun a H' G' d n' s j np ng nr o hq => ?_
  have h0 : B.H0 a = none := by
    cases q : B.H0 a with
    | none => rfl
    | some u => rw [R.st.fr a u q nr] at np; cases np
  exact L.ro _ H' (.own d) n' G' (R.st.trans s) j ⟨a, rfl, h0, ng, nr, hK ▸ o⟩ hq
def dRetO (i : Nat) : DS := fun E ρ n => match ρ[i]? with
  | some (some (.own d)) => E.ro (.own d) n
  | some (some (.gst r gs)) => E.ro (.gst r gs) n
  | _ => False
theorem ps_retOD (i : Nat) {x : Str} {npos : Pos} (hN : X.N[i]? = some x := by rfl) (hv : Vis X.env.scope x := by first | exact Or.inl rfl | exact Or.inr (Or.inl rfl) | exact Or.inr (Or.inr rfl)) (hd : (x == ("__debug__" : Str)) = false := by decide)
    (hcd : (x == ("__classdict__" : Str)) = false := by decide) : PSD X W (.Return (some (.Name x npos)) pos) (dRetO i) := by
  refine ⟨_, ps_ret (pe_var hN hv hd hcd), fun B σ H ρ n G α D E hK R L h => ?_⟩
  unfold dRetO at h
  split at h
  · rename_i d e
    obtain ⟨e1, g, h0, nr, o⟩ := R.own i d e
    exact ⟨_, e1, L.ro _ H (.own d) n G R.st R.J ⟨_, rfl, h0, g, nr, o⟩ h⟩
  · rename_i r gs e
    obtain ⟨⟨v, e1, hr⟩, nd⟩ := R.gh.gst i r gs e
    exact ⟨v, e1, L.ro v H (.gst r gs) n G R.st R.J ⟨hr, nd, fun g hm => by
      obtain ⟨h1, h2, h3, h4⟩ := R.gh.at_ i r gs e g hm
      exact ⟨h2, h1, h3, h4⟩⟩ h⟩
  · exact h.elim
theorem ps_ifD {c : Expr} {x y : List Stmt} {τ : DT} (hc : PTD X W c τ) (ha : PSsD X W x a) (hb : PSsD X W y b) : PSD X W (.If c x y pos) (dIfS τ a b) := by
  obtain ⟨t, p, h⟩ := hc
  obtain ⟨ta, pa, ea⟩ := ha
  obtain ⟨tb, pb, eb⟩ := hb
  refine ⟨_, ps_if p pa pb, fun B σ H ρ n G α D E hK R L hd => ?_⟩
  refine h B σ H ρ n G α _ _ _ hK R (L.xl R) hd fun c H1 G1 n1 s1 j1 h1 => ?_
  cases c with
  | true =>
    rw [if_pos rfl] at h1 ⊢
    exact ea B σ H1 ρ n1 G1 α D E hK (R.step s1 j1) L h1
  | false =>
    rw [if_neg Bool.false_ne_true] at h1 ⊢
    exact eb B σ H1 ρ n1 G1 α D E hK (R.step s1 j1) L h1
end

theorem set_val_own {ρ : Env} {i j : Nat} {d e : D} (h : (ρ.set i (some (.val d)))[j]? = some (some (.own e))) : ρ[j]? = some (some (.own e)) := by
  rw [List.getElem?_set] at h
  split at h
  · split at h
    · injection h with h; injection h with h; cases h
    · cases h
  · exact h
theorem get_set_sl {ρ : Env} {i j : Nat} {s : Option Sl} {t : Sl} (h : (ρ.set i s)[j]? = some (some t)) : (i = j ∧ s = some t) ∨ (i ≠ j ∧ ρ[j]? = some (some t)) := by
  rw [List.getElem?_set] at h
  by_cases z : i = j
  · rw [if_pos z] at h
    split at h
    · injection h with h
      exact .inl ⟨z, h⟩
    · cases h
  · rw [if_neg z] at h
    exact .inr ⟨z, h⟩
theorem Gh.set {B : Bs} {σ : St} {H : Hp} {ρ : Env} {G : Hp} {α α' : Nat → Addr} (h : Gh B σ H ρ G α) (i : Nat) {s : Option Sl} {v : Option V} (hs : ∀ r gs, s ≠ some (.gst r gs)) (ha : ∀ j, j ≠ i → α' j = α j)
    (hn : ∀ d, s = some (.own d) → ∀ (k : Nat) (r : D) (gs : List (Addr × D)), k ≠ i → ρ[k]? = some (some (.gst r gs)) → ∀ g ∈ gs, g.1 ≠ α' i) : Gh B (σ.set i v) H (ρ.set i s) G α' := by
  have go : ∀ {j : Nat} {r : D} {gs : List (Addr × D)}, (ρ.set i s)[j]? = some (some (.gst r gs)) → i ≠ j ∧ ρ[j]? = some (some (.gst r gs)) := fun {j r gs} e => by
    rcases get_set_sl e with ⟨_, z⟩ | z
    · exact (hs _ _ z).elim
    · exact z
  refine h.of rfl rfl rfl rfl (fun j r gs e => ⟨(go e).2, fun u hu => by rw [List.getElem?_set_ne (go e).1]; exact hu⟩) (fun j d e => ?_) (fun _ _ _ _ _ _ h1 _ _ => ⟨h1, fun _ q => q⟩) (Le.refl G)
  rcases get_set_sl e with ⟨z1, z⟩ | ⟨z1, z⟩
  · subst z1
    exact .inr fun k r gs e' => hn d z k r gs (Ne.symm (go e').1) (go e').2
  · exact .inl ⟨d, z, ha j (Ne.symm z1)⟩
theorem RelB.set {B : Bs} {σ : St} {H : Hp} {ρ : Env} {n : Nat} {G : Hp} {α : Nat → Addr} (R : RelB B σ H ρ n G α) (i : Nat) {d : D} {v : V} (r : Rep B.K G d v) : RelB B (σ.set i (some v)) H (ρ.set i (some (.val d))) n G α := by
  refine ⟨R.st, R.rg, R.J, by rw [List.length_set, List.length_set, R.len], fun j e h => ?_, fun j e h => ?_, fun j k e f hj hk => ?_, fun a e h h' => R.p0 a e h (set_val_own h'), R.gh.set i (fun _ _ z => nomatch z) (fun _ _ => rfl) (fun _ z => nomatch z)⟩
  · rw [List.getElem?_set] at h ⊢
    by_cases z : i = j
    · subst z
      rw [if_pos rfl] at h ⊢
      rw [R.len]
      split at h
      · rename_i hl
        rw [if_pos hl]
        injection h with h; injection h with h; injection h with h
        subst h
        exact ⟨v, rfl, r⟩
      · cases h
    · rw [if_neg z] at h ⊢
      exact R.val j e h
  · rw [List.getElem?_set] at h ⊢
    by_cases z : i = j
    · subst z
      rw [if_pos rfl] at h
      split at h
      · injection h with h; injection h with h; cases h
      · cases h
    · rw [if_neg z] at h ⊢
      exact R.own j e h
  · have go : ∀ {j : Nat} {e : D}, (ρ.set i (some (.val d)))[j]? = some (some (.own e)) → ρ[j]? = some (some (.own e)) := fun {j e} h => by
      rw [List.getElem?_set] at h
      split at h
      · split at h
        · injection h with h; injection h with h; cases h
        · cases h
      · exact h
    exact R.inj j k e f (go hj) (go hk)
theorem RelB.setOwn {B : Bs} {σ : St} {H : Hp} {ρ : Env} {n : Nat} {G : Hp} {α : Nat → Addr} (R : RelB B σ H ρ n G α) (i : Nat) (i0 : i ≠ 0) {a : Addr} {d : D} (ha : ∀ j e, j ≠ i → ρ[j]? = some (some (.own e)) → α j ≠ a) (hg : G a = none) (h0 : B.H0 a = none) (hr : ¬ B.W.rg a) (o : OwnAt B.K G H a d) (hb : ∀ (k : Nat) (r : D) (gs : List (Addr × D)), ρ[k]? = some (some (.gst r gs)) → ∀ g ∈ gs, g.1 ≠ a) :
    RelB B (σ.set i (some (.ref a))) H (ρ.set i (some (.own d))) n G (fun j => if j = i then a else α j) := by
  refine ⟨R.st, R.rg, R.J, by rw [List.length_set, List.length_set, R.len], fun j e h => ?_, fun j e h => ?_, fun j k e f hj hk z => ?_, fun b e h h' => ?_, R.gh.set i (fun _ _ z => nomatch z) (fun j ne => if_neg ne) (fun _ _ k r gs _ e g hm => by rw [if_pos rfl]; exact hb k r gs e g hm)⟩
  · rw [List.getElem?_set] at h ⊢
    by_cases z : i = j
    · subst z
      rw [if_pos rfl] at h
      split at h
      · injection h with h; injection h with h; cases h
      · cases h
    · rw [if_neg z] at h ⊢
      exact R.val j e h
  · rw [List.getElem?_set] at h ⊢
    by_cases z : i = j
    · subst z
      rw [if_pos rfl] at h ⊢
      rw [R.len]
      split at h
      · rename_i hl
        rw [if_pos hl]
        injection h with h; injection h with h; injection h with h
        subst h
        rw [if_pos rfl]
        exact ⟨rfl, hg, h0, hr, o⟩
      · cases h
    · rw [if_neg z] at h ⊢
      simp only [if_neg (fun q => z (Eq.symm q) : ¬ j = i)]
      exact R.own j e h
  · have go : ∀ {j : Nat} {e : D}, j ≠ i → (ρ.set i (some (.own d)))[j]? = some (some (.own e)) → ρ[j]? = some (some (.own e)) := fun {j e} q h => by
      rw [List.getElem?_set, if_neg (fun z => q z.symm)] at h
      exact h
    by_cases q : j = i
    · by_cases q' : k = i
      · rw [q, q']
      · simp only [if_pos q, if_neg q'] at z
        exact (ha k f q' (go q' hk) z.symm).elim
    · by_cases q' : k = i
      · simp only [if_neg q, if_pos q'] at z
        exact (ha j e q (go q hj) z).elim
      · simp only [if_neg q, if_neg q'] at z
        exact R.inj j k e f (go q hj) (go q' hk) z
  · rw [List.getElem?_set, if_neg i0] at h'
    simp only [if_neg (fun z => i0 z.symm : ¬ 0 = i)]
    exact R.p0 b e h h'
theorem RelB.setGst {B : Bs} {σ : St} {H : Hp} {ρ : Env} {n : Nat} {G : Hp} {α : Nat → Addr} (R : RelB B σ H ρ n G α) (i : Nat) (i0 : i ≠ 0) {r : D} {gs : List (Addr × D)} {v : V} (hr : Rep B.K G r v) (nd : (gs.map (·.1)).Nodup) (hg : ∀ g ∈ gs, G g.1 = none ∧ B.H0 g.1 = none ∧ ¬ B.W.rg g.1 ∧ OwnAt B.K G H g.1 g.2)
    (f1 : ∀ (j : Nat) (d : D), j ≠ i → ρ[j]? = some (some (.own d)) → ∀ g ∈ gs, g.1 ≠ α j) (f2 : ∀ (j : Nat) (r' : D) (gs' : List (Addr × D)), j ≠ i → ρ[j]? = some (some (.gst r' gs')) → ∀ g ∈ gs, ∀ g' ∈ gs', g.1 ≠ g'.1) :
    RelB B (σ.set i (some v)) H (ρ.set i (some (.gst r gs))) n G α := by
  have own : ∀ {j : Nat} {d : D}, (ρ.set i (some (.gst r gs)))[j]? = some (some (.own d)) → i ≠ j ∧ ρ[j]? = some (some (.own d)) := fun {j d} h => by
    rcases get_set_sl h with ⟨_, z⟩ | z
    · exact nomatch z
    · exact z
  have val : ∀ {j : Nat} {d : D}, (ρ.set i (some (.gst r gs)))[j]? = some (some (.val d)) → i ≠ j ∧ ρ[j]? = some (some (.val d)) := fun {j d} h => by
    rcases get_set_sl h with ⟨_, z⟩ | z
    · exact nomatch z
    · exact z
  have gst : ∀ {j : Nat} {r' : D} {gs' : List (Addr × D)}, (ρ.set i (some (.gst r gs)))[j]? = some (some (.gst r' gs')) → (i = j ∧ r' = r ∧ gs' = gs ∧ i < ρ.length) ∨ (i ≠ j ∧ ρ[j]? = some (some (.gst r' gs'))) := fun {j r' gs'} h => by
    have hl : j < ρ.length := by have := (List.getElem?_eq_some_iff.mp h).1; rwa [List.length_set] at this
    rcases get_set_sl h with ⟨z1, z⟩ | z
    · injection z with z
      injection z with z2 z3
      exact .inl ⟨z1, z2.symm, z3.symm, z1 ▸ hl⟩
    · exact .inr z
  refine ⟨R.st, R.rg, R.J, by rw [List.length_set, List.length_set, R.len], fun j e h => ?_, fun j e h => ?_, fun j k e f hj hk => R.inj j k e f (own hj).2 (own hk).2, fun b e h h' => R.p0 b e h (own h').2, ⟨fun j r' gs' e => ?_, fun j r' gs' e => ?_, fun j k r1 r2 g1 g2 e1 e2 ne => ?_, fun j k r' gs' d e e' => ?_, fun a r' gs' hs e => ?_⟩⟩
  · obtain ⟨z, h⟩ := val h
    rw [List.getElem?_set_ne z]
    exact R.val j e h
  · obtain ⟨z, h⟩ := own h
    rw [List.getElem?_set_ne z]
    exact R.own j e h
  · rcases gst e with ⟨z, rfl, rfl, hl⟩ | ⟨z, e⟩
    · subst z
      exact ⟨⟨v, by rw [List.getElem?_set_self (by rw [R.len]; exact hl)], hr⟩, nd⟩
    · rw [List.getElem?_set_ne z]
      exact R.gh.gst j r' gs' e
  · rcases gst e with ⟨_, _, rfl, _⟩ | ⟨_, e⟩
    · exact hg
    · exact R.gh.at_ j r' gs' e
  · rcases gst e1 with ⟨y, _, y2, _⟩ | ⟨y, w1⟩
    · rcases gst e2 with ⟨z, _⟩ | ⟨z, w2⟩
      · exact (ne (y.symm.trans z)).elim
      · rw [y2]
        exact f2 k r2 g2 (Ne.symm z) w2
    · rcases gst e2 with ⟨z, _, z2, _⟩ | ⟨z, w2⟩
      · rw [z2]
        exact fun g hm g' hm' q => f2 j r1 g1 (Ne.symm y) w1 g' hm' g hm q.symm
      · exact R.gh.sep j k r1 r2 g1 g2 w1 w2 ne
  · obtain ⟨z', w'⟩ := own e'
    rcases gst e with ⟨z, _, z2, _⟩ | ⟨z, w⟩
    · rw [z2]
      exact f1 k d (Ne.symm z') w'
    · exact R.gh.off j k r' gs' d w w'
  · rcases gst e with ⟨z, _⟩ | ⟨_, e⟩
    · exact (i0 z).elim
    · exact R.gh.p1 a r' gs' hs e
def dSet (i : Nat) (δ : DE) : DS := fun E ρ n => δ (E.xx ρ) ρ n fun d n1 => E.nx (ρ.set i (some (.val d))) n1
def dOwn (i : Nat) (δ : DE) : DS := fun E ρ n => δ (E.xx ρ) ρ n fun d n1 => E.nx (ρ.set i (some (.own d))) n1
def dFrz (i : Nat) (a : DS) : DS := fun E ρ n => match ρ[i]? with
  | some (some (.own d)) => a E (ρ.set i (some (.val d))) n
  | _ => a E ρ n
section
variable {X : Cx} {W : WX} {e : Expr} {δ : DE} {pos pos' : Pos} {x : Str}
theorem sd_set {K : PySem.W.Frag} {t : TE} (h : ED K W t δ) (i : Nat) : SD K W (tAsg t (gName i)) (dSet i δ) := by
  intro B σ H ρ n G α D E hK R L hd
  exact h B σ H ρ n G α _ _ _ hK R (L.xl R) hd fun v H' G' d n' s j r hq => L.nx _ H' _ n' G' α ((R.step s j).set i (hK ▸ r)) hq
theorem sd_own {K : PySem.W.Frag} {t : TE} (h : EF K W t δ) (i : Nat) (i0 : i ≠ 0) : SD K W (tAsg t (gName i)) (dOwn i δ) := by
  intro B σ H ρ n G α D E hK R L hd
  refine h B σ H ρ n G α _ _ _ hK R (L.xl R) hd fun a H' G' d n' s j np ng nr o hq => ?_
  have R' := R.step s j
  refine L.nx _ H' _ n' G' _ (R'.setOwn i i0 (fun k e _ hk z => ?_) ng ?_ nr (hK ▸ o) fun k r gs e g hm z => by
    obtain ⟨u, q⟩ := (R.gh.at_ k r gs e g hm).2.2.2.there
    rw [z, np] at q
    cases q) hq
  · obtain ⟨_, _, _, _, o'⟩ := R.own k e hk
    obtain ⟨u, q⟩ := o'.there
    rw [z, np] at q
    cases q
  · cases q : B.H0 a with
    | none => rfl
    | some u =>
      have := R.st.fr a u q nr
      rw [np] at this
      cases this
theorem ps_setD (i : Nat) (he : PD X W e δ) (hN : X.N.Nodup) (hi : X.N[i]? = some x := by rfl) (hx : Loc X.env.scope x := by first | exact Or.inl rfl | exact Or.inr rfl) (hs : swapsWith e (some (.Name x pos')) pos.line X.env = pure false := by rfl) (hf : X.fn x = true ∨ X.env.scope.names.lookup x = some .local := by first | exact .inl rfl | exact .inr rfl | assumption) :
    PSD X W (.Assign [.Name x pos'] e pos) (dSet i δ) := by
  obtain ⟨t, p, h⟩ := he
  exact ⟨_, ps_set hN hi hx p hs hf, sd_set h i⟩
theorem ps_ownD (i : Nat) (he : PF X W e δ) (hN : X.N.Nodup) (i0 : i ≠ 0 := by decide) (hi : X.N[i]? = some x := by rfl) (hx : Loc X.env.scope x := by first | exact Or.inl rfl | exact Or.inr rfl) (hs : swapsWith e (some (.Name x pos')) pos.line X.env = pure false := by rfl) (hf : X.fn x = true ∨ X.env.scope.names.lookup x = some .local := by first | exact .inl rfl | exact .inr rfl | assumption) :
    PSD X W (.Assign [.Name x pos'] e pos) (dOwn i δ) := by
  obtain ⟨t, p, h⟩ := he
  exact ⟨_, ps_set hN hi hx p hs hf, sd_own h i i0⟩
theorem Gh.frz {B : Bs} {σ : St} {H : Hp} {ρ : Env} {G : Hp} {α : Nat → Addr} (h : Gh B σ H ρ G α) {i : Nat} {d : D} {s : Option Sl} {H' G' : Hp} (hi : ρ[i]? = some (some (.own d))) (e1 : ∀ b, b ≠ α i → H' b = H b) (e2 : ∀ b, b ≠ α i → G' b = G b) (le : Le G G') (hs : ∀ r gs, s ≠ some (.gst r gs) := by exact fun _ _ z => nomatch z) : Gh B σ H' (ρ.set i s) G' α := by
  have go : ∀ {j : Nat} {r : D} {gs : List (Addr × D)}, (ρ.set i s)[j]? = some (some (.gst r gs)) → i ≠ j ∧ ρ[j]? = some (some (.gst r gs)) := fun {j r gs} e => by
    rcases get_set_sl e with ⟨_, z⟩ | z
    · exact (hs _ _ z).elim
    · exact z
  refine h.of rfl rfl rfl rfl (fun j r gs e => ⟨(go e).2, fun _ q => q⟩) (fun j d' e => ?_) (fun k r gs e g hm h1 _ _ => ?_) le
  · rcases get_set_sl e with ⟨z1, _⟩ | ⟨_, z⟩
    · subst z1
      exact .inl ⟨d, hi, rfl⟩
    · exact .inl ⟨d', z, rfl⟩
  · have ne := h.off k i r gs d (go e).2 hi g hm
    exact ⟨by rw [e2 _ ne]; exact h1, fun o q => by rw [e1 _ ne]; exact q⟩
theorem RelB.freeze {B : Bs} {σ : St} {H : Hp} {ρ : Env} {n : Nat} {G : Hp} {α : Nat → Addr} {Q : Hp → Prop} (R : RelB B σ H ρ n G α) {i : Nat} {d : D} (h : ρ[i]? = some (some (.own d))) (k : ∀ H1 G', RelB B σ H1 (ρ.set i (some (.val d))) n G' α → Le G G' → Q H1) : LkP Q H := by
  obtain ⟨e1, hg, h0, nr, o⟩ := R.own i d h
  refine DL.freeze R.le hg o fun H1 ob e2 off l1 l2 r => ?_
  have il : i < ρ.length := (List.getElem?_eq_some_iff.mp h).1
  refine k H1 (upd G (α i) ob) ⟨R.st.frozen h0 nr off l1 l2, fun a q => ?_, B.W.stable _ _ _ (fun b hb => off b fun z => nr (z ▸ hb)) (fun b e q => (off b fun z => o.noExt (z ▸ q)).trans q) R.J, by rw [List.length_set, R.len], fun j e hj => ?_, fun j e hj => ?_, fun j k e f hj hk => ?_, fun a e h h' => R.p0 a e h (set_val_own h'), R.gh.frz h (fun b ne => off b ne) (fun b ne => upd_ne ne) l2⟩ l2
  · rw [upd_ne (fun z : a = α i => nr (z ▸ q))]
    exact R.rg a q
  · rw [List.getElem?_set] at hj
    by_cases z : i = j
    · subst z
      rw [if_pos rfl, if_pos il] at hj
      injection hj with hj; injection hj with hj; injection hj with hj
      subst hj
      exact ⟨_, e1, r⟩
    · rw [if_neg z] at hj
      obtain ⟨v, h1, h2⟩ := R.val j e hj
      exact ⟨v, h1, h2.mono l2⟩
  · rw [List.getElem?_set] at hj
    by_cases z : i = j
    · subst z
      rw [if_pos rfl, if_pos il] at hj
      injection hj with hj; injection hj with hj; cases hj
    · rw [if_neg z] at hj
      obtain ⟨h1, h2, h3, h4, h5⟩ := R.own j e hj
      have ne : α j ≠ α i := fun q => z (R.inj i j d e h hj q.symm)
      exact ⟨h1, by rw [upd_ne ne]; exact h2, h3, h4, h5.mono l2 fun _ q => by rw [off _ ne]; exact q⟩
  · exact R.inj j k e f (set_val_own hj) (set_val_own hk)
theorem pss_frz (i : Nat) {sts : List Stmt} {a : DS} (h : PSsD X W sts a) : PSsD X W sts (dFrz i a) := by
  obtain ⟨t, p, h⟩ := h
  refine ⟨_, pss_lk p, fun B σ H ρ n G α D E hK R L hd => ?_⟩
  unfold dFrz at hd
  split at hd
  · rename_i d e
    exact R.freeze e fun H1 G' R' _ => h B σ H1 _ n G' α D E hK R' L hd
  · exact .inl (h B σ H ρ n G α D E hK R L hd)
end

theorem RelB.write {B : Bs} {σ : St} {H : Hp} {ρ : Env} {n : Nat} {G : Hp} {α : Nat → Addr} (R : RelB B σ H ρ n G α) {i : Nat} {d d' : D} {o : HO} (h : ρ[i]? = some (some (.own d))) (ho : OwnAt B.K G (upd H (α i) o) (α i) d') :
    RelB B σ (upd H (α i) o) (ρ.set i (some (.own d'))) n G α := by
  obtain ⟨e1, hg, h0, nr, od⟩ := R.own i d h
  have il : i < ρ.length := (List.getElem?_eq_some_iff.mp h).1
  refine ⟨⟨fun a u e r => ?_, R.st.le, fun a u e => ?_, R.st.new⟩, R.rg, B.W.stable n H _ (fun a r => upd_ne (fun z => nr (z ▸ r))) (fun b e q => (upd_ne fun z => od.noExt (z ▸ q)).trans q) R.J, by rw [List.length_set, R.len], fun j e hj => ?_, fun j e hj => ?_, fun j k e f hj hk => ?_, fun b e hb h' => ?_, R.gh.frz h (fun b ne => upd_ne ne) (fun _ _ => rfl) (Le.refl G)⟩
  · rw [upd_ne (fun z => by rw [z, h0] at e; cases e)]
    exact R.st.fr a u e r
  · obtain ⟨o', e', c⟩ := R.le a u e
    exact ⟨o', by rw [upd_ne (fun z => by rw [z, hg] at e; cases e)]; exact e', c⟩
  · rw [List.getElem?_set] at hj
    by_cases z : i = j
    · subst z
      rw [if_pos rfl, if_pos il] at hj
      injection hj with hj; injection hj with hj; cases hj
    · rw [if_neg z] at hj
      exact R.val j e hj
  · rw [List.getElem?_set] at hj
    by_cases z : i = j
    · subst z
      rw [if_pos rfl, if_pos il] at hj
      injection hj with hj; injection hj with hj; injection hj with hj
      subst hj
      exact ⟨e1, hg, h0, nr, ho⟩
    · rw [if_neg z] at hj
      obtain ⟨h1, h2, h3, h4, h5⟩ := R.own j e hj
      exact ⟨h1, h2, h3, h4, h5.mono (Le.refl G) fun u q => by rw [upd_ne (fun z' => z (R.inj i j d e h hj z'.symm))]; exact q⟩
  · have go : ∀ {j : Nat} {e : D}, (ρ.set i (some (.own d')))[j]? = some (some (.own e)) → ∃ f, ρ[j]? = some (some (.own f)) := fun {j e} hj => by
      rw [List.getElem?_set] at hj
      by_cases z : i = j
      · subst z
        exact ⟨d, h⟩
      · rw [if_neg z] at hj
        exact ⟨e, hj⟩
    obtain ⟨e', hj'⟩ := go hj
    obtain ⟨f', hk'⟩ := go hk
    exact R.inj j k e' f' hj' hk'
  · rw [List.getElem?_set] at h'
    by_cases z : i = 0
    · subst z
      exact R.p0 b d hb h
    · rw [if_neg z] at h'
      exact R.p0 b e hb h'
def opt {α : Type} (o : Option α) (k : α → Prop) : Prop := match o with
  | some d => k d
  | none => False
def dApp (i : Nat) (δ : DE) : DS := fun E ρ n => match ρ[i]? with
  | some (some (.own (.lst ds))) => δ (E.xx ρ) ρ n fun d n1 => ds.length < 16777216 ∧ E.nx (ρ.set i (some (.own (.lst (ds ++ [d]))))) n1
  | _ => False
def dPut (i : Nat) (δk δv : DE) : DS := fun E ρ n => match ρ[i]? with
  | some (some (.own (.dct kvs))) => δv (E.xx ρ) ρ n fun d n1 => δk (E.xx ρ) ρ n1 fun k n2 => opt (keyD k) fun j => kvs.length < 16777216 ∧ E.nx (ρ.set i (some (.own (.dct (putD kvs j d))))) n2
  | _ => False
def dSetIx (i : Nat) (δk δv : DE) : DS := fun E ρ n => match ρ[i]? with
  | some (some (.own (.lst ds))) => δv (E.xx ρ) ρ n fun d n1 => δk (E.xx ρ) ρ n1 fun k n2 => (match k with
    | .int z => opt (ixN ds.length z) fun j => E.nx (ρ.set i (some (.own (.lst (ds.set j d))))) n2
    | _ => False)
  | _ => False
def dFldSet (i : Nat) (c f : Str) (δ : DE) : DS := fun E ρ n => match ρ[i]? with
  | some (some (.own (.obj c' fs))) => c' = c ∧ fs.length < 1000 ∧ δ (E.xx ρ) ρ n fun d n1 => E.nx (ρ.set i (some (.own (.obj c (setF f d fs))))) n1
  | _ => False
theorem opt_some {α : Type} {o : Option α} {k : α → Prop} (h : opt o k) : ∃ a, o = some a ∧ k a := by
  cases o with
  | none => exact h.elim
  | some a => exact ⟨a, rfl, h⟩
section
variable {X : Cx} {W : WX} {e k : Expr} {δ δk δv : DE} {pos pos' apos cpos : Pos} {x : Str}
theorem ps_appD (i : Nat) (he : PD X W e δ) (hN : X.N[i]? = some x := by rfl) (hv : Vis X.env.scope x := by first | exact Or.inl rfl | exact Or.inr (Or.inl rfl) | exact Or.inr (Or.inr rfl)) (hd : (x == ("__debug__" : Str)) = false := by decide)
    (hcd : (x == ("__classdict__" : Str)) = false := by decide) (hst : starEach [e] X.env = [(false, eval e X.env)] := by rfl)
    (hbase : attributeBase (.Name x pos') "append" X.env (eval (.Name x pos') X.env) = eval (.Name x pos') X.env := by rfl)
    (hfew : ((backTo cpos (starEach [e] X.env)).all (fun x => !x.1) && (backToKw cpos (keywordEach [] X.env)).all (fun x => x.1.isSome)
      && decide ([e].length + ([] : List Keyword).length + (if ([] : List Keyword).isEmpty then 0 else 1) < 30)) = true := by rfl)
    (hline : (apos.endLine == cpos.line) = true := by rfl) (hplain : (backTo cpos (starEach [] X.env)).any (·.1) = false := by rfl)
    (hsw : swapsWith (.Call (.Attribute (.Name x pos') "append" apos) [e] [] cpos) none pos.line X.env = pure false := by rfl) : PSD X W (.Expr (.Call (.Attribute (.Name x pos') "append" apos) [e] [] cpos) pos) (dApp i δ) := by
  obtain ⟨t, p, h⟩ := he
  refine ⟨_, ps_expr (pe_bm PySem.F.plainAttrs_list PySem.F.slot_list_append PySem.F.type_list_append mt_append (pe_var hN hv hd hcd) (pa_cons p pa_nil hst) hbase hfew hline hst hplain) hsw, fun B σ H ρ n G α D E hK R L hd => ?_⟩
  unfold dApp at hd
  split at hd
  · rename_i ds eo
    obtain ⟨e1, hg, h0, nr, vs, hH, rl⟩ := R.own i _ eo
    refine ⟨_, e1, .inl ⟨rfl, _, SqL.of hH⟩, ?_⟩
    refine h B σ H ρ n G α _ _ _ hK R (L.xl R) hd fun v H' G' d n' s j r hq => ?_
    have R' := R.step s j
    obtain ⟨_, hg', _, _, vs', hH', rl'⟩ := R'.own i _ eo
    refine ⟨α i, vs', v, rfl, rfl, hH', by rw [sizeLine_eq, ← rl'.length]; exact hq.1, ?_⟩
    exact L.nx σ _ _ n' G' α (R'.write (d' := .lst (ds ++ [d])) (o := .lst (vs' ++ [v])) eo ⟨_, upd_same, rl'.snoc (hK ▸ r)⟩) hq.2
  · exact hd.elim
theorem ps_putD (i : Nat) (hu : X.A.units + 1 < cLine) (hk : PB X W k δk) (he : PD X W e δv) (hN : X.N[i]? = some x := by rfl) (hv : Vis X.env.scope x := by first | exact Or.inl rfl | exact Or.inr (Or.inl rfl) | exact Or.inr (Or.inr rfl)) (hd : (x == ("__debug__" : Str)) = false := by decide)
    (hcd : (x == ("__classdict__" : Str)) = false := by decide) (hs : swapsWith e (some (.Subscript (.Name x pos') k apos)) pos.line X.env = pure false := by rfl) : PSD X W (.Assign [.Subscript (.Name x pos') k apos] e pos) (dPut i δk δv) := by
  obtain ⟨tk, pk, ek⟩ := hk
  obtain ⟨tv, pv, ev⟩ := he
  refine ⟨_, ps_dput hu (pe_var hN hv hd hcd) pk pv hs, fun B σ H ρ n G α D E hK R L hd => ?_⟩
  unfold dPut at hd
  split at hd
  · rename_i kvs eo
    refine ev B σ H ρ n G α _ _ _ hK R (L.xl R) hd fun v H1 G1 d n1 s1 j1 r1 h1 => ?_
    have R1 := R.step s1 j1
    refine ⟨_, (R1.own i _ eo).1, ?_⟩
    refine ek B σ H1 ρ n1 G1 α _ _ _ hK R1 (L.xl R1) h1 fun y H2 G2 dk n2 s2 j2 r2 h2 => ?_
    have R2 := R1.step s2 j2
    obtain ⟨z, ez, hz, h3⟩ := opt_some h2
    obtain ⟨_, hg, _, _, ws, hH, rk⟩ := R2.own i _ eo
    refine ⟨α i, _, rfl, .inl ⟨ws, z, hH, keyD_rep ez r2, by rw [sizeLine_eq, ← rk.length]; exact hz, rfl⟩, ?_⟩
    exact L.nx σ _ _ n2 G2 α (R2.write (d' := .dct (putD kvs z d)) (o := .dK (putK ws z v)) eo ⟨_, upd_same, rk.put (hK ▸ r1.mono s2.le)⟩) h3
  · exact hd.elim
theorem ps_fldD (i : Nat) {c f : Str} (hc : Cls X.K (ca X.K c)) (hn : NoAttr X.K (ca X.K c) f) (he : PD X W e δv) (hN : X.N[i]? = some x := by rfl) (hv : Vis X.env.scope x := by first | exact Or.inl rfl | exact Or.inr (Or.inl rfl) | exact Or.inr (Or.inr rfl)) (hd : (x == ("__debug__" : Str)) = false := by decide)
    (hcd : (x == ("__classdict__" : Str)) = false := by decide) (hs : swapsWith e (some (.Attribute (.Name x pos') f apos)) pos.line X.env = pure false := by rfl) : PSD X W (.Assign [.Attribute (.Name x pos') f apos] e pos) (dFldSet i c f δv) := by
  obtain ⟨tv, pv, ev⟩ := he
  refine ⟨_, ps_fld (pe_var hN hv hd hcd) pv hs, fun B σ H ρ n G α D E hK R L hd => ?_⟩
  unfold dFldSet at hd
  split at hd
  · rename_i c' fs eo
    obtain ⟨hc', hl, hd⟩ := hd
    subst hc'
    refine ev B σ H ρ n G α _ _ _ hK R (L.xl R) hd fun v H1 G1 d n1 s1 j1 r1 h1 => ?_
    have R1 := R.step s1 j1
    obtain ⟨e1, hg, _, _, dx, ws, hH, rk⟩ := R1.own i _ eo
    refine ⟨_, e1, α i, _, dx, ws, rfl, hH, hK ▸ hc, hK ▸ hn, by rw [← rk.length]; exact hl, ?_⟩
    exact L.nx σ _ _ n1 G1 α (R1.write (d' := .obj c' (setF f d fs)) (o := .ins (ca B.K c') dx (putF f v ws)) eo ⟨dx, _, upd_same, rk.put (hK ▸ r1)⟩) h1
  · exact hd.elim
end

abbrev DG := D → Env → (Env → Prop) → Prop
def GD (K : PySem.W.Frag) (sl : List Nat) (g : TG) (γ : DG) : Prop :=
  ∀ (B : Bs) (σ : St) (H : Hp) (ρ : Env) (n : Nat) (G : Hp) (α : Nat → Addr) (v : V) (d : D) (Q : St → Hp → Prop) (q : Env → Prop), B.K = K → RelB B σ H ρ n G α → Rep K G d v → γ d ρ q →
    (∀ σ' ρ', RelB B σ' H ρ' n G α → (∀ j, j ∉ sl → σ'[j]? = σ[j]?) → σ'.length = σ.length → q ρ' → Q σ' H) → g v σ H Q
def PGD (X : Cx) (sl : List Nat) (tg : Expr) (γ : DG) : Prop := ∃ g, PG X tg g ∧ GD X.K sl g γ
abbrev DGs := List D → Env → (Env → Prop) → Prop
def GDs (K : PySem.W.Frag) (sl : List Nat) (g : TGs) (γ : DGs) : Prop :=
  ∀ (B : Bs) (σ : St) (H : Hp) (ρ : Env) (n : Nat) (G : Hp) (α : Nat → Addr) (vs : List V) (ds : List D) (Q : St → Hp → Prop) (q : Env → Prop), B.K = K → RelB B σ H ρ n G α → RepL K G ds vs → γ ds ρ q →
    (∀ σ' ρ', RelB B σ' H ρ' n G α → (∀ j, j ∉ sl → σ'[j]? = σ[j]?) → σ'.length = σ.length → q ρ' → Q σ' H) → g vs σ H Q
def PGsD (X : Cx) (sl : List Nat) (tg : List Expr) (γ : DGs) : Prop := ∃ g, PGs X tg g ∧ GDs X.K sl g γ
def gN (i : Nat) : DG := fun d ρ q => q (ρ.set i (some (.val d)))
def gs0 : DGs := fun ds ρ q => ds = [] ∧ q ρ
def gsC (a : DG) (b : DGs) : DGs := fun ds ρ q => match ds with
  | d :: r => a d ρ fun ρ1 => b r ρ1 q
  | [] => False
def gT (a : DGs) : DG := fun d ρ q => match d with
  | .tup ds => a ds ρ q
  | _ => False
section
variable {X : Cx} {pos : Pos} {x : Str}
theorem pgd_name (i : Nat) (hN : X.N.Nodup) (hi : X.N[i]? = some x := by rfl) (hx : Loc X.env.scope x := by first | exact Or.inl rfl | exact Or.inr rfl) (hf : X.fn x = true ∨ X.env.scope.names.lookup x = some .local := by first | exact .inl rfl | exact .inr rfl | assumption) : PGD X [i] (.Name x pos) (gN i) := by
  refine ⟨_, pg_name hN hi hx hf, fun B σ H ρ n G α v d Q q hK R r h k => ?_⟩
  exact k _ _ (R.set i (hK ▸ r)) (fun j hj => by rw [List.getElem?_set, if_neg (fun z => hj (by rw [z]; exact List.mem_singleton_self _))]) (by rw [List.length_set]) h
theorem pgsd_nil : PGsD X [] [] gs0 := by
  refine ⟨_, pgs_nil, fun B σ H ρ n G α vs ds Q q hK R r h k => ?_⟩
  obtain ⟨e, h⟩ := h
  subst e
  cases r
  exact ⟨rfl, k σ ρ R (fun _ _ => rfl) rfl h⟩
theorem pgsd_cons {e : Expr} {es : List Expr} {a : DG} {b : DGs} {sl sl' : List Nat} (h : PGD X sl e a) (h2 : PGsD X sl' es b)
    (hs : (assignEach (e :: es) X.env).map (·.2) = assign e X.env :: (assignEach es X.env).map (·.2) := by rfl) : PGsD X (sl ++ sl') (e :: es) (gsC a b) := by
  obtain ⟨g, p, h⟩ := h
  obtain ⟨g', p', h'⟩ := h2
  refine ⟨_, pgs_cons p p' hs, fun B σ H ρ n G α vs ds Q q hK R r hd k => ?_⟩
  cases r with
  | nil => exact hd.elim
  | cons r t =>
    refine ⟨_, _, rfl, h B σ H ρ n G α _ _ _ _ hK R r hd fun σ1 ρ1 R1 f1 l1 h1 => ?_⟩
    refine h' B σ1 H ρ1 n G α _ _ _ _ hK R1 t h1 fun σ2 ρ2 R2 f2 l2 h2 => ?_
    exact k σ2 ρ2 R2 (fun j hj => by rw [f2 j (fun z => hj (List.mem_append_right _ z)), f1 j (fun z => hj (List.mem_append_left _ z))]) (l2.trans l1) h2
def gTn (m : Nat) (a : DGs) : DG := fun d ρ q => match d with
  | .tup ds => ds.length = m ∧ a ds ρ q
  | _ => False
theorem pgd_tup {es : List Expr} {k m : Nat} {a : DGs} {sl : List Nat} (hc : X.calm = true) (h : PGsD X sl es a) (hn : (assignEach es X.env).length = m := by rfl) (hst : (assignEach es X.env).findIdx? (·.1) = none := by rfl) : PGD X sl (.Tuple es k pos) (gTn m a) := by
  obtain ⟨g, p, h⟩ := h
  refine ⟨_, pg_tup hc p hn hst, fun B σ H ρ n G α v d Q q hK R r hd k => ?_⟩
  cases d with
  | tup ds =>
    cases r with
    | tup e r =>
      exact ⟨_, _, rfl, R.le.sqT e, by rw [← r.length]; exact hd.1, h B σ H ρ n G α _ _ _ _ hK R r hd.2 k⟩
  | _ => exact hd.elim
end
end DL

end

section
set_option autoImplicit false
namespace DL
open PySem PySem.Spec L2

structure WalkD (K : PySem.W.Frag) (J : It) (G : Hp) (ds : List D) : Prop where
  goes : ∀ i H G', i < ds.length → Le G G' → Le G' H → J.go i H
  stops : ∀ H G', Le G G' → Le G' H → J.stop ds.length H
  yields : ∀ i H G' x H', i < ds.length → Le G G' → Le G' H → J.yld i H x H' → ∃ d G'', ds[i]? = some d ∧ StepP H G' H' G'' ∧ Rep K G'' d x
abbrev DI := DX → Env → Nat → (List D → Nat → Prop) → Prop
def EI (K : PySem.W.Frag) (W : WX) (wi : TI) (ι : DI) : Prop :=
  ∀ (B : Bs) (σ : St) (H : Hp) (ρ : Env) (n : Nat) (G : Hp) (α : Nat → Addr) (R : It → Hp → Prop) (x : DX) (q : List D → Nat → Prop), B.K = K → RelB B σ H ρ n G α → XL B W σ H G x → ι x ρ n q →
    (∀ J H' G' ds n', Step B.W H G H' G' → B.W.J n' H' → WalkD K J G' ds → q ds n' → R J H') → wi σ H R
def PID (X : Cx) (W : WX) (tg iter : Expr) (ι : DI) : Prop := ∃ wi, PI X tg iter wi ∧ EI X.K W wi ι

theorem RelB.down {B : Bs} {σ : St} {H : Hp} {ρ : Env} {n : Nat} {G : Hp} {α : Nat → Addr} {G1 : Hp} (R : RelB { B with G0 := G1 } σ H ρ n G α) (le : Le B.G0 G1) (hn : ∀ a, G1 a ≠ none → B.G0 a ≠ none ∨ (B.H0 a = none ∧ ¬ B.W.rg a)) : RelB B σ H ρ n G α := by
  refine ⟨⟨R.st.fr, le.trans R.st.le, R.st.hh, fun a e => ?_⟩, R.rg, R.J, R.len, R.val, R.own, R.inj, R.p0, R.gh.of rfl rfl rfl rfl (fun _ _ _ e => ⟨e, fun _ h => h⟩) (fun _ d e => .inl ⟨d, e, rfl⟩) (fun _ _ _ _ _ _ h1 _ _ => ⟨h1, fun _ q => q⟩) (Le.refl G)⟩
  rcases R.st.new a e with z | z
  · exact hn a z
  · exact .inr z
theorem RelB.up {B : Bs} {σ : St} {H : Hp} {ρ : Env} {n : Nat} {G : Hp} {α : Nat → Addr} {G1 : Hp} (R : RelB B σ H ρ n G α) (le : Le G1 G) (l0 : Le B.G0 G1) : RelB { B with G0 := G1 } σ H ρ n G α := by
  refine ⟨⟨R.st.fr, le, R.st.hh, fun a e => ?_⟩, R.rg, R.J, R.len, R.val, R.own, R.inj, R.p0, R.gh.of rfl rfl rfl rfl (fun _ _ _ e => ⟨e, fun _ h => h⟩) (fun _ d e => .inl ⟨d, e, rfl⟩) (fun _ _ _ _ _ _ h1 _ _ => ⟨h1, fun _ q => q⟩) (Le.refl G)⟩
  rcases R.st.new a e with z | z
  · refine .inl ?_
    cases q : B.G0 a with
    | none => exact (z q).elim
    | some o =>
      obtain ⟨o', e', _⟩ := l0 a o q
      show G1 a ≠ none
      rw [e']
      exact fun z => nomatch z
  · exact .inr z
theorem Lk.up {B : Bs} {W : WX} {D : Ends} {E : DEnds} {G1 : Hp} (L : Lk B W D E) (le : Le B.G0 G1) (hn : ∀ a, G1 a ≠ none → B.G0 a ≠ none ∨ (B.H0 a = none ∧ ¬ B.W.rg a)) : Lk { B with G0 := G1 } W D E := by
  refine ⟨fun σ H ρ n G α R => L.nx σ H ρ n G α (R.down le hn), fun v H d n G s => L.rt v H d n G ⟨s.fr, le.trans s.le, s.hh, fun a e => ?_⟩, fun σ H ρ n G α R => L.bk σ H ρ n G α (R.down le hn), fun σ H ρ n G α R => L.ct σ H ρ n G α (R.down le hn), fun c dd σ H ρ n G α e R => L.ex c dd σ H ρ n G α e (R.down le hn), L.w, fun a H d n G s => L.ro a H d n G ⟨s.fr, le.trans s.le, s.hh, fun a e => ?_⟩⟩
  · rcases s.new a e with z | z
    · exact hn a z
    · exact .inr z
  · rcases s.new a e with z | z
    · exact hn a z
    · exact .inr z

def forD (γ : DG) (b : DS) : List D → DS
  | [] => fun E ρ n => E.nx ρ n
  | d :: ds => fun E ρ n => γ d ρ fun ρ1 => b { E with nx := forD γ b ds E, ct := forD γ b ds E, bk := E.nx } ρ1 n
def dFor (ι : DI) (γ : DG) (b : DS) : DS := fun E ρ n => ι (E.xx ρ) ρ n fun ds n1 => forD γ b ds E ρ n1
theorem sd_for {K : PySem.W.Frag} {W : WX} {wi : TI} {g : TG} {tb : TS} {ι : DI} {γ : DG} {b : DS} {sl : List Nat} (hi : EI K W wi ι) (hg : GD K sl g γ) (hb : SD K W tb b) : SD K W (tFor wi g tb) (dFor ι γ b) := by
  intro B σ H ρ n G α D E hK R L hd
  refine hi B σ H ρ n G α _ _ _ hK R (L.xl R) hd fun J H1 G1 ds n1 s1 j1 wk h1 => ?_
  have R1 := R.step s1 j1
  have l0 : Le B.G0 G1 := R1.st.le
  have hn := R1.st.new
  have L1 := L.up l0 hn
  refine ⟨fun i m σ H => m = ds.length - i ∧ i ≤ ds.length ∧ ∃ ρ n G α, RelB { B with G0 := G1 } σ H ρ n G α ∧ forD γ b (ds.drop i) E ρ n, ⟨ds.length, by simp, Nat.zero_le _, ρ, n1, G1, α, R1.up (Le.refl G1) l0, by simpa using h1⟩, ?_⟩
  rintro i m σ2 H2 ⟨rfl, hil, ρ2, n2, G2, α2, R2, h2⟩
  by_cases hlt : i < ds.length
  · refine .inr ⟨wk.goes i H2 G2 hlt R2.st.le R2.le, fun σ' H' => ∃ ρ n G α, RelB { B with G0 := G1 } σ' H' ρ n G α ∧ forD γ b (ds.drop (i + 1)) E ρ n, fun σ' H' p => ⟨ds.length - (i + 1), by omega, rfl, hlt, p⟩, fun x H' y => ?_⟩
    obtain ⟨d, G3, ed, s3, r3⟩ := wk.yields i H2 G2 x H' hlt R2.st.le R2.le y
    have ed' : ds.drop i = d :: ds.drop (i + 1) := by
      rw [List.drop_eq_getElem_cons hlt]
      have : ds[i] = d := by
        rw [List.getElem?_eq_getElem hlt] at ed
        exact Option.some.inj ed
      rw [this]
    rw [ed'] at h2
    have R3 := R2.step (s3.step R2.J) (s3.J R2.J)
    refine hg { B with G0 := G1 } σ2 H' ρ2 n2 G3 α2 x d _ _ hK R3 r3 h2 fun σ4 ρ4 R4 _ _ h4 => ?_
    exact hb { B with G0 := G1 } σ4 H' ρ4 n2 G3 α2 _ { E with nx := forD γ b (ds.drop (i + 1)) E, ct := forD γ b (ds.drop (i + 1)) E, bk := E.nx } hK R4 ⟨fun σ H ρ n G α R h => ⟨ρ, n, G, α, R, h⟩, L1.rt, L1.nx, fun σ H ρ n G α R h => ⟨ρ, n, G, α, R, h⟩, L1.ex, L1.w, L1.ro⟩ h4
  · have e : i = ds.length := by omega
    subst e
    refine .inl ⟨wk.stops H2 G2 R2.st.le R2.le, ?_⟩
    rw [List.drop_length] at h2
    exact L1.nx σ2 H2 ρ2 n2 G2 α2 R2 h2
section
variable {X : Cx} {W : WX} {tg iter c : Expr} {body : List Stmt} {pos : Pos} {ι : DI} {γ : DG} {b : DS} {τ : DT} {sl : List Nat}
theorem ps_forD (hp : PassesOwn (model X.prog X.w) X.A X.env X.xe) (hc : X.calm = true) (hi : PID X W tg iter ι) (hg : PGD X sl tg γ) (hb : PSsD X W body b)
    (hs : ∀ x, foldedSetIterable iter X.env x = pure x := by intro _; rfl) : PSD X W (.For tg iter body [] pos) (dFor ι γ b) := by
  obtain ⟨wi, pi, ei⟩ := hi
  obtain ⟨g, pg, eg⟩ := hg
  obtain ⟨tb, pb, eb⟩ := hb
  exact ⟨_, ps_for hp hc pi pg pb hs, sd_for ei eg eb⟩

end

def wipeD (ρ : Env) : List Nat → Env
  | [] => ρ
  | v :: vs => (wipeD ρ vs).set v none
theorem wipe_get (σ : St) (j : Nat) : ∀ vs : List Nat, (wipe σ vs)[j]? = if j ∈ vs then (if j < σ.length then some none else none) else σ[j]?
  | [] => by simp [wipe]
  | v :: vs => by
    unfold wipe
    rw [List.getElem?_set, wipe_length, wipe_get σ j vs]
    by_cases e : v = j
    · subst e
      simp
    · have e' : ¬ j = v := fun z => e z.symm
      simp [e, e']
theorem wipeD_length (ρ : Env) : ∀ vs : List Nat, (wipeD ρ vs).length = ρ.length
  | [] => rfl
  | v :: vs => by unfold wipeD; rw [List.length_set, wipeD_length ρ vs]
theorem wipeD_some {ρ : Env} {i : Nat} {x : Sl} : ∀ {vs : List Nat}, (wipeD ρ vs)[i]? = some (some x) → ρ[i]? = some (some x) ∧ i ∉ vs
  | [], h => ⟨h, by simp⟩
  | v :: vs, h => by
    unfold wipeD at h
    rw [List.getElem?_set] at h
    by_cases e : v = i
    · rw [if_pos e] at h
      split at h
      · injection h with h; cases h
      · cases h
    · rw [if_neg e] at h
      obtain ⟨h1, h2⟩ := wipeD_some h
      exact ⟨h1, fun z => (List.mem_cons.mp z).elim (fun q => e q.symm) h2⟩
theorem RelB.wipe {B : Bs} {σ : St} {H : Hp} {ρ : Env} {n : Nat} {G : Hp} {α : Nat → Addr} (R : RelB B σ H ρ n G α) (vs : List Nat) : RelB B (L2.wipe σ vs) H (wipeD ρ vs) n G α := by
  refine ⟨R.st, R.rg, R.J, by rw [wipe_length, wipeD_length, R.len], fun i d h => ?_, fun i d h => ?_, fun i j d e h h' => R.inj i j d e (wipeD_some h).1 (wipeD_some h').1, fun a d h h' => R.p0 a d h (wipeD_some h').1, R.gh.of rfl rfl rfl rfl (fun _ _ _ e => ⟨(wipeD_some e).1, fun _ q => by rw [wipe_out (wipeD_some e).2]; exact q⟩) (fun _ d e => .inl ⟨d, (wipeD_some e).1, rfl⟩) (fun _ _ _ _ _ _ h1 _ _ => ⟨h1, fun _ q => q⟩) (Le.refl G)⟩
  · obtain ⟨h1, h2⟩ := wipeD_some h
    obtain ⟨v, e, r⟩ := R.val i d h1
    exact ⟨v, by rw [wipe_out h2]; exact e, r⟩
  · obtain ⟨h1, h2⟩ := wipeD_some h
    obtain ⟨e, r⟩ := R.own i d h1
    exact ⟨by rw [wipe_out h2]; exact e, r⟩
abbrev x0 (w : Wd) : DX := ⟨fun _ _ => False, w⟩
abbrev W0 : WX := fun _ _ _ _ => False
def lcD (w : Wd) (γ : DG) (tt : DT) (te : DE) : List D → Env → Nat → List D → (List D → Nat → Prop) → Prop
  | [], _, n, acc, q => q acc n
  | d :: ds, ρ, n, acc, q => γ d ρ fun ρ1 => tt (x0 w) ρ1 n fun b n1 => if b = true then te (x0 w) ρ1 n1 fun y n2 => acc.length < 16777216 ∧ lcD w γ tt te ds ρ n2 (acc ++ [y]) q else lcD w γ tt te ds ρ n1 acc q
def dLc (ι : DI) (γ : DG) (tt : DT) (te : DE) (vs : List Nat) : DE := fun x ρ n q => ι x ρ n fun ds n1 => lcD x.w γ tt te ds (wipeD ρ vs) n1 [] fun es n2 => q (.lst es) n2
theorem xl0 {B : Bs} {W : WX} {σ : St} {H G : Hp} : XL B W σ H G (x0 B.W) := ⟨rfl, fun _ _ _ _ _ _ _ _ _ h => h.elim⟩
theorem Step.keepD {W : Wd} {H G H' G' : Hp} (s : Step W H G H' G') {a : Addr} {o : HO} (h : H a = some o) (g : G a = none) : G' a = none := by
  cases e : G' a with
  | none => rfl
  | some u =>
    rcases s.new a (by rw [e]; exact fun z => nomatch z) with z | ⟨z, _⟩
    · exact (z g).elim
    · rw [h] at z; cases z
theorem Step.updD {W : Wd} {H G H' G' : Hp} (s : Step W H G H' G') {a : Addr} {o : HO} (h : H a = none) (g : G' a = none) : Step W H G (upd H' a o) G' := by
  refine ⟨fun b u e r => by rw [upd_ne (ne_of_none e h)]; exact s.fr b u e r, s.le, fun b u e => ?_, s.new⟩
  obtain ⟨o', e', c⟩ := s.hh b u e
  exact ⟨o', by rw [upd_ne (ne_of_none e g)]; exact e', c⟩
theorem ef_lc {K : PySem.W.Frag} {W : WX} {wi : TI} {g : TG} {tt : TT} {te : TE} {vs : List Nat} {ι : DI} {γ : DG} {τ : DT} {δ : DE} {sl : List Nat} (hsl : ∀ i ∈ sl, i ∈ vs) (hi : EI K W wi ι) (hg : GD K sl g γ) (ht : ET K W0 tt τ) (he : ED K W0 te δ) : EF K W (tLc wi g tt te vs) (dLc ι γ τ δ vs) := by
  intro B σ H ρ n G α Q x q hK R hx hd k
  refine hi B σ H ρ n G α _ x _ hK R hx hd fun J H1 G1 ds n1 s1 j1 wk h1 => ?_
  have R1 := R.step s1 j1
  intro D hD
  have nr : ¬ B.W.rg D := fun r => B.W.there n1 H1 D j1 r hD
  have g1 : G1 D = none := by
    cases q : G1 D with
    | none => rfl
    | some u =>
      obtain ⟨o', e', _⟩ := s1.hh D u q
      rw [hD] at e'; cases e'
  have h0 : H D = none := by
    cases e : H D with
    | none => rfl
    | some o => rw [s1.fr D o e nr] at hD; cases hD
  have s0 := StepP.laid (o := .lst []) s1.hh hD
  refine ⟨fun i m H => m = ds.length - i ∧ i ≤ ds.length ∧ ∃ n G acc us, Step B.W H1 G1 H G ∧ B.W.J n H ∧ H D = some (.lst us) ∧ G D = none ∧ RepL K G acc us ∧ lcD B.W γ τ δ (ds.drop i) (wipeD ρ vs) n acc fun es n2 => q (.lst es) n2,
    ⟨ds.length, by simp, Nat.zero_le _, n1, G1, [], [], s0.step j1, s0.J j1, upd_same, g1, .nil, by rw [hx.1] at h1; simpa using h1⟩, ?_⟩
  rintro i m H2 ⟨rfl, hil, n2, G2, acc, us, s2, j2, hD2, gD2, ra, h2⟩
  by_cases hlt : i < ds.length
  · refine .inr ⟨wk.goes i H2 G2 hlt s2.le s2.hh, fun H' => ∃ n G acc us, Step B.W H1 G1 H' G ∧ B.W.J n H' ∧ H' D = some (.lst us) ∧ G D = none ∧ RepL K G acc us ∧ lcD B.W γ τ δ (ds.drop (i + 1)) (wipeD ρ vs) n acc fun es n2 => q (.lst es) n2, fun H' p => ⟨ds.length - (i + 1), by omega, rfl, hlt, p⟩, fun y H' yl => ?_⟩
    obtain ⟨d, G3, ed, s3, r3⟩ := wk.yields i H2 G2 y H' hlt s2.le s2.hh yl
    have ed' : ds.drop i = d :: ds.drop (i + 1) := by
      rw [List.drop_eq_getElem_cons hlt]
      have : ds[i] = d := by
        rw [List.getElem?_eq_getElem hlt] at ed
        exact Option.some.inj ed
      rw [this]
    rw [ed'] at h2
    have t3 := s3.step j2
    have R3 := ((R1.step s2 j2).step t3 (s3.J j2)).wipe vs
    have hD3 := s3.fr D _ hD2
    have gD3 := t3.keepD hD2 gD2
    refine hg B (wipe σ vs) H' (wipeD ρ vs) n2 G3 α y d _ _ hK R3 r3 h2 fun σ4 ρ4 R4 f4 l4 h4 => ⟨?_, ?_⟩
    · refine List.ext_getElem? fun j => ?_
      rw [wipe_get, wipe_get, l4, wipe_length]
      by_cases hj : j ∈ vs
      · rw [if_pos hj, if_pos hj]
      · rw [if_neg hj, if_neg hj, f4 j (fun z => hj (hsl j z)), wipe_out hj]
    · refine ht B σ4 H' ρ4 n2 G3 α _ (x0 B.W) _ hK R4 xl0 h4 fun b H5 G5 n5 s5 j5 h5 => ?_
      have hD5 := s5.fr D _ hD3 nr
      have gD5 := s5.keepD hD3 gD3
      cases b with
      | true =>
        rw [if_pos rfl] at h5 ⊢
        refine he B σ4 H5 ρ4 n5 G5 α _ (x0 B.W) _ hK (R4.step s5 j5) xl0 h5 fun v H6 G6 dy n6 s6 j6 r6 h6 => ?_
        have hD6 := s6.fr D _ hD5 nr
        have gD6 := s6.keepD hD5 gD5
        have t6 : Step B.W H1 G1 H6 G6 := s2.trans (t3.trans (s5.trans s6))
        have ra6 : RepL K G6 acc us := ra.mono ((t3.trans (s5.trans s6)).le)
        refine ⟨us, hD6, by rw [sizeLine_eq, ← ra6.length]; exact h6.1, n6, G6, acc ++ [dy], us ++ [v], t6.updD hD gD6, B.W.stable _ _ _ (fun a r => upd_ne (fun z : a = D => nr (z ▸ r))) (fun a e q => (upd_ne fun z : a = D => by rw [z, hD6] at q; cases q).trans q) j6, upd_same, gD6, ra6.snoc r6, h6.2⟩
      | false =>
        rw [if_neg Bool.false_ne_true] at h5 ⊢
        exact ⟨n5, G5, acc, us, s2.trans (t3.trans s5), j5, hD5, gD5, ra.mono ((t3.trans s5).le), h5⟩
  · have e : i = ds.length := by omega
    subst e
    refine .inl ⟨wk.stops H2 G2 s2.le s2.hh, ?_⟩
    rw [List.drop_length] at h2
    exact k D H2 G2 (.lst acc) n2 (s1.trans s2) j2 h0 gD2 nr ⟨us, hD2, ra⟩ h2
def PTsD (X : Cx) (ifs : List Expr) (τ : DT) : Prop := ∃ t, PTs X ifs t ∧ ET X.K W0 t τ
def dYes : DT := fun _ _ n q => q true n
section
variable {X : Cx} {W : WX}
theorem ptsD_nil : PTsD X [] dYes := ⟨_, pts_nil, fun B σ H ρ n G α Q x q hK R hx hd k => k true H G n (.refl _ R.le) R.J hd⟩
theorem ptsD_one {c : Expr} {τ : DT} (h : PTD X W0 c τ) : PTsD X [c] τ := by
  obtain ⟨t, p, e⟩ := h
  exact ⟨t, pts_one p, e⟩
end
end DL

end

section
set_option autoImplicit false
namespace DL
open PySem PySem.Spec L2

def tOf (K : PySem.W.Frag) (W : WX) (δ : DE) : TE := fun σ H Q => ∃ (B : Bs) (ρ : Env) (n : Nat) (G : Hp) (α : Nat → Addr) (x : DX) (q : DQ), B.K = K ∧ RelB B σ H ρ n G α ∧ XL B W σ H G x ∧ δ x ρ n q ∧
  (∀ v H' G' d n', Step B.W H G H' G' → B.W.J n' H' → Rep K G' d v → q d n' → Q v H')
def tOfT (K : PySem.W.Frag) (W : WX) (δ : DT) : TT := fun σ H Q => ∃ (B : Bs) (ρ : Env) (n : Nat) (G : Hp) (α : Nat → Addr) (x : DX) (q : Bool → Nat → Prop), B.K = K ∧ RelB B σ H ρ n G α ∧ XL B W σ H G x ∧ δ x ρ n q ∧
  (∀ b H' G' n', Step B.W H G H' G' → B.W.J n' H' → q b n' → Q b H')
def gOf (K : PySem.W.Frag) (sl : List Nat) (γ : DG) : TG := fun v σ H Q => ∃ (B : Bs) (ρ : Env) (n : Nat) (G : Hp) (α : Nat → Addr) (d : D) (q : Env → Prop), B.K = K ∧ RelB B σ H ρ n G α ∧ Rep K G d v ∧ γ d ρ q ∧
  (∀ σ' ρ', RelB B σ' H ρ' n G α → (∀ j, j ∉ sl → σ'[j]? = σ[j]?) → σ'.length = σ.length → q ρ' → Q σ' H)
theorem ed_tOf {K : PySem.W.Frag} {W : WX} {δ : DE} : ED K W (tOf K W δ) δ := fun B σ H ρ n G α Q x q hK R hx hd k => ⟨B, ρ, n, G, α, x, q, hK, R, hx, hd, k⟩
theorem et_tOf {K : PySem.W.Frag} {W : WX} {δ : DT} : ET K W (tOfT K W δ) δ := fun B σ H ρ n G α Q x q hK R hx hd k => ⟨B, ρ, n, G, α, x, q, hK, R, hx, hd, k⟩
theorem gd_gOf {K : PySem.W.Frag} {sl : List Nat} {γ : DG} : GD K sl (gOf K sl γ) γ := fun B σ H ρ n G α v d Q q hK R r hd k => ⟨B, ρ, n, G, α, d, q, hK, R, r, hd, k⟩
section
variable {X : Cx} {W : WX}
theorem PD.pe {e : Expr} {δ : DE} (h : PD X W e δ) : PE X e (tOf X.K W δ) := by
  obtain ⟨t, p, h⟩ := h
  refine ⟨fun pins s σ H Q I hw => ?_⟩
  obtain ⟨B, ρ, n, G, α, x, q, hK, R, hx, hd, k⟩ := hw
  exact p.run pins s σ H Q I (h B σ H ρ n G α Q x q hK R hx hd k)
theorem PTD.pt {e : Expr} {δ : DT} (h : PTD X W e δ) : PT X e (tOfT X.K W δ) := by
  obtain ⟨t, p, h⟩ := h
  refine ⟨fun pins s σ H Q I hw => ?_⟩
  obtain ⟨B, ρ, n, G, α, x, q, hK, R, hx, hd, k⟩ := hw
  exact p.run pins s σ H Q I (h B σ H ρ n G α Q x q hK R hx hd k)
theorem PTsD.pts {e : List Expr} {δ : DT} (h : PTsD X e δ) : PTs X e (tOfT X.K W0 δ) := by
  obtain ⟨t, p, h⟩ := h
  refine ⟨fun pins s σ H Q I hw => ?_⟩
  obtain ⟨B, ρ, n, G, α, x, q, hK, R, hx, hd, k⟩ := hw
  exact p.run pins s σ H Q I (h B σ H ρ n G α Q x q hK R hx hd k)
theorem PGD.pg {tg : Expr} {sl : List Nat} {γ : DG} (h : PGD X sl tg γ) : PG X tg (gOf X.K sl γ) := by
  obtain ⟨g, p, h⟩ := h
  refine ⟨fun pins s σ H v u Q I r hw => ?_⟩
  obtain ⟨B, ρ, n, G, α, d, q, hK, R, rd, hd, k⟩ := hw
  exact p.run pins s σ H v u Q I r (h B σ H ρ n G α v d Q q hK R rd hd k)
variable {elt tg iter : Expr} {ifs : List Expr} {scope : Scope} {own : List (Str × Nat)} {pos spos py : Pos} {ι : DI} {γ : DG} {τ : DT} {δ : DE} {sl : List Nat} {y : Str}
theorem pf_lc (own : List (Str × Nat)) (hc : X.calm = true) (hN : X.N.Nodup) (hi : PID X W tg iter ι) (ok : BlkOk X.N X.env.scope scope own)
    (hg : ∀ (s : Shared) (H : Hp) (C : Addr) (cl : List (Str × Addr)) (fp : List Addr), PGD (X.blk s H scope (compEnvC scope cl C X.env) fp) sl tg γ)
    (ht : ∀ (s : Shared) (H : Hp) (C : Addr) (cl : List (Str × Addr)) (fp : List Addr), PTsD (X.blk s H scope (compEnvC scope cl C X.env) fp) ifs τ)
    (he : ∀ (s : Shared) (H : Hp) (C : Addr) (cl : List (Str × Addr)) (fp : List Addr), PD (X.blk s H scope (compEnvC scope cl C X.env) fp) W0 elt δ) (hsl : ∀ i ∈ sl, i ∈ own.map (·.2) := by decide)
    (hs : ∀ x, foldedSetIterable iter X.env x = pure x := by intro _; rfl) : PF X W (.ListComp elt [⟨tg, iter, ifs, 0⟩] scope pos) (dLc ι γ τ δ (own.map (·.2))) := by
  obtain ⟨wi, pi, ei⟩ := hi
  exact ⟨_, pe_lc hc hN pi ok (fun s H C cl fp => (hg s H C cl fp).pg) (fun s H C cl fp => (ht s H C cl fp).pts) (fun s H C cl fp => (he s H C cl fp).pe) hs, ef_lc hsl ei gd_gOf et_tOf ed_tOf⟩
theorem EF.ed {K : PySem.W.Frag} {t : TE} {δ : DE} (h : EF K W t δ) (hl : ∀ x ρ n q, δ x ρ n q → δ x ρ n fun d n => (∀ kvs, d ≠ .dct kvs) ∧ q d n) : ED K W t δ := by
  refine fun B σ H ρ n G α Q x q hK R hx hd k => h B σ H ρ n G α Q x _ hK R hx (hl _ _ _ _ hd) fun a H' G' d n' s j np ng nr o hq => ?_
  obtain ⟨ob, e, l1, l2, r⟩ := DL.freezeL s.hh ng o hq.1
  exact k _ H' (upd G' a ob) d n' (s.frozen np nr (fun _ _ => rfl) l1 l2) j r hq.2
end

def iSeq (K : PySem.W.Frag) (tl : TE) : TI := fun σ H R => tl σ H fun x H1 => ∃ a, x = .ref a ∧ (((∃ xs, SqL K H1 a xs) ∧ R (Itl K a) H1) ∨ ((∃ xs, SqT K H1 a xs) ∧ R (Itt K a) H1))
theorem seq_val {X : Cx} {tg : Expr} {pins : List (Addr × Obj)} {σ : St} {H1 : Hp} {s1 : Shared} {R : It → Hp → Prop} {a : Addr} (I1 : Inv X pins σ H1 s1) (q1 : ((∃ xs, SqL X.K H1 a xs) ∧ R (Itl X.K a) H1) ∨ ((∃ xs, SqT X.K H1 a xs) ∧ R (Itt X.K a) H1)) : wpAny (model X.prog X.w) X.A (pyIter (.ref a)) (PIE X pins σ tg R) X.xe s1 := by
  rcases q1 with ⟨⟨xs, hq⟩, q⟩ | ⟨⟨xs, hq⟩, q⟩
  · obtain ⟨its, rv, p, hz⟩ := I1.list hq
    refine wpAny_pyIter_list p.isList ?_
    refine ⟨s1.heap.objs.size, [s1.heap.objs.size], _, _, H1, rfl, I1.kept (t' := s1.toks) fun b o e => Heap.get?_push_of_some _ e, turn_list a _, ⟨_, Heap.get?_push_size _ rfl, rfl, rfl⟩, fun b hb => ?_, q⟩
    have e : b = s1.heap.objs.size := by simpa using hb
    subst e
    exact I1.fpOk (Nat.le_refl _) (I1.hok.fresh (Nat.le_refl _))
  · obtain ⟨its, rv, p, hz⟩ := I1.tuple hq
    refine wpAny_pyIter_tuple (show s1.heap.IsTuple a its.toArray from p) ?_
    refine ⟨s1.heap.objs.size, [s1.heap.objs.size], _, _, H1, rfl, I1.kept (t' := s1.toks) fun b o e => Heap.get?_push_of_some _ e, turn_tuple a _, ⟨_, Heap.get?_push_size _ rfl, rfl, rfl⟩, fun b hb => ?_, q⟩
    have e : b = s1.heap.objs.size := by simpa using hb
    subst e
    exact I1.fpOk (Nat.le_refl _) (I1.hok.fresh (Nat.le_refl _))
theorem pi_seq {X : Cx} {tg l : Expr} {tl : TE} (hl : PE X l tl) : PI X tg l (iSeq X.K tl) := by
  refine ⟨fun pins s σ H R I h => ?_⟩
  refine thn (hl.run pins s σ H _ I h) fun v s1 ⟨x, H1, I1, r1, q1⟩ => ?_
  obtain ⟨a, e, q1⟩ := q1
  subst e
  cases r1
  exact seq_val I1 q1
section
variable {K : PySem.W.Frag}
theorem walkD_list {G : Hp} {a : Addr} {vs : List V} {ds : List D} (e : G a = some (.lst vs)) (r : RepL K G ds vs) : WalkD K (Itl K a) G ds := by
  have w := walk_list (K := K) (a := a) (xs := vs)
  have hl := r.length
  refine ⟨fun i H G' hi l1 l2 => w.goes i H (by omega) (SqL.of (l2.get (l1.get e))), fun H G' l1 l2 => by rw [hl]; exact w.stops H (SqL.of (l2.get (l1.get e))), fun i H G' x H' hi l1 l2 y => ?_⟩
  obtain ⟨e1, e2⟩ := w.yields i H x H' (by omega) (SqL.of (l2.get (l1.get e))) y
  subst e1
  obtain ⟨d, h1, h2⟩ := r.getV e2
  exact ⟨d, G', h1, .refl l2, h2.mono l1⟩
theorem walkD_rol {G : Hp} {a : Addr} {o : Obj} {vs : List V} {ds : List D} (e : G a = some (.frz o (.lst vs))) (r : RepL K G ds vs) : WalkD K (Itl K a) G ds := by
  have w := walk_list (K := K) (a := a) (xs := vs)
  have hl := r.length
  have sq : ∀ {H G' : Hp}, Le G G' → Le G' H → SqL K H a vs := fun l1 l2 => .inl (.inr ⟨_, l2.get (l1.get e)⟩)
  refine ⟨fun i H G' hi l1 l2 => w.goes i H (by omega) (sq l1 l2), fun H G' l1 l2 => by rw [hl]; exact w.stops H (sq l1 l2), fun i H G' x H' hi l1 l2 y => ?_⟩
  obtain ⟨e1, e2⟩ := w.yields i H x H' (by omega) (sq l1 l2) y
  subst e1
  obtain ⟨d, h1, h2⟩ := r.getV e2
  exact ⟨d, G', h1, .refl l2, h2.mono l1⟩
theorem walkD_tup {G : Hp} {a : Addr} {vs : List V} {ds : List D} (e : SqT K G a vs) (r : RepL K G ds vs) : WalkD K (Itt K a) G ds := by
  have w := walk_tup (K := K) (a := a) (xs := vs)
  have hl := r.length
  refine ⟨fun i H G' hi l1 l2 => w.goes i H (by omega) (l2.sqT (l1.sqT e)), fun H G' l1 l2 => by rw [hl]; exact w.stops H (l2.sqT (l1.sqT e)), fun i H G' x H' hi l1 l2 y => ?_⟩
  obtain ⟨e1, e2⟩ := w.yields i H x H' (by omega) (l2.sqT (l1.sqT e)) y
  subst e1
  obtain ⟨d, h1, h2⟩ := r.getV e2
  exact ⟨d, G', h1, .refl l2, h2.mono l1⟩
def rngD (lo : Int) (n : Nat) : List D := (List.range n).map fun (i : Nat) => D.int (lo + (i : Int))
def rngC (lo c : Int) (n : Nat) : List D := (List.range n).map fun (i : Nat) => D.int (lo + (i : Int) * c)
theorem walkD_range {G : Hp} (lo : Int) (n : Nat) : WalkD K (Itr lo n) G (rngD lo n) := by
  have w := walk_range (lo := lo) (n := n)
  have hl : (rngD lo n).length = n := by simp [rngD]
  refine ⟨fun i H G' hi l1 l2 => w.goes i H (by omega) trivial, fun H G' l1 l2 => by rw [hl]; exact w.stops H trivial, fun i H G' x H' hi l1 l2 y => ?_⟩
  obtain ⟨e1, e2⟩ := w.yields i H x H' (by omega) trivial y
  subst e1
  subst e2
  exact ⟨.int (lo + i), G', by simp [rngD, show i < n by omega], .refl l2, .int _⟩
end
def iSq (δ : DE) : DI := fun x ρ n q => δ x ρ n fun d n1 => opt (seqD d) fun ds => q ds n1
def iR1 (a : DA) : DI := fun x ρ n q => a x ρ n fun ds n1 => match ds with
  | [.int j] => (-(2 ^ 62) ≤ j ∧ j < 2 ^ 62) ∧ q (rngD 0 j.toNat) n1
  | _ => False
def iR2 (a : DA) : DI := fun x ρ n q => a x ρ n fun ds n1 => match ds with
  | [.int i, .int j] => (-(2 ^ 62) ≤ i ∧ i < 2 ^ 62 ∧ -(2 ^ 62) ≤ j ∧ j < 2 ^ 62) ∧ q (rngD i (j - i).toNat) n1
  | _ => False
def iR3 (a : DA) : DI := fun x ρ n q => a x ρ n fun ds n1 => match ds with
  | [.int i, .int j, .int c] => c = -1 ∧ (-(2 ^ 62) ≤ i ∧ i < 2 ^ 62 ∧ -(2 ^ 62) ≤ j ∧ j < 2 ^ 62) ∧ q (rngC i (-1) (i - j).toNat) n1
  | _ => False
section
variable {X : Cx} {W : WX} {tg e a b c : Expr} {δ : DE} {α' : DA} {p pos : Pos}
theorem pid_seq (h : PD X W e δ) : PID X W tg e (iSq δ) := by
  obtain ⟨t, pe, h⟩ := h
  refine ⟨_, pi_seq pe, fun B σ H ρ n G α R x q hK RB hx hd k => ?_⟩
  refine h B σ H ρ n G α _ x _ hK RB hx hd fun v H1 G1 d n1 s1 j1 r1 h1 => ?_
  obtain ⟨ds, e1, h1⟩ := opt_some h1
  cases r1 with
  | lst e r =>
    cases e1
    exact ⟨_, rfl, .inl ⟨⟨_, SqL.of (s1.hh.get e)⟩, k _ H1 G1 ds n1 s1 j1 (walkD_list e r) h1⟩⟩
  | tup e r =>
    cases e1
    exact ⟨_, rfl, .inr ⟨⟨_, s1.hh.sqT e⟩, k _ H1 G1 ds n1 s1 j1 (walkD_tup e r) h1⟩⟩
  | rol e r =>
    cases e1
    exact ⟨_, rfl, .inl ⟨⟨_, .inl (.inr ⟨_, s1.hh.get e⟩)⟩, k _ H1 G1 ds n1 s1 j1 (walkD_rol e r) h1⟩⟩
  | _ => exact nomatch e1
theorem pid_r1 (hg : Gl X "range") (hm : X.mg "range" = none) (ha : PAB X W [a] α') (hs : starEach [a] X.env = [(false, eval a X.env)] := by rfl) : PID X W tg (.Call (.Name "range" p) [a] [] pos) (iR1 α') := by
  obtain ⟨t, pa, h⟩ := ha
  refine ⟨_, pi_range1 hg hm pa hs, fun B σ H ρ n G α R x q hK RB hx hd k => ?_⟩
  refine h B σ H ρ n G α _ x _ hK RB hx hd fun vs H1 G1 ds n1 s1 j1 r1 h1 => ?_
  split at h1
  · rename_i j
    obtain ⟨v, rfl, r⟩ := r1.one
    exact ⟨j, by rw [r.int], h1.1.1, h1.1.2, k _ H1 G1 _ n1 s1 j1 (walkD_range 0 j.toNat) h1.2⟩
  · exact h1.elim
end
end DL

end

section
set_option autoImplicit false
namespace DL
open PySem PySem.Spec L2

abbrev DF := Wd → List D → Nat → DQ → (Xn → Nat → Prop) → Prop
def spW (K : PySem.W.Frag) (m : Nat) (F : DF) : Sp := fun vs H Q E => ∃ (W : Wd) (n : Nat) (G : Hp) (ds : List D) (q : DQ) (x : Xn → Nat → Prop), Le G H ∧ (∀ a, W.rg a → G a = none) ∧ W.J n H ∧ RepL K G ds vs ∧ ds.length = m ∧ F W ds n q x ∧
  (∀ v H' G' d n', Step W H G H' G' → W.J n' H' → Rep K G' d v → q d n' → Q v H') ∧
  (∀ c dd H' G' e n', Step W H G H' G' → W.J n' H' → XRep K W H G' H' e c dd → x e n' → E c dd H')
abbrev DFI := Wd → List D → Nat → (List (Str × D) → Nat → Prop) → (Xn → Nat → Prop) → Prop
def but (H : Hp) (x : Addr) : Hp := fun a => if a = x then none else H a
theorem but_ne {H : Hp} {x a : Addr} (h : a ≠ x) : but H x a = H a := if_neg h
theorem but_same {H : Hp} {x : Addr} : but H x x = none := if_pos rfl
def spI (K : PySem.W.Frag) (c : Str) (m : Nat) (F : DFI) : Sp := fun vs H Q E => ∃ (W : Wd) (n : Nat) (G : Hp) (x dx : Addr) (us : List V) (ds : List D) (q : List (Str × D) → Nat → Prop) (xx : Xn → Nat → Prop),
  vs = .ref x :: us ∧ H x = some (.ins (ca K c) dx []) ∧ G x = none ∧ ¬ W.rg x ∧ Le G H ∧ (∀ a, W.rg a → G a = none) ∧ W.J n H ∧ RepL K G ds us ∧ ds.length + 1 = m ∧ F W ds n q xx ∧
  (∀ H' G' fs ws dy n', Step W (but H x) G H' G' → W.J n' H' → G' x = none → H' x = some (.ins (ca K c) dy ws) → RepF K G' fs ws → q fs n' → Q .non H') ∧
  (∀ cc dd H' G' e n', Step W (but H x) G H' G' → W.J n' H' → XRep K W (but H x) G' H' e cc dd → xx e n' → E cc dd H')

section
variable {X : Cx} {CX : CXT} {k : Nat} {f C : Addr} {fd : FuncData} {ps : List Str} {sp : Sp} {dvs : List V} {ds : List Value} {E : St → XK} {x m : Str} {p pos apos : Pos} {e o : Expr} {es : List Expr} {ta : TE} {t : TA}
def tMethSD (C : Addr) (m : Str) (sp : Sp) (dvs : List V) (E : St → XK) (ta : TE) (t : TA) : TE := fun σ H Q => ta σ H fun x H1 => ∃ a dx fs, x = .ref a ∧ H1 a = some (.ins C dx fs) ∧ fs.lookup m = none ∧
  t σ H1 fun vs H2 => sp (x :: (vs ++ dvs)) H2 Q (E σ)
theorem pe_methSD0 {pl : Sem Bool} (he : PE X o ta) (c : Cls X.K C) (hm : Meth X.K C m f) (F : FnOk X.prog X.w X.K X.mg X.base CX k f fd ps sp) (hr : Room k X.A) (hb : Binds X.K fd ps ds) (hd : Vals dvs ds) (hx : ∀ σ, PassesAt CX X σ (E σ))
    (ht : eval (.Call (.Attribute o m apos) [] [] pos) X.env = (do
      let ov ← eval o X.env
      standAt apos.atName
      let (f, first) ← holding [ov] (getMethod ov m pl)
      callWith pos f first (backTo pos (starEach [] X.env)) (backToKw pos (keywordEach [] X.env))) := by rfl) :
    PE X (.Call (.Attribute o m apos) [] [] pos) (tMethSD C m sp dvs E ta tNil) := by
  refine ⟨fun pins s σ H Q I h => ?_⟩
  refine PySem.W.methodCall_KW (pl := pl) (thn (he.run pins s σ H _ I h) fun u s1 ⟨x, H1, I1, rx, a, dx, fs, ex, ea, l, q⟩ => ?_) ht
  subst ex
  obtain rfl : u = Value.ref a := rx
  refine getmeth_ok I1 ea c hm l ?_
  exact PySem.W.callWith_K0 (first := [.ref a]) I1.kIn hm.kp (run_fnSD (us := [.ref a]) (vs := [.ref a]) F hr hb hd (hx σ) I1 (.cons rfl .nil) q)
def tMakeSD (C : Addr) (sp : Sp) (dvs : List V) (E : St → XK) (t : TA) : TE := fun σ H Q => t σ H fun vs H1 => ∀ x dx, H1 x = none → H1 dx = none → dx ≠ x →
  sp (.ref x :: (vs ++ dvs)) (upd (upd H1 dx (.own x)) x (.ins C dx [])) (fun v H2 => v = .non ∧ Q (.ref x) H2) (E σ)
theorem run_makeSD {pins : List (Addr × Obj)} {σ : St} {H : Hp} {s : Shared} {Q : VK} {us : List Value} {vs : List V} (M : Mk X.K C f) (F : FnOk X.prog X.w X.K X.mg X.base CX k f fd ps sp) (hr : Room (k + 1) X.A) (hb : Binds X.K fd ps ds) (hd : Vals dvs ds)
    (hx : PassesAt CX X σ (E σ)) (I : Inv X pins σ H s) (r : Vals vs us)
    (h : ∀ x dx, H x = none → H dx = none → dx ≠ x → sp (.ref x :: (vs ++ dvs)) (upd (upd H dx (.own x)) x (.ins C dx [])) (fun v H2 => v = .non ∧ Q (.ref x) H2) (E σ)) :
    wpAny (model X.prog X.w) X.A (call (.ref C) us) (EP X pins σ Q) X.xe s := by
  have hq := h (s.heap.objs.size + 1) s.heap.objs.size (I.hok.fresh (Nat.le_succ _)) (I.hok.fresh (Nat.le_refl _)) (Nat.ne_of_lt (Nat.lt_succ_self _))
  have I2 := Inv.made (C := C) I
  have r2 : Vals (V.ref (s.heap.objs.size + 1) :: (vs ++ dvs)) (Value.ref (s.heap.objs.size + 1) :: (us ++ ds)) := .cons rfl (r.append hd)
  have hl : (Value.ref (s.heap.objs.size + 1) :: us ++ ds).length = ps.length := by
    have e := r2.length
    rw [F.len _ _ _ _ hq] at e
    exact e.symm
  refine wpAny_call (make_map (f := f) I.kIn M.makes M.init (beq_iff_eq.mp M.fn) (codeAny_mono (F.run _ X.stack _ _ ⟨Value.ref (s.heap.objs.size + 1) :: us, []⟩ (Value.ref (s.heap.objs.size + 1) :: (us ++ ds)) _ _ (E σ) (hr.make C us [])
    (I2.env0.make C us []) (hb _ (Value.ref (s.heap.objs.size + 1) :: us) I2.kIn hl) r2 hq) fun r s' hq' => ?_))
  cases r with
  | error e => exact hx pins _ _ e s' I2 hq'
  | ok fl =>
    cases fl with
    | ret u =>
      obtain ⟨v, H', I3, rv, ev, q3⟩ := I2.after hq'
      subst ev
      exact ⟨rv, ⟨V.ref (s.heap.objs.size + 1), H', I3, rfl, q3⟩⟩
    | next => exact False.elim hq'
    | brk => exact False.elim hq'
    | cont => exact False.elim hq'
theorem pe_makeSD (M : Mk X.K C f) (F : FnOk X.prog X.w X.K X.mg X.base CX k f fd ps sp) (hr : Room (k + 1) X.A) (hg : Gl X x) (hm : X.mg x = some (.ref C)) (hb : Binds X.K fd ps ds) (hd : Vals dvs ds) (hx : ∀ σ, PassesAt CX X σ (E σ))
    (ha : PA X (e :: es) t) (hdb : (x == ("__debug__" : Str)) = false := by decide) (he : starEach (e :: es) X.env = (false, eval e X.env) :: starEach es X.env := by rfl) (hpl : (backTo pos (starEach es X.env)).any (·.1) = false := by rfl) :
    PE X (.Call (.Name x p) (e :: es) [] pos) (tMakeSD C sp dvs E t) := by
  refine ⟨fun pins s σ H Q I h => ?_⟩
  refine wpAny_Call_Name_kw (ld_glob I hg hm ?_ hdb)
  refine PySem.W.callWith_K (h₀ := X.base) I.ok.mod.kin M.kp (thn (ha.run pos pins s σ H _ I h) fun us s1 ⟨vs, H1, I1, r, q⟩ => ⟨I1.kIn, ?_⟩) he hpl
  exact run_makeSD M F hr hb hd (hx σ) I1 r q
end

structure Sg (P : Program) (w : World) (K : PySem.W.Frag) (mg : Str → Option Value) (base : Heap) (x : Str) (k m : Nat) (F : DF) (dvd : List D) : Prop where
  ex : ∃ (f : Addr) (fd : FuncData) (ps : List Str) (ds : List Value) (dvs : List V), FnOk P w K mg base (L2.CX P w) k f fd ps (spW K m F) ∧ mg x = some (.ref f) ∧ PySem.W.keepIn K (.ref f) = true ∧ Binds K fd ps ds ∧ Vals dvs ds ∧ ∀ G, RepL K G dvd dvs
structure Mg (P : Program) (w : World) (K : PySem.W.Frag) (mg : Str → Option Value) (base : Heap) (c x : Str) (k m : Nat) (F : DF) (dvd : List D) : Prop where
  cl : Cls K (ca K c)
  ex : ∃ (f : Addr) (fd : FuncData) (ps : List Str) (ds : List Value) (dvs : List V), FnOk P w K mg base (L2.CX P w) k f fd ps (spW K m F) ∧ Meth K (ca K c) x f ∧ Binds K fd ps ds ∧ Vals dvs ds ∧ ∀ G, RepL K G dvd dvs
structure Ig (P : Program) (w : World) (K : PySem.W.Frag) (mg : Str → Option Value) (base : Heap) (c : Str) (k m : Nat) (F : DFI) (dvd : List D) : Prop where
  gl : mg c = some (.ref (ca K c))
  ex : ∃ (f : Addr) (fd : FuncData) (ps : List Str) (ds : List Value) (dvs : List V), FnOk P w K mg base (L2.CX P w) k f fd ps (spI K c m F) ∧ Mk K (ca K c) f ∧ Binds K fd ps ds ∧ Vals dvs ds ∧ ∀ G, RepL K G dvd dvs
def dCall (m : Nat) (F : DF) (dvd : List D) (a : DA) : DE := fun x ρ n q => a x ρ n fun ds n1 => (ds ++ dvd).length = m ∧ F x.w (ds ++ dvd) n1 q x.ex
def dMeth (c y : Str) (m : Nat) (F : DF) (dvd : List D) (δ : DE) (a : DA) : DE := fun x ρ n q => δ x ρ n fun d n1 => match d with
  | .obj c' fs => c' = c ∧ fs.lookup y = none ∧ a x ρ n1 fun ds n2 => (ds ++ dvd).length + 1 = m ∧ F x.w (.obj c' fs :: (ds ++ dvd)) n2 q x.ex
  | _ => False
def dMake (c : Str) (m : Nat) (F : DFI) (dvd : List D) (a : DA) : DE := fun x ρ n q => a x ρ n fun ds n1 => (ds ++ dvd).length + 1 = m ∧ F x.w (ds ++ dvd) n1 (fun fs n2 => q (.obj c fs) n2) x.ex
section
variable {X : Cx} {W : WX} {k m : Nat} {F : DF} {FI : DFI} {dvd : List D} {x c y : Str} {p pos apos : Pos} {e o : Expr} {es : List Expr} {a : DA} {δ : DE}
theorem ed_call {K : PySem.W.Frag} {dvs : List V} {t : TA} (hd : ∀ G, RepL K G dvd dvs) (ha : EA K W t a) : ED K W (tCallSD (spW K m F) dvs (WE W) t) (dCall m F dvd a) := by
  intro B σ H ρ n G α Q x q hK R hx h k
  refine ha B σ H ρ n G α _ x _ hK R hx h fun vs H1 G1 ds n1 s1 j1 r1 h1 => ?_
  have R1 := R.step s1 j1
  have hx1 := hx.step s1
  obtain ⟨hl, h1⟩ := h1
  rw [hx.1] at h1
  exact ⟨B.W, n1, G1, ds ++ dvd, q, x.ex, s1.hh, R1.rg, j1, r1.append (hd G1), hl, h1, fun v H' G' d n' s j r hq => k v H' G' d n' (s1.trans s) j r hq, fun cc dd H' G' e n' s j r hq => hx1.2 cc dd H' G' e n' s j (hK ▸ r) hq⟩
theorem pd_call (S : Sg X.prog X.w X.K X.mg X.base x k m F dvd) (hr : Room k X.A) (tk : Takes X W) (hg : Gl X x) (ha : PAD X W (e :: es) a) (hdb : (x == ("__debug__" : Str)) = false := by decide)
    (he : starEach (e :: es) X.env = (false, eval e X.env) :: starEach es X.env := by rfl) (hpl : (backTo pos (starEach es X.env)).any (·.1) = false := by rfl) : PD X W (.Call (.Name x p) (e :: es) [] pos) (dCall m F dvd a) := by
  obtain ⟨t, pa, ea⟩ := ha
  obtain ⟨f, fd, ps, ds, dvs, hF, hm, hk, hb, hd, hdv⟩ := S.ex
  exact ⟨_, pe_callSD hF hr hg hm hk hb hd (fun σ => passAt tk σ) pa hdb he hpl, ed_call hdv ea⟩
theorem ed_meth {K : PySem.W.Frag} {dvs : List V} {to : TE} {t : TA} (hd : ∀ G, RepL K G dvd dvs) (ho : ED K W to δ) (ha : EA K W t a) : ED K W (tMethSD (ca K c) y (spW K m F) dvs (WE W) to t) (dMeth c y m F dvd δ a) := by
  intro B σ H ρ n G α Q x q hK R hx h k
  refine ho B σ H ρ n G α _ x _ hK R hx h fun v0 H0 G0 d0 n0 s0 j0 r0 h0 => ?_
  cases d0 with
  | obj c' fs =>
    obtain ⟨ec, el, h0⟩ := h0
    subst ec
    cases r0 with
    | obj e r =>
      refine ⟨_, _, _, rfl, s0.hh.get e, r.lookupN el, ?_⟩
      have R0 := R.step s0 j0
      refine ha B σ H0 ρ n0 G0 α _ x _ hK R0 (hx.step s0) h0 fun vs H1 G1 ds n1 s1 j1 r1 h1 => ?_
      have R1 := R0.step s1 j1
      have hx1 := (hx.step s0).step s1
      obtain ⟨hl, h1⟩ := h1
      rw [hx.1] at h1
      exact ⟨B.W, n1, G1, _ :: (ds ++ dvd), q, x.ex, s1.hh, R1.rg, j1, .cons (.obj (s1.le.get e) (r.mono s1.le)) (r1.append (hd G1)), hl, h1, fun v H' G' d n' s j r hq => k v H' G' d n' ((s0.trans s1).trans s) j r hq, fun cc dd H' G' e n' s j r hq => hx1.2 cc dd H' G' e n' s j (hK ▸ r) hq⟩
  | _ => exact h0.elim
theorem pd_meth0 {pl : Sem Bool} (S : Mg X.prog X.w X.K X.mg X.base c y k m F dvd) (hr : Room k X.A) (tk : Takes X W) (ho : PD X W o δ)
    (ht : eval (.Call (.Attribute o y apos) [] [] pos) X.env = (do
      let ov ← eval o X.env
      standAt apos.atName
      let (f, first) ← holding [ov] (getMethod ov y pl)
      callWith pos f first (backTo pos (starEach [] X.env)) (backToKw pos (keywordEach [] X.env))) := by rfl) : PD X W (.Call (.Attribute o y apos) [] [] pos) (dMeth c y m F dvd δ dNil) := by
  obtain ⟨to, po, eo⟩ := ho
  obtain ⟨f, fd, ps, ds, dvs, hF, hm, hb, hd, hdv⟩ := S.ex
  refine ⟨_, pe_methSD0 po S.cl hm hF hr hb hd (fun σ => passAt tk σ) ht, ed_meth hdv eo ?_⟩
  exact fun B σ H ρ n G α Q x q hK R hx hd k => k [] H G [] n (.refl _ R.le) R.J .nil hd
theorem ed_make {K : PySem.W.Frag} {dvs : List V} {t : TA} (hd : ∀ G, RepL K G dvd dvs) (ha : EA K W t a) : ED K W (tMakeSD (ca K c) (spI K c m FI) dvs (WE W) t) (dMake c m FI dvd a) := by
  intro B σ H ρ n G α Q x q hK R hx h k
  refine ha B σ H ρ n G α _ x _ hK R hx h fun vs H1 G1 ds n1 s1 j1 r1 h1 => ?_
  have R1 := R.step s1 j1
  have hx1 := hx.step s1
  obtain ⟨hl, h1⟩ := h1
  rw [hx.1] at h1
  intro y dx ny ndx nxy
  have nr : ¬ B.W.rg y := fun r => B.W.there n1 H1 y j1 r ny
  have nrd : ¬ B.W.rg dx := fun r => B.W.there n1 H1 dx j1 r ndx
  have gy : G1 y = none := by
    cases q : G1 y with
    | none => rfl
    | some u => have := s1.hh.get q; rw [ny] at this; cases this
  have le2 : Le G1 (upd (upd H1 dx (.own y)) y (.ins (ca K c) dx [])) := .of_same fun a o e => by
    have := s1.hh.get e
    rw [upd_ne (ne_of_none this ny), upd_ne (ne_of_none this ndx)]
    exact this
  have j2 : B.W.J n1 (upd (upd H1 dx (.own y)) y (.ins (ca K c) dx [])) := B.W.stable _ _ _ (fun a r => by
    rw [upd_ne (fun z : a = y => nr (z ▸ r)), upd_ne (fun z : a = dx => nrd (z ▸ r))]) (fun a e q => by rw [upd_ne (ne_of_none q ny), upd_ne (ne_of_none q ndx)]; exact q) j1
  have old : ∀ b o, H1 b = some o → but (upd (upd H1 dx (.own y)) y (.ins (ca K c) dx [])) y b = some o := fun b o e => by
    rw [but_ne (ne_of_none e ny), upd_ne (ne_of_none e ny), upd_ne (ne_of_none e ndx)]
    exact e
  have stp : ∀ {H' G' : Hp}, Step B.W (but (upd (upd H1 dx (.own y)) y (.ins (ca K c) dx [])) y) G1 H' G' → Step B.W H1 G1 H' G' := fun {H' G'} s => by
    refine ⟨fun a o e r => s.fr a o (old a o e) r, s.le, s.hh, fun a e => ?_⟩
    rcases s.new a e with z | ⟨z, r⟩
    · exact .inl z
    · refine .inr ⟨?_, r⟩
      cases q : H1 a with
      | none => rfl
      | some o => rw [old a o q] at z; cases z
  refine ⟨B.W, n1, G1, y, dx, vs ++ dvs, ds ++ dvd, _, x.ex, rfl, upd_same, gy, nr, le2, R1.rg, j2, r1.append (hd G1), hl, h1, fun H' G' fs ws dy n' s j gy' hy rf hq => ⟨rfl, ?_⟩, fun cc dd H' G' e n' s j r hq => hx1.2 cc dd H' G' e n' (stp s) j (hK ▸ XRep.backF r fun a o e _ => old a o e) hq⟩
  have s' := stp s
  obtain ⟨ob, e, l1, l2, r⟩ := DL.freezeL (K := K) (d := .obj c fs) s'.hh gy' ⟨dy, ws, hy, rf⟩ (fun _ z => nomatch z)
  refine k _ H' (upd G' y ob) _ n' ⟨(s1.trans s').fr, (s1.trans s').le.trans l2, l1, fun b z => ?_⟩ j r hq
  by_cases q : b = y
  · subst q
    refine .inr ⟨?_, nr⟩
    cases q : H b with
    | none => rfl
    | some o => have := s1.fr b o q nr; rw [ny] at this; cases this
  · rw [upd_ne q] at z
    exact (s1.trans s').new b z
theorem pd_make (S : Ig X.prog X.w X.K X.mg X.base c k m FI dvd) (hr : Room (k + 1) X.A) (tk : Takes X W) (hg : Gl X c) (ha : PAD X W (e :: es) a) (hdb : (c == ("__debug__" : Str)) = false := by decide)
    (he : starEach (e :: es) X.env = (false, eval e X.env) :: starEach es X.env := by rfl) (hpl : (backTo pos (starEach es X.env)).any (·.1) = false := by rfl) : PD X W (.Call (.Name c p) (e :: es) [] pos) (dMake c m FI dvd a) := by
  obtain ⟨t, pa, ea⟩ := ha
  obtain ⟨f, fd, ps, ds, dvs, hF, hm, hb, hd, hdv⟩ := S.ex
  exact ⟨_, pe_makeSD hm hF hr hg S.gl hb hd (fun σ => passAt tk σ) pa hdb he hpl, ed_make hdv ea⟩
end

def startD (N : List Str) (ds : List D) : Env := ds.map (fun d => some (.val d)) ++ List.replicate (N.length - ds.length) none
theorem startD_val {N : List Str} {ds : List D} {i : Nat} {d : D} (h : (startD N ds)[i]? = some (some (.val d))) : ds[i]? = some d := by
  unfold startD at h
  rw [List.getElem?_append] at h
  split at h
  · rw [List.getElem?_map] at h
    cases e : ds[i]? with
    | none => rw [e] at h; cases h
    | some d' => rw [e] at h; simp at h; rw [h]
  · rw [List.getElem?_replicate] at h
    split at h <;> simp at h
theorem startD_own {N : List Str} {ds : List D} {i : Nat} {d : D} (h : (startD N ds)[i]? = some (some (.own d))) : False := by
  unfold startD at h
  rw [List.getElem?_append] at h
  split at h
  · rw [List.getElem?_map] at h
    cases e : ds[i]? with
    | none => rw [e] at h; cases h
    | some d' => rw [e] at h; simp at h
  · rw [List.getElem?_replicate] at h
    split at h <;> simp at h
theorem startD_gst {N : List Str} {ds : List D} {i : Nat} {r : D} {gs : List (Addr × D)} (h : (startD N ds)[i]? = some (some (.gst r gs))) : False := by
  unfold startD at h
  rw [List.getElem?_append] at h
  split at h
  · rw [List.getElem?_map] at h
    cases e : ds[i]? with
    | none => rw [e] at h; cases h
    | some d' => rw [e] at h; simp at h
  · rw [List.getElem?_replicate] at h
    split at h <;> simp at h
theorem start_get {N : List Str} {vs : List V} {i : Nat} {v : V} (h : vs[i]? = some v) : (start N vs)[i]? = some (some v) := by
  unfold L2.start
  have hl : i < vs.length := (List.getElem?_eq_some_iff.mp h).1
  rw [List.getElem?_append_left (by simpa using hl), List.getElem?_map, h]
  rfl
theorem RelB.start {W : Wd} {K : PySem.W.Frag} {H G : Hp} {n : Nat} {N : List Str} {vs : List V} {ds : List D} (le : Le G H) (rg : ∀ a, W.rg a → G a = none) (j : W.J n H) (r : RepL K G ds vs) : RelB ⟨W, K, H, G, none⟩ (L2.start N vs) H (startD N ds) n G (fun _ => 0) := by
  refine ⟨.refl W le, rg, j, ?_, fun i d h => ?_, fun i d h => (startD_own h).elim, fun i j d e h _ => (startD_own h).elim, fun a d h h' => (startD_own h').elim, .nil fun i r gs e => startD_gst e⟩
  · unfold L2.start startD
    rw [List.length_append, List.length_append, List.length_map, List.length_map, List.length_replicate, List.length_replicate, r.length]
  · obtain ⟨v, h1, h2⟩ := r.get (startD_val h)
    exact ⟨v, start_get h1, h2⟩
def endsD (W : Wd) (q : DQ) (x : Xn → Nat → Prop) : DEnds := ⟨fun _ n => q .non n, q, fun _ _ => False, fun _ _ => False, fun e _ n => x e n, W, fun _ _ => False⟩
theorem ok_def {P : Program} {w : World} {K : PySem.W.Frag} {mg : Str → Option Value} {base : Heap} {x qual : Str} {params : Arguments} {body : List Stmt} {scope : Scope} {dvs : List V} {kws : List (Str × V)} {f : Addr} {fd : FuncData} {N ps : List Str} {k m : Nat} {F : DF}
    (FD : FunD K x qual params body scope dvs kws f fd) (S : FnScope N ps scope) (hm : ps.length = m)
    (hb : ∀ (X : Cx) (E : XK) (W : Wd) (ds : List D) (n : Nat) (q : DQ) (xx : Xn → Nat → Prop), (∃ cdv A outer s H, X = cxOf (L2.CX P w) P w K mg base N qual scope f cdv A outer s H E) → Room k X.A → Takes X (fun c d _ H => E c d H) → PassesOwn (model X.prog X.w) X.A X.env X.xe → ds.length = m → F W ds n q xx →
      ∃ δ, PSsD X (fun c d _ H => E c d H) body δ ∧ δ (endsD W q xx) (startD N ds) n) : FnOk P w K mg base (L2.CX P w) (k + 1) f fd ps (spW K m F) := by
  refine FD.ok S (fun vs H Q E h => ?_) (fun cdv A outer s H vs Q E hr h => ?_)
  · obtain ⟨W, n, G, ds, q, x, _, _, _, r, hl, _⟩ := h
    rw [← r.length, hl, hm]
  · obtain ⟨W, n, G, ds, q, xx, le, rg, j, r, hl, hF, kq, kx⟩ := h
    obtain ⟨δ, ⟨t, p, e⟩, hδ⟩ := hb (cxOf (L2.CX P w) P w K mg base N qual scope f cdv A outer s H E) E W ds n q xx ⟨cdv, A, outer, s, H, rfl⟩ hr (takes_of rfl rfl rfl rfl) (passes_of rfl) hl hF
    refine ⟨t, p, ?_⟩
    refine e ⟨W, K, H, G, none⟩ (L2.start N vs) H (startD N ds) n G _ _ _ rfl (RelB.start le rg j r) ?_ hδ
    exact ⟨fun σ H' ρ n' G' α R hq => kq _ H' G' .non n' R.st R.J .non hq, fun v H' d n' G' s j r hq => kq v H' G' d n' s j r hq, fun _ _ _ _ _ _ _ h => h.elim, fun _ _ _ _ _ _ _ h => h.elim, fun c dd σ H' ρ n' G' α e R r hq => kx c dd H' G' e n' R.st R.J r hq, rfl, fun _ _ _ _ _ _ _ _ h => h.elim⟩
def startI (c : Str) (N : List Str) (ds : List D) : Env := some (.own (.obj c [])) :: (ds.map (fun d => some (.val d)) ++ List.replicate (N.length - (ds.length + 1)) none)
def qI (c : Str) (q : List (Str × D) → Nat → Prop) (ρ : DL.Env) (n : Nat) : Prop := match ρ[0]? with
  | some (some (Sl.own (.obj c' fs))) => c' = c ∧ q fs n
  | _ => False
def endsI (W : Wd) (c : Str) (q : List (Str × D) → Nat → Prop) (x : Xn → Nat → Prop) : DEnds := ⟨qI c q, fun _ _ => False, fun _ _ => False, fun _ _ => False, fun e _ n => x e n, W, fun _ _ => False⟩
theorem RelB.startI {W : Wd} {K : PySem.W.Frag} {H G : Hp} {n : Nat} {c : Str} {N : List Str} {us : List V} {ds : List D} {x dx : Addr} (hx : H x = some (.ins (ca K c) dx [])) (gx : G x = none) (nr : ¬ W.rg x) (le : Le G H) (rg : ∀ a, W.rg a → G a = none) (j : W.J n H) (r : RepL K G ds us) :
    RelB ⟨W, K, but H x, G, some x⟩ (L2.start N (.ref x :: us)) H (DL.startI c N ds) n G (fun _ => x) := by
  have s0 : ∀ i, (DL.startI c N ds)[i + 1]? = (startD (List.replicate (N.length - 1) Str.empty) ds)[i]? := fun i => by
    unfold DL.startI startD
    rw [List.getElem?_cons_succ, List.length_replicate, show N.length - (ds.length + 1) = N.length - 1 - ds.length by omega]
  refine ⟨⟨fun a o e _ => ?_, Le.refl G, le, fun a e => .inl e⟩, rg, j, ?_, fun i d h => ?_, fun i d h => ?_, fun i j d e h h' _ => ?_, fun a d h _ => Option.some.inj h, .nil fun i r gs e => ?_⟩
  · have e : but H x a = some o := e
    by_cases z : a = x
    · rw [z, but_same] at e; cases e
    · rwa [but_ne z] at e
  · unfold L2.start DL.startI
    simp only [List.length_append, List.length_cons, List.length_map, List.length_replicate, ← r.length]
    omega
  · cases i with
    | zero => simp [DL.startI] at h
    | succ i =>
      rw [s0] at h
      obtain ⟨v, h1, h2⟩ := r.get (startD_val h)
      exact ⟨v, start_get (by rw [List.getElem?_cons_succ]; exact h1), h2⟩
  · cases i with
    | zero =>
      have e : d = .obj c [] := by simp [DL.startI] at h; exact h.symm
      subst e
      exact ⟨start_get rfl, gx, but_same, nr, dx, [], hx, .nil⟩
    | succ i =>
      rw [s0] at h
      exact (startD_own h).elim
  · cases i with
    | zero =>
      cases j with
      | zero => rfl
      | succ j => rw [s0] at h'; exact (startD_own h').elim
    | succ i => rw [s0] at h; exact (startD_own h).elim
  · cases i with
    | zero => simp [DL.startI] at e
    | succ i => rw [s0] at e; exact (startD_gst e).elim
theorem ok_init {P : Program} {w : World} {K : PySem.W.Frag} {mg : Str → Option Value} {base : Heap} {x qual c : Str} {params : Arguments} {body : List Stmt} {scope : Scope} {dvs : List V} {kws : List (Str × V)} {f : Addr} {fd : FuncData} {N ps : List Str} {k m : Nat} {F : DFI}
    (FD : FunD K x qual params body scope dvs kws f fd) (S : FnScope N ps scope) (hm : ps.length = m)
    (hb : ∀ (X : Cx) (E : XK) (W : Wd) (ds : List D) (n : Nat) (q : List (Str × D) → Nat → Prop) (xx : Xn → Nat → Prop), (∃ cdv A outer s H, X = cxOf (L2.CX P w) P w K mg base N qual scope f cdv A outer s H E) → Room k X.A → Takes X (fun c d _ H => E c d H) → PassesOwn (model X.prog X.w) X.A X.env X.xe → ds.length + 1 = m → F W ds n q xx →
      ∃ δ, PSsD X (fun c d _ H => E c d H) body δ ∧ δ (endsI W c q xx) (startI c N ds) n) : FnOk P w K mg base (L2.CX P w) (k + 1) f fd ps (spI K c m F) := by
  refine FD.ok S (fun vs H Q E h => ?_) (fun cdv A outer s H vs Q E hr h => ?_)
  · obtain ⟨W, n, G, x, dx, us, ds, q, xx, rfl, _, _, _, _, _, _, r, hl, _⟩ := h
    rw [List.length_cons, ← r.length, hl, hm]
  · obtain ⟨W, n, G, y, dx, us, ds, q, xx, rfl, hy, gy, nr, le, rg, j, r, hl, hF, kq, kx⟩ := h
    obtain ⟨δ, ⟨t, p, e⟩, hδ⟩ := hb (cxOf (L2.CX P w) P w K mg base N qual scope f cdv A outer s H E) E W ds n q xx ⟨cdv, A, outer, s, H, rfl⟩ hr (takes_of rfl rfl rfl rfl) (passes_of rfl) hl hF
    refine ⟨t, p, ?_⟩
    refine e ⟨W, K, but H y, G, some y⟩ (L2.start N (.ref y :: us)) H (startI c N ds) n G _ _ _ rfl (RelB.startI hy gy nr le rg j r) ?_ hδ
    refine ⟨fun σ H' ρ n' G' α R hq => ?_, fun v H' d n' G' s j r hq => hq.elim, fun _ _ _ _ _ _ _ h => h.elim, fun _ _ _ _ _ _ _ h => h.elim, fun c dd σ H' ρ n' G' α e R r hq => kx c dd H' G' e n' R.st R.J r hq, rfl, fun _ _ _ _ _ _ _ _ h => h.elim⟩
    have hq1 : qI c q ρ n' := hq
    unfold qI at hq1
    split at hq1
    · rename_i c' fs eo
      obtain ⟨ec, hq2⟩ := hq1
      subst ec
      have ea := R.p0 y _ rfl eo
      obtain ⟨_, g1, _, _, dx', ws, hH, rf⟩ := R.own 0 _ eo
      rw [ea] at g1 hH
      exact kq H' G' fs ws dx' n' R.st R.J g1 hH rf hq2
    · exact hq1.elim
end DL

end

section
set_option autoImplicit false
namespace DL
open PySem PySem.Spec L2

def dFld (cs : List Str) (f : Str) (δ : DE) : DE := fun x ρ n q => δ x ρ n fun d n1 => match d with
  | .obj c fs => c ∈ cs ∧ opt (fs.lookup f) fun v => q v n1
  | _ => False
section
variable {X : Cx} {W : WX} {a b c : Expr} {δ δa δb δc : DE} {pos p : Pos} {f x : Str}
theorem pd_fld (cs : List Str) (hc : ∀ c ∈ cs, Cls X.K (ca X.K c) ∧ NoAttr X.K (ca X.K c) f) (h : PB X W a δ) (hb : attributeBase a f X.env (eval a X.env) = eval a X.env := by rfl) : PD X W (.Attribute a f pos) (dFld cs f δ) := by
  obtain ⟨t, p, h⟩ := h
  refine ⟨_, pe_fld p hb, fun B σ H ρ n G α Q x q hK R hx hd k => ?_⟩
  refine h B σ H ρ n G α _ x _ hK R hx hd fun v H1 G1 d n1 s1 j1 r1 h1 => ?_
  cases d with
  | obj c fs =>
    obtain ⟨hm, h1⟩ := h1
    obtain ⟨d', e, h1⟩ := opt_some h1
    obtain ⟨a, dx, ws, e1, e2, rf⟩ := r1.obj s1.hh
    obtain ⟨u, l, r⟩ := rf.lookup e
    exact ⟨a, _, dx, ws, u, e1, e2, (hc c hm).1, (hc c hm).2, l, k u H1 G1 d' n1 s1 j1 r h1⟩
  | _ => exact h1.elim

theorem pd_globR {d : D} {r : Addr} (hg : Gl X x) (hm : X.mg x = some (.ref r)) (hr : ∀ G, Rep X.K G d (.ref r)) (hd : (x == ("__debug__" : Str)) = false := by decide) : PD X W (.Name x pos) (dC d) := pd_c (v := .ref r) (pe_glob hg hm rfl hd) hr

def dNeg (δ : DE) : DE := fun x ρ n q => δ x ρ n fun d n1 => match d with
  | .int i => q (.int (-i)) n1
  | _ => False
theorem pd_neg (h : PB X W a δ) : PD X W (.UnaryOp .USub a pos) (dNeg δ) := by
  obtain ⟨t, p, h⟩ := h
  refine ⟨_, pe_un un_neg p, fun B σ H ρ n G α Q x q hK R hx hd k => ?_⟩
  refine h B σ H ρ n G α _ x _ hK R hx hd fun v H1 G1 d n1 s1 j1 r1 h1 => ?_
  cases d with
  | int i => exact ⟨i, r1.int, k _ H1 G1 _ n1 s1 j1 (.int _) h1⟩
  | _ => exact h1.elim
def dChain (p p' : Int → Int → Bool) (a b c : DE) : DE := fun x ρ n q => a x ρ n fun u n1 => b x ρ n1 fun v n2 => match u, v with
  | .int i, .int j => if p i j = true then c x ρ n2 fun w n3 => (match w with
      | .int l => q (.bl (p' j l)) n3
      | _ => False) else q (.bl false) n2
  | _, _ => False
abbrev iLe (i j : Int) : Bool := decide (i ≤ j)
abbrev iLt (i j : Int) : Bool := decide (i < j)
end

def truD : D → Option Bool
  | .non => some false
  | .bl b => some b
  | .int i => some (i != 0)
  | .lst ds => some (!ds.isEmpty)
  | .tup ds => some (!ds.isEmpty)
  | .dct kvs => some (!kvs.isEmpty)
  | _ => none
def dTru (δ : DE) : DT := fun x ρ n q => δ x ρ n fun d n1 => opt (truD d) fun b => q b n1
theorem RepL.isEmpty {K : PySem.W.Frag} {G : Hp} {ds : List D} {vs : List V} (r : RepL K G ds vs) : ds.isEmpty = vs.isEmpty := by
  cases r <;> rfl
theorem RepK.isEmpty {K : PySem.W.Frag} {G : Hp} {ds : List (Key × D)} {vs : List (Key × V)} (r : RepK K G ds vs) : ds.isEmpty = vs.isEmpty := by
  cases r <;> rfl
def TruV2 (K : PySem.W.Frag) (x : V) (H : Hp) (k : Bool) : Prop := TruV K x H k ∨ ∃ a kvs, x = .ref a ∧ Rd H a (.dK kvs) ∧ k = !kvs.isEmpty
theorem tru_ok2 {X : Cx} : TruR X (fun x H Q => ∃ k, TruV2 X.K x H k ∧ Q k H) := by
  intro pins s σ H x v Q I r h
  obtain ⟨k, t | ⟨a, kvs, e, hd, hk⟩, q⟩ := h
  · exact tru_ok pins s σ H x v Q I r ⟨k, t, q⟩
  · subst e
    obtain rfl : v = Value.ref a := r
    exact d_truth I hd fun s' I' => ⟨H, I', hk ▸ q⟩
theorem RepB.tru {K : PySem.W.Frag} {W : Wd} {G H : Hp} {d : D} {v : V} {b : Bool} (le : Le G H) (r : RepB K W G H d v) (h : truD d = some b) : TruV2 K v H b := by
  cases d with
  | non => rw [r.non]; cases h; exact .inl rfl
  | bl b => rw [r.bl]; cases h; exact .inl rfl
  | int i => rw [r.int]; cases h; exact .inl rfl
  | lst ds =>
    obtain ⟨a, vs, e, h1, r1⟩ := r.lst le
    cases h
    rw [e, r1.isEmpty]
    exact .inl (.inl ⟨vs, SqL.of h1, rfl⟩)
  | tup ds =>
    obtain ⟨a, vs, e, h1, r1⟩ := r.tup le
    cases h
    rw [e, r1.isEmpty]
    exact .inl (.inr (.inl ⟨vs, h1, rfl⟩))
  | dct kvs =>
    obtain ⟨a, ws, e, h1, r1⟩ := r.dct le
    cases h
    rw [r1.isEmpty]
    exact .inr ⟨a, ws, e, h1, rfl⟩
  | _ => exact nomatch h
section
variable {X : Cx} {W : WX} {a b c e f : Expr} {lo hi : Option Expr} {δ δa δb δc : DE} {pos p p2 apos cpos : Pos} {x : Str}
theorem pt_truD (h : PB X W a δ) (he : ∀ whole, isTrue a X.env whole = (do let v ← whole; standAt a.pos; holding [v] (truthy v)) := by intro _; rfl) : PTD X W a (dTru δ) := by
  obtain ⟨t, p, h⟩ := h
  have pt : PT X a (fun σ H Q => t σ H fun x H1 => ∃ k, TruV2 X.K x H1 k ∧ Q k H1) := by
    refine ⟨fun pins s σ H Q I hw => ?_⟩
    refine PyProof.Rows.isTrue_plain (thn (p.run pins s σ H _ I hw) fun v s1 ⟨x, H1, I1, r1, q1⟩ => ?_) (he _)
    exact tru_ok2 pins s1 σ H1 x v Q I1 r1 q1
  refine ⟨_, pt, fun B σ H ρ n G α Q x q hK R hx hd k => ?_⟩
  refine h B σ H ρ n G α _ x _ hK R hx hd fun v H1 G1 d n1 s1 j1 r1 h1 => ?_
  obtain ⟨b, e, h1⟩ := opt_some h1
  exact ⟨b, r1.tru s1.hh e, k b H1 G1 n1 s1 j1 h1⟩

abbrev DO := DX → Env → Nat → (Option Int → Nat → Prop) → Prop
def oNone : DO := fun _ _ n q => q none n
def oSome (δ : DE) : DO := fun x ρ n q => δ x ρ n fun d n1 => match d with
  | .int i => q (some i) n1
  | _ => False
def cutD (ds : List D) (lo hi : Option Int) : List D := (ds.drop (HT.sIx ds.length 0 lo)).take (HT.sIx ds.length ds.length hi - HT.sIx ds.length 0 lo)
def dSl (δ : DE) (l h : DO) : DE := fun x ρ n q => δ x ρ n fun d n1 => l x ρ n1 fun lo n2 => h x ρ n2 fun hi n3 => match d with
  | .lst ds => q (.lst (cutD ds lo hi)) n3
  | _ => False
def dRev (δ : DE) : DE := fun x ρ n q => δ x ρ n fun d n1 => match d with
  | .lst ds => q (.lst ds.reverse) n1
  | _ => False
theorem RepL.reverse {K : PySem.W.Frag} {G : Hp} : ∀ {ds : List D} {vs : List V}, RepL K G ds vs → RepL K G ds.reverse vs.reverse
  | _, _, .nil => .nil
  | _, _, .cons r t => by
    rw [List.reverse_cons, List.reverse_cons]
    exact (RepL.reverse t).snoc r
theorem pd_rev {k : Nat} {p1 p3 : Pos} (he : PB X W e δ) : PD X W (.Subscript e (.Slice none none (some (.UnaryOp .USub (.Constant (.int 1) k p1) p2)) p3) pos) (dRev δ) := by
  obtain ⟨t, p, he⟩ := he
  refine ⟨_, pe_revL p, fun B σ H ρ n G α Q x q hK R hx hd k => ?_⟩
  refine he B σ H ρ n G α _ x _ hK R hx hd fun v H1 G1 d n1 s1 j1 r1 h1 => ?_
  cases d with
  | lst ds =>
    obtain ⟨a, vs, e1, hH, rl⟩ := r1.lst s1.hh
    refine ⟨a, vs, e1, SqL.of hH, fun b np => ?_⟩
    have sp := StepP.made (o := .lst vs.reverse) s1.hh np
    exact k _ _ _ _ n1 (s1.trans (sp.step j1)) (sp.J j1) (.lst upd_same (rl.reverse.mono sp.le)) h1
  | _ => exact h1.elim

def dGet2 (δ δk δx : DE) : DE := fun x ρ n q => δ x ρ n fun d n1 => match d with
  | .dct kvs => δk x ρ n1 fun k n2 => δx x ρ n2 fun z n3 => opt (keyD k) fun j => q ((getD kvs j).getD z) n3
  | _ => False
theorem pd_get2 (hu : X.A.units + 1 < cLine) (ho : PB X W a δa) (hk : PB X W e δb) (hx : PD X W f δc) (m : M2 X a "get" apos e f cpos := by exact ⟨rfl, rfl, rfl, rfl⟩) : PD X W (.Call (.Attribute a "get" apos) [e, f] [] cpos) (dGet2 δa δb δc) := by
  obtain ⟨ta, pa, ea⟩ := ho
  obtain ⟨tb, pb, eb⟩ := hk
  obtain ⟨tc, pc, ec⟩ := hx
  refine ⟨_, pe_dget2 hu pa pb pc m, fun B σ H ρ n G α Q x q hK R hx hd k => ?_⟩
  refine ea B σ H ρ n G α _ x _ hK R hx hd fun v1 H1 G1 d1 n1 s1 j1 r1 h1 => ?_
  have R1 := R.step s1 j1
  cases d1 with
  | dct kvs =>
    obtain ⟨p, ws, e1, hd, rk⟩ := r1.dct s1.hh
    refine ⟨p, e1, .inl ⟨ws, hd⟩, ?_⟩
    refine eb B σ H1 ρ n1 G1 α _ x _ hK R1 (hx.step s1) h1 fun v2 H2 G2 d2 n2 s2 j2 r2 h2 => ?_
    have R2 := R1.step s2 j2
    refine ec B σ H2 ρ n2 G2 α _ x _ hK R2 ((hx.step s1).step s2) h2 fun v3 H3 G3 d3 n3 s3 j3 r3 h3 => ?_
    obtain ⟨j, ej, h3⟩ := opt_some h3
    obtain ⟨p', ws', e1', hd', rk'⟩ := ((r1.step s2).step s3).dct s3.hh
    have ep : p' = p := by rw [e1] at e1'; injection e1' with e; exact e.symm
    subst ep
    refine ⟨valV ws' j, .inl ⟨ws', j, hd', keyD_rep ej (r2.step s3), rfl⟩, ?_⟩
    rcases rk'.val (k := j) with ⟨d', v', g1, g2, g3⟩ | ⟨g1, g2⟩
    · rw [g1] at h3
      rw [g2]
      exact k v' H3 G3 d' n3 (s1.trans (s2.trans s3)) j3 g3 h3
    · rw [g1] at h3
      rw [g2]
      exact k v3 H3 G3 d3 n3 (s1.trans (s2.trans s3)) j3 r3 h3
  | _ => exact h1.elim
def fDin (neg : Bool) : F2 := fun x y k => match keyD x, y with
  | some j, .dct kvs => k (.bl (if neg then !(getD kvs j).isSome else (getD kvs j).isSome))
  | _, _ => False
theorem RepK.isSome {K : PySem.W.Frag} {G : Hp} {kvs : List (Key × D)} {ws : List (Key × V)} (r : RepK K G kvs ws) (j : Key) : (valV ws j).isSome = (getD kvs j).isSome := by
  rcases r.val (k := j) with ⟨d', v', g1, g2, g3⟩ | ⟨g1, g2⟩
  · rw [g1, g2]; rfl
  · rw [g1, g2]; rfl
end
end DL

end

section
set_option autoImplicit false
namespace DL
open PySem PySem.Spec L2

inductive Ty where
  | b (n : String) | own (c : Str)
def Ty.val (K : PySem.W.Frag) : Ty → Value
  | .b n => .type n
  | .own c => .ref (ca K c)
def tyD : D → Option Ty
  | .non => some (.b "NoneType")
  | .bl _ => some (.b "bool")
  | .int _ => some (.b "int")
  | .str _ => some (.b "str")
  | .lst _ => some (.b "list")
  | .tup _ => some (.b "tuple")
  | .dct _ => some (.b "dict")
  | .obj c _ => some (.own c)
  | .hnd _ => none
  | .exc _ _ _ _ => none
  | .rol _ => some (.b "list")
structure TyF (K : PySem.W.Frag) (c : Str) : Prop where
  cl : Cls K (ca K c)
  ha : PySem.W.findIn K (.ref (ca K c)) "__class__" = some (some (.builtin "object.__class__"))
  hn : PySem.W.specialIn K (.builtin "object.__class__") "__get__" = some (some (.builtin "getset_descriptor.__get__"))
  htk : PySem.W.takesIn K (.builtin "object.__class__") = some true
  hm : PySem.W.mroIn K (ca K c) (.type "object") = some true
theorem sqT_tyX {K : PySem.W.Frag} {H : Hp} {a : Addr} {vs : List V} (h : SqT K H a vs) : TyX K H (.ref a) (.type "tuple") := by
  rcases h with (h | ⟨o, h⟩) | ⟨o, its, n, h, c, _⟩
  · exact .base (.tup h)
  · exact .fTuple h
  · exact .kTuple h c
theorem RepB.tyX {K : PySem.W.Frag} {W : Wd} {G H : Hp} {d : D} {v : V} {t : Ty} (le : Le G H) (r : RepB K W G H d v) (h : tyD d = some t) (hc : ∀ c, t = .own c → TyF K c) : TyX K H v (t.val K) := by
  cases d with
  | non => rw [r.non]; cases h; exact .base .non
  | bl b => rw [r.bl]; cases h; exact .base (.bl b)
  | int i => rw [r.int]; cases h; exact .base (.int i)
  | str i => rw [r.str]; cases h; exact .base (.str i)
  | lst ds =>
    obtain ⟨a, vs, e, h1, _⟩ := r.lst le
    cases h
    rw [e]
    exact .base (.lst h1)
  | tup ds =>
    obtain ⟨a, vs, e, h1, _⟩ := r.tup le
    cases h
    rw [e]
    exact sqT_tyX h1
  | dct kvs =>
    obtain ⟨a, ws, e, h1, _⟩ := r.dct le
    cases h
    rw [e]
    rcases h1 with h1 | ⟨o, h1⟩
    · exact .base (.dK h1)
    · exact .fDict h1
  | obj c fs =>
    obtain ⟨a, dx, ws, e, h1, _⟩ := r.obj le
    cases h
    rw [e]
    have f := hc c rfl
    exact .base (.ins h1 f.cl f.ha f.hn f.htk f.hm)
  | hnd a => exact nomatch h
  | exc _ _ _ _ => exact nomatch h
  | rol ds =>
    cases h
    rcases r with r | ⟨a, e, _, _, o⟩
    · cases r with
      | rol e r => exact .base (.frz (le.get e))
    · exact o.elim
def isD (CS : List Str) (f : Ty → Bool) (δ : DE) : DE := fun x ρ n q => δ x ρ n fun d n1 => opt (tyD d) fun t => (∀ c, t = .own c → c ∈ CS) ∧ q (.bl (f t)) n1
section
variable {X : Cx} {W : WX} {a T : Expr} {δ : DE} {p pos pT : Pos} {x : Str}
theorem ed_isi {K : PySem.W.Frag} {ta tT : TE} {CS : List Str} {f : Ty → Bool} {cv : V} {u : Value} (hc : ∀ c ∈ CS, TyF K c) (ha : EB K W ta δ) (hT : ∀ σ H Q, Q cv H → tT σ H Q) (k : ClsV cv u) (hf : ∀ d t, tyD d = some t → (∀ c, t = .own c → c ∈ CS) → PySem.W.kitOne K (t.val K) u = some (f t)) :
    ED K W (tCB (rIsi K) (tCons ta (tCons tT tNil))) (isD CS f δ) := by
  intro B σ H ρ n G α Q x q hK R hx hd kk
  refine ha B σ H ρ n G α _ x _ hK R hx hd fun v H1 G1 d n1 s1 j1 r1 h1 => hT _ _ _ ?_
  obtain ⟨t, et, hcs, h1⟩ := opt_some h1
  exact ⟨v, cv, _, u, f t, rfl, k, r1.tyX s1.hh et fun c e => hc c (hcs c e), hf d t et hcs, kk _ H1 G1 _ n1 s1 j1 (.bl _) h1⟩
theorem pd_isiB {CS : List Str} {f : Ty → Bool} {nT : String} (hc : ∀ c ∈ CS, TyF X.K c) (hf : ∀ d t, tyD d = some t → (∀ c, t = .own c → c ∈ CS) → PySem.W.kitOne X.K (t.val X.K) (.type nT) = some (f t)) (hgi : Gl X "isinstance") (hmi : X.mg "isinstance" = none) (hg : Gl X x) (hm : X.mg x = none) (hv : bootBuiltins x = some (.type nT))
    (h : PB X W a δ) (hn : x ≠ "__name__" := by decide) (hdb : (x == ("__debug__" : Str)) = false := by decide) (hst : starEach [a, .Name x pT] X.env = (false, eval a X.env) :: starEach [.Name x pT] X.env := by rfl) (hst2 : starEach [.Name x pT] X.env = [(false, eval (.Name x pT) X.env)] := by rfl)
    (hpl : (backTo pos (starEach [.Name x pT] X.env)).any (·.1) = false := by rfl) : PD X W (.Call (.Name "isinstance" p) [a, .Name x pT] [] pos) (isD CS f δ) := by
  obtain ⟨t, pe, e⟩ := h
  exact ⟨_, pe_callB call_isi hgi hmi (by decide +kernel) (pa_cons pe (pa_cons (pe_bltn (v := .ty nT) hg hm hv rfl hn hdb) pa_nil hst2) hst) (by decide) (by decide) hst hpl, ed_isi hc e (fun _ _ _ q => q) (.ty nT) hf⟩
theorem pd_isiO {CS : List Str} {f : Ty → Bool} {r : Addr} (hc : ∀ c ∈ CS, TyF X.K c) (hf : ∀ d t, tyD d = some t → (∀ c, t = .own c → c ∈ CS) → PySem.W.kitOne X.K (t.val X.K) (.ref r) = some (f t)) (hgi : Gl X "isinstance") (hmi : X.mg "isinstance" = none) (hg : Gl X x) (hm : X.mg x = some (.ref r))
    (h : PB X W a δ) (hdb : (x == ("__debug__" : Str)) = false := by decide) (hst : starEach [a, .Name x pT] X.env = (false, eval a X.env) :: starEach [.Name x pT] X.env := by rfl) (hst2 : starEach [.Name x pT] X.env = [(false, eval (.Name x pT) X.env)] := by rfl)
    (hpl : (backTo pos (starEach [.Name x pT] X.env)).any (·.1) = false := by rfl) : PD X W (.Call (.Name "isinstance" p) [a, .Name x pT] [] pos) (isD CS f δ) := by
  obtain ⟨t, pe, e⟩ := h
  exact ⟨_, pe_callB call_isi hgi hmi (by decide +kernel) (pa_cons pe (pa_cons (pe_glob (v := .ref r) hg hm rfl hdb) pa_nil hst2) hst) (by decide) (by decide) hst hpl, ed_isi hc e (fun _ _ _ q => q) (.own r) hf⟩
theorem ed_isiT {K : PySem.W.Frag} {ta : TE} {tT : TA} {CS : List Str} {f : Ty → Bool} {cvs : List V} {us : List Value} (hc : ∀ c ∈ CS, TyF K c) (ha : EB K W ta δ) (hT : ∀ σ H Q, Q cvs H → tT σ H Q) (k : Paired ClsV cvs us) (hl : cvs.length ≤ sizeLine) (hf : ∀ d t, tyD d = some t → (∀ c, t = .own c → c ∈ CS) → PySem.W.kitAny K (t.val K) us = some (f t)) :
    ED K W (tCB (rIsiT K) (tCons ta (tCons (tTup tT) tNil))) (isD CS f δ) := by
  intro B σ H ρ n G α Q x q hK R hx hd kk
  refine ha B σ H ρ n G α _ x _ hK R hx hd fun v H1 G1 d n1 s1 j1 r1 h1 => hT _ _ _ ⟨hl, fun p np => ?_⟩
  obtain ⟨t, et, hcs, h1⟩ := opt_some h1
  have s := StepP.laid (o := .tup cvs) s1.hh np
  have st := s.step j1
  exact ⟨v, p, cvs, _, us, f t, rfl, upd_same, k, (r1.step st).tyX st.hh et fun c e => hc c (hcs c e), hf d t et hcs, kk _ _ _ _ n1 (s1.trans st) (s.J j1) (.bl _) h1⟩
theorem pd_isiT {CS : List Str} {f : Ty → Bool} {es : List Expr} {x1} {tT : TA} {cvs : List V} {us : List Value} (hc : ∀ c ∈ CS, TyF X.K c) (hf : ∀ d t, tyD d = some t → (∀ c, t = .own c → c ∈ CS) → PySem.W.kitAny X.K (t.val X.K) us = some (f t)) (hgi : Gl X "isinstance") (hmi : X.mg "isinstance" = none)
    (hT : PA X es tT) (hT2 : ∀ σ H Q, Q cvs H → tT σ H Q) (k : Paired ClsV cvs us) (hl : cvs.length ≤ sizeLine) (h : PB X W a δ) (hst : starEach [a, .Tuple es x1 pT] X.env = (false, eval a X.env) :: starEach [.Tuple es x1 pT] X.env := by rfl) (hst2 : starEach [.Tuple es x1 pT] X.env = [(false, eval (.Tuple es x1 pT) X.env)] := by rfl)
    (hpl : (backTo pos (starEach [.Tuple es x1 pT] X.env)).any (·.1) = false := by rfl) : PD X W (.Call (.Name "isinstance" p) [a, .Tuple es x1 pT] [] pos) (isD CS f δ) := by
  obtain ⟨t, pe, e⟩ := h
  exact ⟨_, pe_callB call_isiT hgi hmi (by decide +kernel) (pa_cons pe (pa_cons (pe_tup hT) pa_nil hst2) hst) (by decide) (by decide) hst hpl, ed_isiT hc e hT2 k hl hf⟩
end

def dPar (i j : Nat) (a : DA) : DS := fun E ρ n => a (E.xx ρ) ρ n fun ds n1 => match ds with
  | [u, v] => E.nx ((ρ.set i (some (.val u))).set j (some (.val v))) n1
  | _ => False
section
variable {X : Cx} {W : WX} {a b e tg : Expr} {δ : DE} {α' : DA} {pos : Pos} {x y : Str}
theorem ps_parD (i j : Nat) {px py pt : Pos} {kt k2 pt2} (hc : X.calm = true) (hN : X.N.Nodup) (ha : PAD X W [a, b] α') (hi : X.N[i]? = some x := by rfl) (hj : X.N[j]? = some y := by rfl) (hij : i ≠ j := by decide)
    (hx : X.env.scope.names.lookup x = some .local := by rfl) (hy : X.env.scope.names.lookup y = some .local := by rfl)
    (hw : swappedStores [.Tuple [.Name x px, .Name y py] kt pt] (.Tuple [a, b] k2 pt2) X.env = pure (some [x, y]) := by rfl)
    (hs : swapsWithSole [.Tuple [.Name x px, .Name y py] kt pt] (.Tuple [a, b] k2 pt2) pos.line X.env = pure false := by rfl) :
    PSD X W (.Assign [.Tuple [.Name x px, .Name y py] kt pt] (.Tuple [a, b] k2 pt2) pos) (dPar i j α') := by
  obtain ⟨t, p, h⟩ := ha
  refine ⟨_, ps_par hc hN hi hj hij hx hy p hw hs, fun B σ H ρ n G α D E hK R L hd => ?_⟩
  refine h B σ H ρ n G α _ _ _ hK R (L.xl R) hd fun vs H1 G1 ds n1 s1 j1 r1 h1 => ?_
  split at h1
  · rename_i u v
    cases r1 with
    | cons r1 t1 =>
      cases t1 with
      | cons r2 t2 =>
        cases t2
        exact ⟨_, _, rfl, L.nx _ H1 _ n1 G1 α (((R.step s1 j1).set i (hK ▸ r1)).set j (hK ▸ r2)) h1⟩
  · exact h1.elim
def dAsg (γ : DG) (δ : DE) : DS := fun E ρ n => δ (E.xx ρ) ρ n fun d n1 => γ d ρ fun ρ1 => E.nx ρ1 n1
end

def pairsD : List D → Option (List (Key × D))
  | [] => some []
  | .tup [k, v] :: ds => (keyD k).bind fun j => (pairsD ds).map ((j, v) :: ·)
  | _ :: _ => none
def mergeD (kvs more : List (Key × D)) : List (Key × D) := more.foldl (fun acc kv => putD acc kv.1 kv.2) kvs
def fDict : FL := f1 fun d k => match d with
  | .lst ds => opt (pairsD ds) fun kvs => k (.dct (mergeD [] kvs))
  | _ => False
theorem pairs_rep {K : PySem.W.Frag} {G : Hp} : ∀ {ds : List D} {vs : List V} {kvs : List (Key × D)}, RepL K G ds vs → pairsD ds = some kvs → ∃ (ps : List Addr) (ws : List (Key × V)), vs = ps.map V.ref ∧ Paired (fun p kv => SqT K G p [kV kv.1, kv.2]) ps ws ∧ RepK K G kvs ws
  | _, _, _, .nil, h => by cases h; exact ⟨[], [], rfl, .nil, .nil⟩
  | _, _, kvs, .cons (d := d) (ds := ds) r t, h => by
    unfold pairsD at h
    split at h
    · rename_i h0; cases h0
    · rename_i k v ds' h0
      cases h0
      cases ek : keyD k with
      | none => rw [ek] at h; cases h
      | some j =>
        rw [ek] at h
        cases ep : pairsD ds with
        | none => rw [ep] at h; cases h
        | some more =>
          rw [ep] at h
          have h : some ((j, v) :: more) = some kvs := h
          cases h
          obtain ⟨ps, ws, e1, e2, e3⟩ := pairs_rep t ep
          cases r with
          | tup es rl =>
            cases rl with
            | cons r1 t1 =>
              cases t1 with
              | cons r2 t2 =>
                cases t2
                rename_i b v1 v2
                have ev : v1 = kV j := by
                  cases k with
                  | int i => cases ek; cases r1; rfl
                  | str i => cases ek; cases r1; rfl
                  | _ => exact nomatch ek
                subst ev
                exact ⟨b :: ps, (j, v2) :: ws, by rw [e1]; rfl, .cons es e2, .cons r2 e3⟩
    · cases h
theorem RepK.merge {K : PySem.W.Frag} {G : Hp} : ∀ {more : List (Key × D)} {ms : List (Key × V)} {kvs : List (Key × D)} {ws : List (Key × V)}, RepK K G more ms → RepK K G kvs ws → RepK K G (mergeD kvs more) (mergeK ws ms)
  | _, _, _, _, .nil, h => h
  | _, _, _, _, .cons (k := k) r t, h => by
    have z := RepK.merge t (h.put (k := k) r)
    exact z
theorem paired_mono {α β : Type} {F F' : α → β → Prop} (h : ∀ a b, F a b → F' a b) : ∀ {l : List α} {m : List β}, Paired F l m → Paired F' l m
  | _, _, .nil => .nil
  | _, _, .cons r t => .cons (h _ _ r) (paired_mono h t)
end DL

end

section
set_option autoImplicit false
namespace DL
open PySem PySem.Spec L2

abbrev AlM : Type := He.AlD × Bool
def tys : List String := ["int", "bool", "list", "tuple", "str", "dict"]
def tysN : List String := ["NoneType", "bool", "int", "str", "list", "tuple", "dict"]
def chkTy (CS : List Str) (sub : Str → Str → Bool) (K : PySem.W.Frag) : Bool := CS.all fun c =>
  (He.Fa.cls c).ok K && (He.eqO (PySem.W.findIn K (.ref (ca K c)) "__class__") (some (some (.builtin "object.__class__"))) && (decide (PySem.W.specialIn K (.builtin "object.__class__") "__get__" = some (some (.builtin "getset_descriptor.__get__"))) &&
  (decide (PySem.W.takesIn K (.builtin "object.__class__") = some true) && (decide (PySem.W.mroIn K (ca K c) (.type "object") = some true) &&
  ((tys.all fun T => decide (PySem.W.kitOne K (.ref (ca K c)) (.type T) = some false)) && ((tysN.all fun T => decide (PySem.W.kitOne K (.type T) (.ref (ca K c)) = some false)) && (CS.all fun c' => decide (PySem.W.kitOne K (.ref (ca K c)) (.ref (ca K c')) = some (sub c c')))))))))
def isaB (n : String) : Ty → Bool
  | .b m => m == n || (n == "int" && m == "bool")
  | .own _ => false
def isaO (sub : Str → Str → Bool) (c : Str) : Ty → Bool
  | .b _ => false
  | .own c' => sub c' c
section
variable {K : PySem.W.Frag} {CS : List Str} {sub : Str → Str → Bool}
theorem chk_at (h : chkTy CS sub K = true) {c : Str} (hc : c ∈ CS) : TyF K c ∧ (∀ T ∈ tys, PySem.W.kitOne K (.ref (ca K c)) (.type T) = some false) ∧ (∀ T ∈ tysN, PySem.W.kitOne K (.type T) (.ref (ca K c)) = some false) ∧ ∀ c' ∈ CS, PySem.W.kitOne K (.ref (ca K c)) (.ref (ca K c')) = some (sub c c') := by
  have z := List.all_eq_true.mp h c hc
  obtain ⟨h1, z⟩ := He.ba z
  obtain ⟨h2, z⟩ := He.ba z
  obtain ⟨h3, z⟩ := He.ba z
  obtain ⟨h4, z⟩ := He.ba z
  obtain ⟨h5, z⟩ := He.ba z
  obtain ⟨h6, z⟩ := He.ba z
  obtain ⟨h7, h8⟩ := He.ba z
  exact ⟨⟨He.cls_ok h1, He.eqO_ok h2, of_decide_eq_true h3, of_decide_eq_true h4, of_decide_eq_true h5⟩, fun T hT => of_decide_eq_true (List.all_eq_true.mp h6 T hT), fun T hT => of_decide_eq_true (List.all_eq_true.mp h7 T hT), fun c' hc' => of_decide_eq_true (List.all_eq_true.mp h8 c' hc')⟩
theorem chk_tyf (h : chkTy CS sub K = true) : ∀ c ∈ CS, TyF K c := fun _ hc => (chk_at h hc).1
theorem tyD_mem {d : D} {m : String} (h : tyD d = some (.b m)) : m ∈ tysN := by
  cases d <;> first | (cases h; decide) | (exact nomatch h)
theorem kit_bb (n : String) (hn : n ∈ tys) : ∀ m ∈ tysN, kitB m n = some (isaB n (.b m)) := by
  have e : ∀ n ∈ tys, ∀ m ∈ tysN, kitB m n = some (isaB n (.b m)) := by decide +kernel
  exact e n hn
theorem chk_kb (h : chkTy CS sub K = true) (n : String) (hn : n ∈ tys) : ∀ d t, tyD d = some t → (∀ c, t = .own c → c ∈ CS) → PySem.W.kitOne K (t.val K) (.type n) = some (isaB n t) := fun d t e hc => by
  cases t with
  | b m => exact kit_ty (kit_bb n hn m (tyD_mem e))
  | own c => exact (chk_at h (hc c rfl)).2.1 n hn
theorem chk_ko (h : chkTy CS sub K = true) {c : Str} (hc : c ∈ CS) : ∀ d t, tyD d = some t → (∀ c, t = .own c → c ∈ CS) → PySem.W.kitOne K (t.val K) (.ref (ca K c)) = some (isaO sub c t) := fun d t e hcs => by
  cases t with
  | b m => exact (chk_at h hc).2.2.1 m (tyD_mem e)
  | own c' => exact (chk_at h (hcs c' rfl)).2.2.2 c hc
theorem chk_kt (h : chkTy CS sub K = true) : ∀ (ns : List String), (∀ n ∈ ns, n ∈ tys) → ∀ d t, tyD d = some t → (∀ c, t = .own c → c ∈ CS) → PySem.W.kitAny K (t.val K) (ns.map Value.type) = some (ns.any fun n => isaB n t)
  | [], _, _, _, _, _ => kitAny_nil
  | n :: ns, hn, d, t, e, hc => by
    rw [List.map_cons, List.any_cons]
    refine kitAny_cons (chk_kb h n (hn n List.mem_cons_self) d t e hc) (fun q => ?_) (fun q => ?_)
    · rw [q, Bool.false_or]
      exact chk_kt h ns (fun m hm => hn m (List.mem_cons_of_mem _ hm)) d t e hc
    · rw [q, Bool.true_or]
end

def tupAt (K : PySem.W.Frag) (a : Addr) (vs : List He.Dv) : Bool := match K.lookup a with
  | some ⟨.type c, _, .seq its _, _⟩ => decide (c = "tuple") && (decide (its.size ≤ sizeLine) && He.relAll (vs.map (He.Dv.v K)) its.toList)
  | _ => false
theorem tupAt_ok {K : PySem.W.Frag} {a : Addr} {vs : List He.Dv} (h : tupAt K a vs = true) (H : Hp) : SqT K H a (vs.map (He.Dv.v K)) := by
  unfold tupAt at h
  cases q : K.lookup a with
  | none =>
    rw [q] at h
    cases h
  | some o =>
    obtain ⟨oc, od, dt, osl⟩ := o
    rw [q] at h
    cases oc with
    | type c =>
      cases dt with
      | seq its n =>
        obtain ⟨h1, h2⟩ := He.ba (show (decide (c = "tuple") && (decide (its.size ≤ sizeLine) && He.relAll (vs.map (He.Dv.v K)) its.toList)) = true from h)
        obtain ⟨h3, h4⟩ := He.ba h2
        exact .inr ⟨_, its, n, q, congrArg Value.type (of_decide_eq_true h1), rfl, of_decide_eq_true h3, He.relAll_ok h4⟩
      | _ => cases h
    | _ => cases dt <;> cases h
theorem rep_ints {K : PySem.W.Frag} {a : Addr} {ns : List Int} (h : tupAt K a (ns.map He.Dv.int) = true) (G : Hp) : Rep K G (.tup (ns.map D.int)) (.ref a) := by
  have z := tupAt_ok h G
  rw [List.map_map] at z
  exact .tup z (RepL.of_ints ns)
end DL

end

section
set_option autoImplicit false
namespace DL
open PySem PySem.Spec PySem.W
section
variable {prog : Program} {w : World} {A : Around} {E : Value → Shared → Prop} {s : Shared} {K : Frag} {x C f : Addr} {ox : Obj} {od : Option Obj}
def mro2 (K : Frag) (C : Addr) : Bool := (clsIn K C).any fun cd => decide (cd.mro = [.ref C, .type "object"])
end

section
open L2
structure OpK (K : Frag) (c : Str) (op : Operator) : Prop where
  mro : mro2 K (ca K c) = true
  si : subIn K (.type "int") (.ref (ca K c)) = some false
  rr : ∃ rr, findIn K (.ref (ca K c)) (dunderR op.info.2) = some rr ∧ ∃ z, ∀ t, calledByName t (dunderR op.info.2) rr = pure z
  ini : findIn K (.ref (ca K c)) (dunderI op.info.2) = some none
structure OpI (op : Operator) : Prop where
  fi : fillsNumberSlot (.type "int") op.info.2 = pure true
  tk : ∃ tk0, typeLookup (.type "int") (dunderR op.info.2) = pure tk0
  ob : typeLookup (.type "object") (dunderI op.info.2) = pure none
variable {X : Cx} {CX : CXT} {k : Nat} {f C : Addr} {fd : FuncData} {ps : List Str} {sp : Sp} {E : L2.St → XK} {a b : Expr} {ta tb : TE} {pos : Pos} {op : Operator} {c m : Str}
end
section
open L2
def rOk (c : Str) : D → Prop
  | .int _ => True
  | .obj c' _ => c' = c
  | _ => False
def dBinO (c : Str) (F : DF) (a b : DE) : DE := fun x ρ n q => a x ρ n fun u n1 => b x ρ n1 fun v n2 => (∃ fs, u = .obj c fs) ∧ rOk c v ∧ F x.w [u, v] n2 q x.ex
variable {X : Cx} {W : WX} {k : Nat} {F : DF} {c m n : Str} {a b : Expr} {δa δb : DE} {pos pos' : Pos} {op : Operator}
def dAugO (i : Nat) (c : Str) (F : DF) (b : DE) : DS := fun E ρ n => match ρ[i]? with
  | some (some (Sl.val u)) => b (E.xx ρ) ρ n fun v n2 => (∃ fs, u = .obj c fs) ∧ rOk c v ∧ F E.w [u, v] n2 (fun z n3 => E.nx (ρ.set i (some (.val z))) n3) fun e n3 => E.ex e ρ n3
  | _ => False
end
end DL

end

section
set_option autoImplicit false
namespace DL
open PySem PySem.Spec L2
def keyOf : Key → D
  | .inl i => .int i
  | .inr x => .str x
theorem keyOf_rep {K : PySem.W.Frag} {G : Hp} (k : Key) : Rep K G (keyOf k) (kV k) := by
  cases k with
  | inl i => exact .int i
  | inr x => exact .str x
section
variable {K : PySem.W.Frag} {G : Hp}
theorem RepK.getV : ∀ {kvs : List (Key × D)} {ws : List (Key × V)} {i : Nat} {k : Key} {v : V}, RepK K G kvs ws → ws[i]? = some (k, v) → ∃ d, kvs[i]? = some (k, d) ∧ Rep K G d v
  | _, _, _, _, _, .nil, e => by simp at e
  | _, _, 0, _, _, .cons r _, e => by
    simp at e
    obtain ⟨rfl, rfl⟩ := e
    exact ⟨_, rfl, r⟩
  | _, _, i + 1, k, v, .cons _ t, e => by
    obtain ⟨u, h1, h2⟩ := RepK.getV (i := i) (k := k) (v := v) t (by simpa using e)
    exact ⟨u, by simpa using h1, h2⟩
theorem walkD_keys {d : Addr} {o : Obj} {ws : List (Key × V)} {kvs : List (Key × D)} (e : G d = some (.frz o (.dK ws))) (r : RepK K G kvs ws) : WalkD K (Itk d o ws) G (kvs.map fun kv => keyOf kv.1) := by
  have hl := r.length
  refine ⟨fun i H G' hi l1 l2 => ⟨l2.get (l1.get e), by simpa [hl] using hi⟩, fun H G' l1 l2 => ⟨l2.get (l1.get e), by simp [hl]⟩, fun i H G' x H' hi l1 l2 y => ?_⟩
  obtain ⟨rfl, k, v, e1, rfl⟩ := y
  obtain ⟨dd, h1, h2⟩ := r.getV e1
  exact ⟨keyOf k, G', by rw [List.getElem?_map, h1]; rfl, .refl l2, keyOf_rep k⟩
def enumD (ds : List D) : List D := (List.range ds.length).map fun (i : Nat) => D.tup [.int (i : Int), ds.getD i .non]
def zipD (ds es : List D) : List D := (ds.zip es).map fun p => D.tup [p.1, p.2]
end
def iKy (δ : DE) : DI := fun x ρ n q => δ x ρ n fun d n1 => match d with
  | .dct kvs => q (kvs.map fun kv => keyOf kv.1) n1
  | _ => False
def iIt (δ : DE) : DI := fun x ρ n q => δ x ρ n fun d n1 => match d with
  | .dct kvs => q (kvs.map fun kv => D.tup [keyOf kv.1, kv.2]) n1
  | _ => False
def iEn (δ : DA) : DI := fun x ρ n q => δ x ρ n fun ds n1 => match ds with
  | [.lst es] => q (enumD es) n1
  | _ => False
def iZp (δ : DA) : DI := fun x ρ n q => δ x ρ n fun ds n1 => match ds with
  | [.lst a, .lst b] => q (zipD a b) n1
  | [.tup a, .tup b] => q (zipD a b) n1
  | _ => False
section
variable {X : Cx} {W : WX} {tg e a b c : Expr} {δ : DE} {α' : DA} {p pos tpos apos cpos : Pos} {elts : List Expr} {kk : Nat}
theorem pid_keys (h : PD X W e δ) : PID X W tg e (iKy δ) := by
  obtain ⟨t, pe, h⟩ := h
  refine ⟨_, pi_keys pe, fun B σ H ρ n G α R x q hK RB hx hd k => ?_⟩
  refine h B σ H ρ n G α _ x _ hK RB hx hd fun v H1 G1 d n1 s1 j1 r1 h1 => ?_
  cases d with
  | dct kvs =>
    cases r1 with
    | dct e r => exact ⟨_, _, rfl, .inl ⟨_, s1.hh.get e, k _ H1 G1 _ n1 s1 j1 (walkD_keys e r) h1⟩⟩
  | _ => exact h1.elim
end

section
variable {X : Cx} {W : WX} {e : Expr} {te : TE} {p apos cpos pos : Pos} {δ : DE}
def itemsD (kvs : List (Key × D)) : List D := kvs.map fun kv => D.tup [keyOf kv.1, kv.2]
def dItems (δ : DE) : DE := fun x ρ n q => δ x ρ n fun d n1 => match d with
  | .dct kvs => q (.lst (itemsD kvs)) n1
  | _ => False
end

abbrev DKV := DX → Env → Nat → (List (Key × D) → Nat → Prop) → Prop
def kv0 : DKV := fun _ _ n q => q [] n
def kvC (a b : DE) (r : DKV) : DKV := fun x ρ n q => a x ρ n fun k n1 => b x ρ n1 fun d n2 => opt (keyD k) fun j => r x ρ n2 fun kvs n3 => q ((j, d) :: kvs) n3
def dDisp (r : DKV) : DE := fun x ρ n q => r x ρ n fun kvs n1 => kvs.length ≤ 15 ∧ q (.dct (mergeD [] kvs)) n1
section
variable {X : Cx} {W : WX} {pos : Pos} {k v : Expr} {ks : List (Option Expr)} {vs : List Expr} {a b : DE} {r : DKV}
end

def dExt (i : Nat) (δ : DE) : DS := fun E ρ n => match ρ[i]? with
  | some (some (.own (.lst ds))) => δ (E.xx ρ) ρ n fun d n1 => (match d with
    | .lst es => ds.length + es.length ≤ 16777216 ∧ E.nx (ρ.set i (some (.own (.lst (ds ++ es))))) n1
    | _ => False)
  | _ => False
section
variable {X : Cx} {W : WX} {e : Expr} {δ : DE} {pos pos' apos cpos : Pos} {x : Str}
end

abbrev DSl := DX → Env → Nat → (Sl → Nat → Prop) → Prop
def ES (K : PySem.W.Frag) (W : WX) (t : TE) (δ : DSl) : Prop :=
  ∀ (B : Bs) (σ : St) (H : Hp) (ρ : Env) (n : Nat) (G : Hp) (α : Nat → Addr) (Q : VK) (x : DX) (q : Sl → Nat → Prop), B.K = K → RelB B σ H ρ n G α → XL B W σ H G x → δ x ρ n q →
    (∀ v H' G' sl n', Step B.W H G H' G' → B.W.J n' H' → SlRep K B.W H G' H' sl v → q sl n' → Q v H') → t σ H Q
def PSl (X : Cx) (W : WX) (e : Expr) (δ : DSl) : Prop := ∃ t, PE X e t ∧ ES X.K W t δ
def slV (δ : DE) : DSl := fun x ρ n q => δ x ρ n fun d n1 => q (.val d) n1
def slO (δ : DE) : DSl := fun x ρ n q => δ x ρ n fun d n1 => q (.own d) n1
section
variable {X : Cx} {W : WX} {a b c e : Expr} {δ : DE} {δ1 δ2 δ3 : DSl} {pos : Pos} {x y z : Str}
theorem PD.sl (h : PD X W e δ) : PSl X W e (slV δ) := by
  obtain ⟨t, p, h⟩ := h
  exact ⟨t, p, fun B σ H ρ n G α Q x q hK R hx hd k => h B σ H ρ n G α Q x _ hK R hx hd fun v H' G' d n' s j r hq => k v H' G' (.val d) n' s j r hq⟩
theorem PF.sl (h : PF X W e δ) : PSl X W e (slO δ) := by
  obtain ⟨t, p, h⟩ := h
  exact ⟨t, p, fun B σ H ρ n G α Q x q hK R hx hd k => h B σ H ρ n G α Q x _ hK R hx hd fun v H' G' d n' s j np ng nr o hq => k _ H' G' (.own d) n' s j ⟨_, rfl, np, ng, nr, o⟩ hq⟩
theorem h0_of {B : Bs} {σ : St} {H : Hp} {ρ : Env} {n : Nat} {G : Hp} {α : Nat → Addr} (R : RelB B σ H ρ n G α) {a : Addr} (e : H a = none) (nr : ¬ B.W.rg a) : B.H0 a = none := by
  cases q : B.H0 a with
  | none => rfl
  | some u => have := R.st.fr a u q nr; rw [e] at this; cases this
theorem RelB.next {B : Bs} {σ : L2.St} {H H1 : Hp} {ρ : Env} {n n1 : Nat} {G G1 : Hp} {α : Nat → Addr} {u : Sl} {v : V} (R : RelB B σ H ρ n G α) (s : Step B.W H G H1 G1) (j : B.W.J n1 H1) (r : SlRep B.K B.W H G1 H1 u v) (i : Nat) (i0 : i ≠ 0) : ∃ α', RelB B (σ.set i (some v)) H1 (ρ.set i (some u)) n1 G1 α' := by
  have R' := R.step s j
  have fg : ∀ {a : Addr}, H a = none → ∀ (k : Nat) (r : D) (gs : List (Addr × D)), ρ[k]? = some (some (.gst r gs)) → ∀ g ∈ gs, g.1 ≠ a := fun {a} n0 k r gs e g hm z => by
    obtain ⟨o, q⟩ := (R.gh.at_ k r gs e g hm).2.2.2.there
    rw [z, n0] at q; cases q
  have fo : ∀ {a : Addr}, H a = none → ∀ (k : Nat) (d : D), ρ[k]? = some (some (.own d)) → α k ≠ a := fun {a} n0 k d e z => by
    obtain ⟨o, q⟩ := (R.own k d e).2.2.2.2.there
    rw [z, n0] at q; cases q
  cases u with
  | val d => exact ⟨α, R'.set i r⟩
  | own d =>
    obtain ⟨a, rfl, n0, g, nr, o⟩ := r
    exact ⟨_, R'.setOwn i i0 (a := a) (d := d) (fun j e _ hj => fo n0 j e hj) g (h0_of R n0 nr) nr o (fg n0)⟩
  | gst r' gs =>
    obtain ⟨hr, nd, hg⟩ := r
    exact ⟨α, R'.setGst i i0 hr nd (fun g hm => by obtain ⟨n0, g1, nr, o⟩ := hg g hm; exact ⟨g1, h0_of R n0 nr, nr, o⟩) (fun j d _ e g hm z => fo (hg g hm).1 j d e z.symm) fun j r' gs' _ e g hm g' hm' z => fg (hg g hm).1 j r' gs' e g' hm' z.symm⟩
def dPar2 (i j : Nat) (a b : DSl) : DS := fun E ρ n => a (E.xx ρ) ρ n fun u n1 => b (E.xx ρ) ρ n1 fun v n2 => E.nx ((ρ.set i (some u)).set j (some v)) n2
theorem RelB.par2 {B : Bs} {σ : St} {H H1 H2 : Hp} {ρ : Env} {n n1 n2 : Nat} {G G1 G2 : Hp} {α : Nat → Addr} {u1 u2 : Sl} {v1 v2 : V} (i j : Nat) (i0 : i ≠ 0) (j0 : j ≠ 0) (R : RelB B σ H ρ n G α) (s1 : Step B.W H G H1 G1) (j1 : B.W.J n1 H1) (s2 : Step B.W H1 G1 H2 G2) (j2 : B.W.J n2 H2) (r1 : SlRep B.K B.W H G1 H1 u1 v1) (r2 : SlRep B.K B.W H1 G2 H2 u2 v2) :
    ∃ α2, RelB B ((σ.set i (some v1)).set j (some v2)) H2 ((ρ.set i (some u1)).set j (some u2)) n2 G2 α2 := by
  obtain ⟨α1, R3⟩ := R.next s1 j1 r1 i i0
  exact R3.next s2 j2 r2 j j0
theorem ps_par2 (i j : Nat) {px py pt : Pos} {kt k2 pt2} (hc : X.calm = true) (hN : X.N.Nodup) (h1 : PSl X W a δ1) (h2 : PSl X W b δ2) (hi : X.N[i]? = some x := by rfl) (hj : X.N[j]? = some y := by rfl) (hij : i ≠ j := by decide) (i0 : i ≠ 0 := by decide) (j0 : j ≠ 0 := by decide)
    (hx : X.env.scope.names.lookup x = some .local := by rfl) (hy : X.env.scope.names.lookup y = some .local := by rfl)
    (hst : starEach [a, b] X.env = (false, eval a X.env) :: starEach [b] X.env := by rfl) (hst2 : starEach [b] X.env = [(false, eval b X.env)] := by rfl)
    (hw : swappedStores [.Tuple [.Name x px, .Name y py] kt pt] (.Tuple [a, b] k2 pt2) X.env = pure (some [x, y]) := by rfl)
    (hs : swapsWithSole [.Tuple [.Name x px, .Name y py] kt pt] (.Tuple [a, b] k2 pt2) pos.line X.env = pure false := by rfl) :
    PSD X W (.Assign [.Tuple [.Name x px, .Name y py] kt pt] (.Tuple [a, b] k2 pt2) pos) (dPar2 i j δ1 δ2) := by
  obtain ⟨ta, pa, ea⟩ := h1
  obtain ⟨tb, pb, eb⟩ := h2
  refine ⟨_, ps_par hc hN hi hj hij hx hy (pa_cons pa (pa_cons pb pa_nil hst2) hst) hw hs, fun B σ H ρ n G α D E hK R L hd => ?_⟩
  refine ea B σ H ρ n G α _ _ _ hK R (L.xl R) hd fun v1 H1 G1 u1 n1 s1 j1 r1 h1 => ?_
  have R1 := R.step s1 j1
  refine eb B σ H1 ρ n1 G1 α _ _ _ hK R1 (L.xl R1) h1 fun v2 H2 G2 u2 n2 s2 j2 r2 h2 => ?_
  have R2 := R1.step s2 j2
  rw [← hK] at r1 r2
  refine ⟨v1, v2, rfl, ?_⟩
  obtain ⟨α2, R4⟩ := RelB.par2 i j i0 j0 R s1 j1 s2 j2 r1 r2
  exact L.nx _ H2 _ n2 G2 α2 R4 h2
end

def dNeverE : DE := fun _ _ _ _ => False
theorem pd_never {X : Cx} {W : WX} {e : Expr} : PD X W e dNeverE := ⟨fun _ _ _ => False, ⟨fun _ _ _ _ _ _ h => h.elim⟩, fun _ _ _ _ _ _ _ _ _ _ _ _ _ h => h.elim⟩
end DL

end

section
set_option autoImplicit false
namespace DL
open PySem PySem.Spec L2
theorem takes0 {X : Cx} : Takes X W0 := fun _ _ ⟨_, _, _, _, _, _, _, _, _, _, _, _, _, _, _, _, w⟩ => w.elim
end DL

end

section
set_option autoImplicit false
namespace DL
open PySem PySem.Spec PyProof.Rows L2
def oexB (K : PySem.W.Frag) (C : Addr) : Bool := match K.lookup C with
  | some ⟨.type "type", _, .cls cd, sl⟩ => (match cd.mro, sl.toList with
    | .ref C' :: bm, [_, _, _, _, some (.builtin n), _] => C' == C && (n == "ValueError.__new__" && (!cd.hasDel && (cd.hasDict && PySem.HandSPX.refsVE bm)))
    | _, _ => false)
  | _ => false
theorem oexB_ok {K : PySem.W.Frag} {C : Addr} (q : oexB K C = true) : ∃ nm qn N bs bm sn sub ab col dd k0 k1 k2 k3 k5, K.lookup C = some (excClassObj nm qn C N bs bm true sn sub ab col dd k0 k1 k2 k3 k5 "ValueError.__new__") ∧ PySem.HandSPX.refsVE bm = true := by
  unfold oexB at q
  split at q
  · rename_i dd cd sl ho
    split at q
    · rename_i C' bm k0 k1 k2 k3 n k5 hm hs
      simp only [Bool.and_eq_true, beq_iff_eq, Bool.not_eq_true'] at q
      obtain ⟨rfl, rfl, hdel, hdc, hr⟩ := q
      obtain ⟨nm, bs, mro, ns, qn, hd, sn, sub, ab, col, del⟩ := cd
      dsimp only at hm hdel hdc
      subst hm hdel hdc
      have e : sl = #[k0, k1, k2, k3, some (.builtin "ValueError.__new__"), k5] := by
        obtain ⟨l⟩ := sl
        have hs' : l = _ := hs
        rw [hs']
      subst e
      exact ⟨nm, qn, ns, bs, bm, sn, sub, ab, col, dd, k0, k1, k2, k3, k5, ho, hr⟩
    · cases q
  · cases q
structure XC (K : PySem.W.Frag) (c : Str) : Prop where
  oex : OexC K (ca K c)
  ini : PySem.W.findIn K (.ref (ca K c)) "__init__" = some (some (.ref (He.ma K (ca K c) "__init__")))
  fn : PySem.W.typeIn K (.ref (He.ma K (ca K c) "__init__")) = some (.type "function")
def excB (c : Str) (K : PySem.W.Frag) : Bool := oexB K (ca K c) && (He.eqO (PySem.W.findIn K (.ref (ca K c)) "__setattr__") (some (some (.builtin "object.__setattr__"))) && (decide (PySem.W.subIn K (.ref (ca K c)) (.type "BaseException") = some true) &&
  (decide (PySem.W.typeIn K (.ref (ca K c)) = some (.type "type")) && (PySem.W.keepIn K (.ref (ca K c)) && (He.eqO (PySem.W.findIn K (.ref (ca K c)) "__init__") (some (some (.ref (He.ma K (ca K c) "__init__")))) && decide (PySem.W.typeIn K (.ref (He.ma K (ca K c) "__init__")) = some (.type "function")))))))
theorem excB_ok {K : PySem.W.Frag} {c : Str} (h : excB c K = true) : XC K c := by
  obtain ⟨h1, h⟩ := He.ba h
  obtain ⟨h2, h⟩ := He.ba h
  obtain ⟨h3, h⟩ := He.ba h
  obtain ⟨h4, h⟩ := He.ba h
  obtain ⟨h5, h⟩ := He.ba h
  obtain ⟨h6, h7⟩ := He.ba h
  exact ⟨⟨oexB_ok h1, He.eqO_ok h2, of_decide_eq_true h3, of_decide_eq_true h4, h5⟩, He.eqO_ok h6, of_decide_eq_true h7⟩
structure XBase (K : PySem.W.Frag) (b : Str) : Prop where
  rd : PySem.W.readsIn K (ca K b) (.type "type") = true
  fc : PySem.W.findCls K (.ref (ca K b)) (.type "type") "__init__" = some (.val (.builtin "ValueError.__init__"))
  ga : PySem.W.specialIn K (.ref (ca K b)) "__getattribute__" = some (some (.builtin "type.__getattribute__"))
def seB (b : Str) (K : PySem.W.Frag) : Bool := PySem.W.readsIn K (ca K b) (.type "type") && ((match PySem.W.findCls K (.ref (ca K b)) (.type "type") "__init__" with
  | some (.val (.builtin n)) => n == "ValueError.__init__"
  | _ => false) && He.eqO (PySem.W.specialIn K (.ref (ca K b)) "__getattribute__") (some (some (.builtin "type.__getattribute__"))))
theorem seB_ok {K : PySem.W.Frag} {b : Str} (h : seB b K = true) : XBase K b := by
  obtain ⟨h1, h⟩ := He.ba h
  obtain ⟨h2, h3⟩ := He.ba h
  refine ⟨h1, ?_, He.eqO_ok h3⟩
  split at h2
  · rename_i n e
    rw [e, beq_iff_eq.mp h2]
  · cases h2

section
variable {X : Cx} {e : Expr} {es : List Expr} {ta : TA} {p1 p2 pos : Pos} {b : Str}
theorem pe_seinit {pl : Sem Bool} (B : XBase X.K b) (hg : Gl X b) (hm : X.mg b = some (.ref (ca X.K b))) (ha : PA X (e :: es) ta) (hdb : (b == ("__debug__" : Str)) = false := by decide)
    (hc : eval (.Call (.Attribute (.Name b p1) "__init__" p2) (e :: es) [] pos) X.env = (do
      let ov ← eval (.Name b p1) X.env
      standAt p2.atName
      let (f, first) ← holding [ov] (getMethod ov "__init__" pl)
      callWith pos f first (backTo pos (starEach (e :: es) X.env)) (backToKw pos (keywordEach [] X.env))) := by rfl)
    (he : starEach (e :: es) X.env = (false, eval e X.env) :: starEach es X.env := by rfl) (hpl : (backTo pos (starEach es X.env)).any (·.1) = false := by rfl) :
    PE X (.Call (.Attribute (.Name b p1) "__init__" p2) (e :: es) [] pos) (tVeI X.K ta) := by
  refine ⟨fun pins s σ H Q I h => ?_⟩
  refine PySem.W.methodCall_KW (ld_glob I hg hm ?_ hdb) hc
  refine PySem.W.method_cls I.kIn B.ga (PySem.W.cls_value I.kIn B.rd B.fc (by decide +kernel) ?_)
  show wpAny _ _ (callWith pos (Value.builtin "ValueError.__init__") [] (backTo pos (starEach (e :: es) X.env)) []) _ _ _
  refine PyProof.Rows.callWith_method1 (thn (ha.run pos pins _ σ H _ (I.tok _) h) fun us s1 q => ?_) he hpl
  obtain ⟨vs, H1, I1, r1, a, C, ws, ev, hl, T, ea, q⟩ := q
  subst ev
  cases r1 with
  | @cons _ u0 _ ur ra rt =>
    obtain rfl : u0 = Value.ref a := ra
    exact oinit_ok T I1 ea (by rw [← Paired.length rt, sizeLine_eq]; omega) fun s' J => ⟨.non, H1, J, rfl, q⟩
end

def spXF (K : PySem.W.Frag) (c f : Str) : Sp := fun vs H Q _ => ∃ (a : Addr) (v : V), vs = [.ref a, v] ∧ H a = some (exo a (ca K c) none) ∧ ∀ dx, H dx = none → dx ≠ a → Q .non (upd (upd H dx (exd dx [(f, v)])) a (exo a (ca K c) (some dx)))
structure Xg (P : Program) (w : World) (K : PySem.W.Frag) (mg : Str → Option Value) (base : Heap) (c : Str) (sp : Sp) (m : Nat) : Prop where
  xc : XC K c
  gl : mg c = some (.ref (ca K c))
  ex : ∃ (fd : FuncData) (ps : List Str), ps.length = m ∧ FnOk P w K mg base (L2.CX P w) 1 (He.ma K (ca K c) "__init__") fd ps sp ∧ Binds K fd ps []
theorem passes0 {X : Cx} : Passes (L2.CX X.prog X.w) X (fun _ _ _ => False) := fun _ _ _ _ _ _ _ ⟨_, _, _, _, _, _, _, _, _, _, _, _, z⟩ => z.elim

def dRaise (c f : Str) (a : DA) : DS := fun E ρ n => a (E.xx ρ) ρ n fun ds n1 => match ds with
  | [d] => E.ex (c, [(f, d)]) ρ n1
  | _ => False
section
variable {X : Cx} {W : WX} {c f : Str} {e : Expr} {α' : DA} {p pos pos' : Pos}
theorem ps_raiseD (S : Xg X.prog X.w X.K X.mg X.base c (spXF X.K c f) 2) (hr : Room 2 X.A) (hc : X.calm = true) (tk : Takes X W) (hg : Gl X c) (ha : PAD X W [e] α') (hdb : (c == ("__debug__" : Str)) = false := by decide)
    (he : starEach [e] X.env = (false, eval e X.env) :: starEach [] X.env := by rfl) (hpl : (backTo pos (starEach [] X.env)).any (·.1) = false := by rfl) : PSD X W (.Raise (some (.Call (.Name c p) [e] [] pos)) none pos') (dRaise c f α') := by
  obtain ⟨t, pa, ea⟩ := ha
  obtain ⟨fd, ps, hl, hF, hb⟩ := S.ex
  refine ⟨_, ps_raise hc tk (pmk_oex S.xc.oex S.xc.ini S.xc.fn hF hr hb .nil passes0 hg S.gl pa hdb he hpl), fun B σ H ρ n G α D E hK R L hd => ?_⟩
  refine ea B σ H ρ n G α _ _ _ hK R (L.xl R) hd fun vs H1 G1 ds n1 s1 j1 r1 h1 => ?_
  have R1 := R.step s1 j1
  split at h1
  · cases r1 with
    | @cons d v _ _ r r' =>
      cases r'
      refine ⟨by show 1 ≤ 1000; decide, fun a na => ⟨a, v, rfl, upd_same, fun dx nd ne => ⟨rfl, dx, [(f, v)], upd_same, ?_, ?_, ?_⟩⟩⟩
      · rw [upd_ne ne, upd_same]
      · rw [upd_ne ne] at nd; exact nd
      · rw [upd_ne ne] at nd
        have e3 : upd (del (upd (upd (upd H1 a (exo a (ca X.K c) none)) dx (exd dx [(f, v)])) a (exo a (ca X.K c) (some dx))) a) dx (.xd [(f, v)]) = upd H1 dx (.xd [(f, v)]) := by
          funext b
          by_cases h1 : b = dx
          · rw [h1, upd_same, upd_same]
          · rw [upd_ne h1, upd_ne h1]
            by_cases h2 : b = a
            · rw [h2, del_same, na]
            · rw [del_ne h2, upd_ne h2, upd_ne h1, upd_ne h2]
        rw [e3]
        have nrg : ¬ B.W.rg dx := fun z => B.W.there n1 H1 dx R1.J z nd
        have n0 : B.H0 dx = none := by
          cases qq : B.H0 dx with
          | none => rfl
          | some o =>
            have := R1.st.fr dx o qq nrg
            rw [nd] at this; cases this
        have s2 := StepP.laid (o := .xd [(f, v)]) R1.le nd
        exact L.ex _ (some dx) σ _ ρ n1 G1 α (c, [(f, _)]) (R1.step (s2.step j1) (s2.J j1)) ⟨by rw [hK], ⟨n0, nrg⟩, _, upd_same, .cons (hK ▸ r) .nil⟩ h1
  · exact h1.elim
end

section
variable {X : Cx}
def dRaise0 (c : Str) : DS := fun E ρ n => E.ex (c, []) ρ n
end
end DL

end

section
set_option autoImplicit false
namespace DL
open PySem PySem.Spec L2
def xsB (XS : List Str) (sub : Str → Str → Bool) (K : PySem.W.Frag) : Bool := XS.all fun c => XS.all fun c' => decide (PySem.W.exmOne K (.ref (ca K c)) (.ref (ca K c')) = some (sub c c'))
theorem xsB_ok {XS : List Str} {sub : Str → Str → Bool} {K : PySem.W.Frag} (h : xsB XS sub K = true) : ∀ c ∈ XS, ∀ c' ∈ XS, PySem.W.exmOne K (.ref (ca K c)) (.ref (ca K c')) = some (sub c c') := fun c hc c' hc' =>
  of_decide_eq_true (List.all_eq_true.mp (List.all_eq_true.mp h c hc) c' hc')
def dTry (XS : List Str) (sub : Str → Str → Bool) (c : Str) (b s : DS) : DS := fun E ρ n => b { E with ex := fun e ρ' n' => e.1 ∈ XS ∧ if sub e.1 c = true then s { E with ex := fun _ _ _ => False } ρ' n' else E.ex e ρ' n' } ρ n
section
variable {X : Cx} {W : WX} {c : Str} {body suite : List Stmt} {b₀ : Stmt} {np pos pos' : Pos} {b s : DS} {XS : List Str} {sub : Str → Str → Bool}
end
end DL

end

section
set_option autoImplicit false
namespace DL
open PySem PySem.Spec L2
def eqB (CS : List Str) (c : Str) (K : PySem.W.Frag) : Bool := (tysN.all fun T => PySem.W.notFirst K (ca K c) (.type T)) && CS.all fun c' => PySem.W.notFirst K (ca K c) (.ref (ca K c'))
theorem eqB_ok {CS : List Str} {c : Str} {K : PySem.W.Frag} (h : eqB CS c K = true) {d : D} {t : Ty} (e : tyD d = some t) (hc : ∀ c', t = .own c' → c' ∈ CS) : PySem.W.notFirst K (ca K c) (t.val K) = true := by
  obtain ⟨h1, h2⟩ := He.ba h
  cases t with
  | b n => exact List.all_eq_true.mp h1 n (tyD_mem e)
  | own c' => exact List.all_eq_true.mp h2 c' (hc c' rfl)
section
variable {X : Cx} {W : WX} {k : Nat} {f C : Addr} {fd : FuncData} {ps : List Str} {sp : Sp} {E : L2.St → XK} {a b : Expr} {ta tb : TE} {pos : Pos} {m c : Str}
def tEqO (K : PySem.W.Frag) (C : Addr) (sp : Sp) (E : L2.St → XK) (ta tb : TE) : TE := fun σ H Q => ta σ H fun x H1 => tb σ H1 fun y H2 => ∃ a dx fs t, x = .ref a ∧ H2 a = some (.ins C dx fs) ∧ TyX K H2 y t ∧ PySem.W.notFirst K C t = true ∧ sp [x, y] H2 Q (E σ)
theorem pe_eqO {CX : CXT} (hm : Meth X.K C "__eq__" f) (F : FnOk X.prog X.w X.K X.mg X.base CX k f fd ps sp) (hr : Room k X.A) (hb : Binds X.K fd ps []) (hx : ∀ σ, PassesAt CX X σ (E σ)) (ha : PE X a ta) (hb' : PE X b tb) : PE X (.Compare a [.Eq] [b] pos) (tEqO X.K C sp E ta tb) := by
  refine ⟨fun pins s σ H Q I h => ?_⟩
  refine wpAny_Compare1 (binT ha hb' I h fun v u s2 x y H2 I2 rx ry q => ?_) (nomark _)
  obtain ⟨p, dx, fs, t, ex, ea, ty, hn, hsp⟩ := q
  subst ex
  obtain rfl : v = Value.ref p := rx
  obtain ⟨mA, J, _⟩ := ins_get I2.hok ea
  obtain ⟨od, J, _⟩ := J.look
  obtain ⟨P, kx, hP, _⟩ := kit_of I2 ry ty
  obtain ⟨mm, hF⟩ := I2.fr
  show wpAny _ _ (richCompare .Eq (.ref p) u) _ _ _
  refine PySem.W.cmp_K (op := .Eq) (tb := t) hr.units0 hF I2.ok.mod.kin J (kx.ty _ _ I2.kIn hP) hn hm.at_ hm.fn ?_
  refine wpAny_mono (run_fnSD (us := [.ref p, u]) (vs := [.ref p, y]) (dvs := []) (ds := []) (Q := Q) F hr hb .nil (hx σ) I2 (.cons rfl (.cons ry .nil)) hsp) (fun w s' z => ?_) fun _ _ h => h
  obtain ⟨z', H', I', rz, qz⟩ := z
  exact SlX.cmpback rz ⟨z', H', I', rz, qz⟩
end
def dEqO (CS : List Str) (c : Str) (F : DF) (a b : DE) : DE := fun x ρ n q => a x ρ n fun u n1 => b x ρ n1 fun v n2 => (∃ fs, u = .obj c fs) ∧ opt (tyD v) fun t => (∀ c', t = .own c' → c' ∈ CS) ∧ F x.w [u, v] n2 q x.ex
section
variable {X : Cx} {W : WX} {k : Nat} {F : DF} {c : Str} {a b : Expr} {δa δb : DE} {pos : Pos} {CS : List Str}
theorem pd_eqO (hcs : ∀ c ∈ CS, TyF X.K c) (hq : eqB CS c X.K = true) (S : Mg X.prog X.w X.K X.mg X.base c "__eq__" k 2 F []) (hr : Room k X.A) (tk : Takes X W) (ha : PD X W a δa) (hb : PD X W b δb) : PD X W (.Compare a [.Eq] [b] pos) (dEqO CS c F δa δb) := by
  obtain ⟨ta, pa, ea⟩ := ha
  obtain ⟨tb, pb, eb⟩ := hb
  obtain ⟨f, fd, ps, ds, dvs, hF, hm, hbd, hd, hdv⟩ := S.ex
  have ev : dvs = [] := by
    have z := (hdv (fun _ => none)).length
    exact List.length_eq_zero_iff.mp z.symm
  subst ev
  cases hd
  refine ⟨_, pe_eqO hm hF hr hbd (fun σ => passAt tk σ) pa pb, fun B σ H ρ n G α Q x q hK R hx h kk => ?_⟩
  refine ea B σ H ρ n G α _ x _ hK R hx h fun v1 H1 G1 d1 n1 s1 j1 r1 h1 => ?_
  have R1 := R.step s1 j1
  refine eb B σ H1 ρ n1 G1 α _ x _ hK R1 (hx.step s1) h1 fun v2 H2 G2 d2 n2 s2 j2 r2 h2 => ?_
  have R2 := R1.step s2 j2
  obtain ⟨⟨fs, e1⟩, h2⟩ := h2
  obtain ⟨t, et, hc, h2⟩ := opt_some h2
  subst e1
  have r1' := r1.mono s2.le
  have rr := r1'
  cases rr with
  | obj e r =>
    rw [hx.1] at h2
    have hx2 := (hx.step s1).step s2
    exact ⟨_, _, _, _, rfl, s2.hh.get e, RepB.tyX (W := B.W) s2.hh (.inl r2) et (fun c' ec => hcs c' (hc c' ec)), eqB_ok hq et hc, B.W, n2, G2, _, q, x.ex, s2.hh, R2.rg, j2, .cons r1' (.cons r2 .nil), rfl, h2, fun v H' G' d n' s j r hq => kk v H' G' d n' ((s1.trans s2).trans s) j r hq, fun cc dd H' G' e n' s j r hq => hx2.2 cc dd H' G' e n' s j (hK ▸ r) hq⟩
end
end DL
namespace DL
open PySem PySem.Spec L2
section
variable {X : Cx} {W : WX} {k : Nat} {f C : Addr} {fd : FuncData} {ps : List Str} {sp : Sp} {E : L2.St → XK} {e : Expr} {te : TE} {c : Str} {F : DF} {δ : DE}
def dTruO (c : Str) (F : DF) (δ : DE) : DT := fun x ρ n q => δ x ρ n fun u n1 => (∃ fs, u = .obj c fs) ∧ F x.w [u] n1 (fun d n2 => match d with
  | .bl b => q b n2
  | _ => False) x.ex
end
end DL
namespace DL
open PySem PySem.Spec L2
def getB (c : Str) (K : PySem.W.Frag) : Bool := match PySem.W.findIn K (.ref (ca K c)) "__getitem__" with
  | some (some (.ref f)) => PySem.W.fnIn K f
  | _ => false
theorem getB_ok {c : Str} {K : PySem.W.Frag} {f : Addr} (h : getB c K = true) (m : Meth K (ca K c) "__getitem__" f) : PySem.W.fnIn K f = true := by
  unfold getB at h
  rw [m.at_] at h
  exact h
section
variable {X : Cx} {W : WX} {k : Nat} {f C : Addr} {fd : FuncData} {ps : List Str} {sp : Sp} {E : L2.St → XK} {a b : Expr} {ta tb : TE} {c : Str} {F : DF} {δa δb : DE} {pos : Pos}
def tGetO (C : Addr) (sp : Sp) (E : L2.St → XK) (ta tb : TE) : TE := fun σ H Q => ta σ H fun x H1 => tb σ H1 fun y H2 => ∃ a dx fs, x = .ref a ∧ H2 a = some (.ins C dx fs) ∧ sp [x, y] H2 Q (E σ)
theorem pe_getO {CX : CXT} (hm : Meth X.K C "__getitem__" f) (hfn : PySem.W.fnIn X.K f = true) (F : FnOk X.prog X.w X.K X.mg X.base CX k f fd ps sp) (hr : Room (k + 1) X.A) (hb : Binds X.K fd ps []) (hx : ∀ σ, PassesAt CX X σ (E σ)) (ha : PE X a ta) (hb' : PE X b tb) (hs : ∀ o i, subscripted b true o i = runValue (.builtin "lifetime.subscript" ⟨[o, i], []⟩)) : PE X (.Subscript a b pos) (tGetO C sp E ta tb) := by
  refine ⟨fun pins s σ H Q I h => ?_⟩
  refine PyProof.Rows.Subscript_ (binT ha hb' I h fun v u s2 x y H2 I2 rx ry q => ?_)
  obtain ⟨p, dx, fs, ex, ea, hsp⟩ := q
  subst ex
  obtain rfl : v = Value.ref p := rx
  obtain ⟨mA, J, _⟩ := ins_get I2.hok ea
  obtain ⟨od, J, _⟩ := J.look
  obtain ⟨mm, hF⟩ := I2.fr
  refine PySem.W.sub_K hF I2.ok.mod.kin J hm.at_ hfn hm.fn ?_ (hs _ _)
  have r2 : Vals [V.ref p, y] [Value.ref p, u] := .cons rfl (.cons ry .nil)
  have hl : ([Value.ref p, u] ++ []).length = ps.length := by
    have e := r2.length
    rw [F.len _ _ _ _ hsp] at e
    exact e.symm
  refine wpAny_call (codeAny_mono (F.run _ X.stack _ _ ⟨[.ref p, u], []⟩ [.ref p, u] _ _ (E σ) hr.in1 I2.env0.in1 (hb _ [.ref p, u] I2.kIn hl) r2 hsp) fun r s' hq' => ?_)
  cases r with
  | error e => exact hx σ pins _ _ e s' I2 hq'
  | ok fl =>
    cases fl with
    | ret u => exact I2.after hq'
    | next => exact False.elim hq'
    | brk => exact False.elim hq'
    | cont => exact False.elim hq'
def dGetO (c : Str) (F : DF) (a b : DE) : DE := fun x ρ n q => a x ρ n fun u n1 => b x ρ n1 fun v n2 => (∃ fs, u = .obj c fs) ∧ F x.w [u, v] n2 q x.ex
theorem pd_getO (hg : getB c X.K = true) (S : Mg X.prog X.w X.K X.mg X.base c "__getitem__" k 2 F []) (hr : Room (k + 1) X.A) (tk : Takes X W) (ha : PD X W a δa) (hb : PD X W b δb) (hs : ∀ o i, subscripted b true o i = runValue (.builtin "lifetime.subscript" ⟨[o, i], []⟩) := by intro _ _; with_unfolding_all rfl) : PD X W (.Subscript a b pos) (dGetO c F δa δb) := by
  obtain ⟨ta, pa, ea⟩ := ha
  obtain ⟨tb, pb, eb⟩ := hb
  obtain ⟨f, fd, ps, ds, dvs, hF, hm, hbd, hd, hdv⟩ := S.ex
  have ev : dvs = [] := by
    have z := (hdv (fun _ => none)).length
    exact List.length_eq_zero_iff.mp z.symm
  subst ev
  cases hd
  refine ⟨_, pe_getO hm (getB_ok hg hm) hF hr hbd (fun σ => passAt tk σ) pa pb hs, fun B σ H ρ n G α Q x q hK R hx h kk => ?_⟩
  refine ea B σ H ρ n G α _ x _ hK R hx h fun v1 H1 G1 d1 n1 s1 j1 r1 h1 => ?_
  have R1 := R.step s1 j1
  refine eb B σ H1 ρ n1 G1 α _ x _ hK R1 (hx.step s1) h1 fun v2 H2 G2 d2 n2 s2 j2 r2 h2 => ?_
  have R2 := R1.step s2 j2
  obtain ⟨⟨fs, e1⟩, h2⟩ := h2
  subst e1
  have r1' := r1.mono s2.le
  have rr := r1'
  cases rr with
  | obj e r =>
    rw [hx.1] at h2
    have hx2 := (hx.step s1).step s2
    exact ⟨_, _, _, rfl, s2.hh.get e, B.W, n2, G2, _, q, x.ex, s2.hh, R2.rg, j2, .cons r1' (.cons r2 .nil), rfl, h2, fun v H' G' d n' s j r hq => kk v H' G' d n' ((s1.trans s2).trans s) j r hq, fun cc dd H' G' e n' s j r hq => hx2.2 cc dd H' G' e n' s j (hK ▸ r) hq⟩
end
end DL
namespace DL
open PySem PySem.Spec L2
section
variable {X : Cx} {W : WX} {k : Nat} {f C : Addr} {fd : FuncData} {ps : List Str} {sp : Sp} {E : L2.St → XK} {a : Expr} {ta : TE} {c : Str} {F : DF} {δa : DE} {pos : Pos}
def dNegO (c : Str) (F : DF) (a : DE) : DE := fun x ρ n q => a x ρ n fun u n1 => (∃ fs, u = .obj c fs) ∧ F x.w [u] n1 q x.ex
end
end DL

end

section
set_option autoImplicit false
namespace DL
open PySem PySem.Spec L2
theorem spW_intro {K : PySem.W.Frag} {B : Bs} {W : WX} {σ : L2.St} {H G : Hp} {ρ : Env} {α : Nat → Addr} {n m : Nat} {ds : List D} {vs : List V} {F : DF} {q : DQ} {x : DX} {Q : VK} (hK : B.K = K) (R : RelB B σ H ρ n G α) (hx : XL B W σ H G x) (r : RepL K G ds vs) (hl : ds.length = m) (hF : F x.w ds n q x.ex)
    (kk : ∀ v H' G' d n', Step B.W H G H' G' → B.W.J n' H' → Rep K G' d v → q d n' → Q v H') : spW K m F vs H Q (fun c d H' => W c d σ H') := by
  rw [hx.1] at hF
  exact ⟨B.W, n, G, ds, q, x.ex, R.le, R.rg, R.J, r, hl, hF, kk, fun cc dd H' G' e n' s j r hq => hx.2 cc dd H' G' e n' s j (hK ▸ r) hq⟩
theorem Mg.get {P : Program} {w : World} {K : PySem.W.Frag} {mg : Str → Option Value} {base : Heap} {c x : Str} {k m : Nat} {F : DF} (S : Mg P w K mg base c x k m F []) : ∃ f fd ps, FnOk P w K mg base (L2.CX P w) k f fd ps (spW K m F) ∧ Meth K (ca K c) x f ∧ Binds K fd ps [] := by
  obtain ⟨f, fd, ps, ds, dvs, hF, hm, hbd, hd, hdv⟩ := S.ex
  have ev : dvs = [] := by
    have z := (hdv (fun _ => none)).length
    exact List.length_eq_zero_iff.mp z.symm
  subst ev
  cases hd
  exact ⟨f, fd, ps, hF, hm, hbd⟩
theorem run_in1 {X : Cx} {CX : CXT} {k : Nat} {f : Addr} {fd : FuncData} {ps : List Str} {sp : Sp} {E : XK} {Q : VK} {us : List Value} {vs : List V} {pins : List (Addr × Obj)} {σ : L2.St} {H : Hp} {s : Shared} (F : FnOk X.prog X.w X.K X.mg X.base CX k f fd ps sp) (hr : Room (k + 1) X.A) (hb : Binds X.K fd ps []) (hx : PassesAt CX X σ E) (I : Inv X pins σ H s) (r : Vals vs us) (hsp : sp vs H Q E) :
    wpAny (model X.prog X.w) X.A.in1 (call (.ref f) us) (EP X pins σ Q) X.xe s := by
  have hl : (us ++ []).length = ps.length := by
    have e := r.length
    rw [F.len _ _ _ _ hsp] at e
    simpa using e.symm
  refine wpAny_call (codeAny_mono (F.run _ X.stack _ _ ⟨us, []⟩ us _ _ E hr.in1 I.env0.in1 (by
    have z := hb _ us I.kIn hl
    simpa using z) r hsp) fun r s' hq' => ?_)
  cases r with
  | error e => exact hx pins _ _ e s' I hq'
  | ok fl =>
    cases fl with
    | ret u => exact I.after hq'
    | next => exact False.elim hq'
    | brk => exact False.elim hq'
    | cont => exact False.elim hq'

def neB (CS : List Str) (c : Str) (K : PySem.W.Frag) : Bool := eqB CS c K && (decide (PySem.W.findIn K (.ref (ca K c)) "__ne__" = some (some (.builtin "object.__ne__"))) && decide (PySem.W.subIn K (.ref (ca K c)) (.type "object") = some true))
section
variable {prog : Program} {w : World} {A : Around} {E : Value → Shared → Prop} {s : Shared} {K : PySem.W.Frag} {x C f : Addr} {ox : Obj} {od : Option Obj} {b : Value}
open PySem.W
theorem objNe_K {Q : Fin → Shared → Prop} (X : K.In s.heap) (I : InstAt s.heap x ox C od) (hs : findIn K (.ref C) "__eq__" = some (some (.ref f))) (hf : isFn K (.ref f) = true) (hu : A.units < cLine)
    (hcall : wpAny (model prog w) A (call (.ref f) [.ref x, b]) (fun v s' => ∃ k, v = .bool k ∧ Q (.done (.ret (.bool (!k)))) s') E s) :
    wpAny (model prog w) A (Builtin.«object.__ne__» ⟨[.ref x, b], []⟩) Q E s := by
  unfold Builtin.«object.__ne__»
  repeat (first
    | with_reducible refine wpAny_cRoomFor hu ?_
    | (refine wpAny_bind (m := callSpecialIfBound? (.ref x) (Str.ofString "__eq__") [b])
        (ifBound_K X I hs hf (wpAny_mono hcall (fun r s' hr => by
          obtain ⟨k, rfl, hq⟩ := hr
          repeat (first | exact hq | exact wpAny_pure hq | exact wpAny_truthy_bool hq | (refine wpAny_bind (m := truthy (.bool _)) (wpAny_truthy_bool ?_)) | wp_step)) fun _ _ e => e)))
    | wp_step)
theorem isi_obj_K {Q : Bool → Shared → Prop} (X : K.In s.heap) (I : InstAt s.heap x ox C od) (hsb : subIn K (.ref C) (.type "object") = some true) (q : Q true s) : wpAny (model prog w) A (isInstance (.ref x) (.type "object")) Q E s := by
  unfold isInstance
  exact wpAny_bind (I.type.here ((looks_subIn X hsb).here q))
theorem checkNe_K {rest : List Value} {Q : Unit → Shared → Prop} (X : K.In s.heap) (I : InstAt s.heap x ox C od) (hsb : subIn K (.ref C) (.type "object") = some true) (ha : argsOk "object.__ne__" ⟨.ref x :: rest, []⟩) (hq : Q () s) : wpAny (model prog w) A (checkBuiltinCall "object.__ne__" ⟨.ref x :: rest, []⟩) Q E s := by
  simp only [checkBuiltinCall, F.cmpKind_ne, F.cmpSplit_ne]
  refine wpAny_bind (isi_obj_K X I hsb ?_)
  simp only [Bool.not_true, Bool.false_eq_true, if_false]
  cases hsig : Manifest.signature? "object.__ne__" with
  | none => exact wpAny_pure hq
  | some sig =>
    simp only [argsOk, hsig] at ha
    have h2 : Bind.checkArgs "object.__ne__" sig ⟨.ref x :: rest, []⟩ = pure () := ha
    show wpAny _ A (Bind.checkArgs "object.__ne__" sig ⟨.ref x :: rest, []⟩) Q E _
    rw [h2]; exact wpAny_pure hq
theorem ifBoundB_K {M : Model} {name : Str} {id : String} {args : List Value} {Q : Option Value → Shared → Prop} (X : K.In s.heap) (I : InstAt s.heap x ox C od) (hs : findIn K (.ref C) name = some (some (.builtin id))) (hb : ∀ self, bindSpecial (.builtin id) self = pure (.builtin id, [self]))
    (h : wpAny M A (call (.builtin id) (.ref x :: args)) (fun v => Q (some v)) E s) : wpAny M A (callSpecialIfBound? (.ref x) name args) Q E s := by
  simp only [callSpecialIfBound?, bindSpecialIfBound?]
  refine wpAny_holding (wpAny_bind (wpAny_bind (wpAny_bind (I.type.here ((looks_findIn X hs).here ?_)))))
  simp only [hb]
  refine wpAny_bind (wpAny_askSetting (wpAny_ite ?_))
  have fin : wpAny M A (call (.builtin id) ([.ref x] ++ args) >>= fun v => pure (some v)) Q E s := wpAny_bind (wpAny_mono h (fun v s' h' => wpAny_pure h') fun _ _ h' => h')
  split
  · exact wpAny_bind (wpAny_pure (wpAny_pure fin))
  · exact wpAny_tryCatch (wpAny_bind (wpAny_pure (wpAny_pure fin)))
theorem ne_K {tb : Value} {h₀ : Heap} {L : List Addr} {m : Nat} {Q : Value → Shared → Prop} (hu : A.units + 1 < cLine) (X : K.In s.heap) (I : InstAt s.heap x ox C od) (hb : Looks (model prog w) s.heap (typeOf b) tb) (hn : notFirst K C tb = true)
    (hs : findIn K (.ref C) "__eq__" = some (some (.ref f))) (hf : isFn K (.ref f) = true) (hne : findIn K (.ref C) "__ne__" = some (some (.builtin "object.__ne__"))) (hsb : subIn K (.ref C) (.type "object") = some true)
    (h : wpAny (model prog w) A.in1 (call (.ref f) [.ref x, b]) (fun v s' => ∃ k, v = .bool k ∧ Q (.bool (!k)) s') E s) : wpAny (model prog w) A (richCompare .NotEq (.ref x) b) Q E s := by
  have one : wpAny (model prog w) A (tryCompare (.ref x) "__ne__" b) (fun r s' => ∃ v, r = some v ∧ Q v s') E s := by
    unfold tryCompare
    refine wpAny_bind (ifBoundB_K X I hne F.cmp_object.ne.bind (wpAny_call (codeAny_call_builtin F.cmp_object.ne.plain F.cmpEntry_ne (checkNe_K X I hsb (F.cmpArgs_ne _ _) (objNe_K (A := A.in1) X I hs hf hu (wpAny_mono h (fun v s' hv => ?_) fun _ _ e => e))))))
    obtain ⟨k, rfl, hq⟩ := hv
    exact ⟨k, rfl, wpAny_pure ⟨_, rfl, hq⟩⟩
  unfold richCompare
  simp only [oneThing_ref]
  refine wpAny_holding (wpAny_bind (wpAny_cRoomFor (Nat.lt_of_succ_lt hu) ?_))
  rw [cmpInfo_NotEq]
  dsimp only
  refine wpAny_bind (I.type.here (wpAny_bind (hb.here ?_)))
  split
  · rename_i q
    have e : subIn K tb (.ref C) = some false := by
      rcases Bool.or_eq_true_iff.mp hn with e | e
      · rw [beq_iff_eq.mp e] at q; simp at q
      · exact beq_iff_eq.mp e
    refine wpAny_bind ((looks_subIn X e).here ?_)
    simp only [Bool.false_eq_true, if_false]
    refine wpAny_bind (wpAny_mono one (fun r s' z => ?_) fun _ _ e => e)
    obtain ⟨v, rfl, hq⟩ := z
    exact wpAny_pure hq
  · refine wpAny_bind (wpAny_pure ?_)
    simp only [Bool.false_eq_true, if_false]
    refine wpAny_bind (wpAny_mono one (fun r s' z => ?_) fun _ _ e => e)
    obtain ⟨v, rfl, hq⟩ := z
    exact wpAny_pure hq
end
end DL
namespace DL
open PySem PySem.Spec L2
section
variable {X : Cx} {W : WX} {k : Nat} {f C : Addr} {fd : FuncData} {ps : List Str} {sp : Sp} {E : L2.St → XK} {a b : Expr} {ta tb : TE} {pos : Pos} {m c : Str}
def tNeO (K : PySem.W.Frag) (C : Addr) (sp : Sp) (E : L2.St → XK) (ta tb : TE) : TE := fun σ H Q => ta σ H fun x H1 => tb σ H1 fun y H2 => ∃ a dx fs t, x = .ref a ∧ H2 a = some (.ins C dx fs) ∧ TyX K H2 y t ∧ PySem.W.notFirst K C t = true ∧ sp [x, y] H2 (fun v H3 => ∃ k, v = .bl k ∧ Q (.bl (!k)) H3) (E σ)
theorem pe_neO {CX : CXT} (hm : Meth X.K C "__eq__" f) (hne : PySem.W.findIn X.K (.ref C) "__ne__" = some (some (.builtin "object.__ne__"))) (hsb : PySem.W.subIn X.K (.ref C) (.type "object") = some true) (F : FnOk X.prog X.w X.K X.mg X.base CX k f fd ps sp) (hr : Room (k + 1) X.A) (hb : Binds X.K fd ps []) (hx : ∀ σ, PassesAt CX X σ (E σ)) (ha : PE X a ta) (hb' : PE X b tb) : PE X (.Compare a [.NotEq] [b] pos) (tNeO X.K C sp E ta tb) := by
  refine ⟨fun pins s σ H Q I h => ?_⟩
  refine wpAny_Compare1 (binT ha hb' I h fun v u s2 x y H2 I2 rx ry q => ?_) (nomark _)
  obtain ⟨p, dx, fs, t, ex, ea, ty, hn, hsp⟩ := q
  subst ex
  obtain rfl : v = Value.ref p := rx
  obtain ⟨mA, J, _⟩ := ins_get I2.hok ea
  obtain ⟨od, J, _⟩ := J.look
  obtain ⟨P, kx, hP, _⟩ := kit_of I2 ry ty
  show wpAny _ _ (richCompare .NotEq (.ref p) u) _ _ _
  refine ne_K (tb := t) (h₀ := X.base) (L := []) (m := 0) (by have := hr.units; omega) I2.kIn J (kx.ty _ _ I2.kIn hP) hn hm.at_ hm.fn hne hsb ?_
  refine wpAny_mono (run_in1 (us := [.ref p, u]) (vs := [.ref p, y]) F hr hb (hx σ) I2 (.cons rfl (.cons ry .nil)) hsp) (fun w s' z => ?_) fun _ _ h => h
  obtain ⟨z', H', I', rz, k, ek, qz⟩ := z
  subst ek
  obtain rfl : w = Value.bool k := rz
  exact ⟨k, rfl, .bl (!k), H', I', rfl, qz⟩
end
def dNeO (CS : List Str) (c : Str) (F : DF) (a b : DE) : DE := fun x ρ n q => a x ρ n fun u n1 => b x ρ n1 fun v n2 => (∃ fs, u = .obj c fs) ∧ opt (tyD v) fun t => (∀ c', t = .own c' → c' ∈ CS) ∧ F x.w [u, v] n2 (bd fun k n3 => q (.bl (!k)) n3) x.ex
section
variable {X : Cx} {W : WX} {k : Nat} {F : DF} {c : Str} {a b : Expr} {δa δb : DE} {pos : Pos} {CS : List Str}
theorem pd_neO (hcs : ∀ c ∈ CS, TyF X.K c) (hq : neB CS c X.K = true) (S : Mg X.prog X.w X.K X.mg X.base c "__eq__" k 2 F []) (hr : Room (k + 1) X.A) (tk : Takes X W) (ha : PD X W a δa) (hb : PD X W b δb) : PD X W (.Compare a [.NotEq] [b] pos) (dNeO CS c F δa δb) := by
  obtain ⟨ta, pa, ea⟩ := ha
  obtain ⟨tb, pb, eb⟩ := hb
  obtain ⟨f, fd, ps, hF, hm, hbd⟩ := S.get
  obtain ⟨hq, hq2⟩ := He.ba hq
  obtain ⟨hq2, hq3⟩ := He.ba hq2
  refine ⟨_, pe_neO hm (of_decide_eq_true hq2) (of_decide_eq_true hq3) hF hr hbd (fun σ => passAt tk σ) pa pb, fun B σ H ρ n G α Q x q hK R hx h kk => ?_⟩
  refine ea B σ H ρ n G α _ x _ hK R hx h fun v1 H1 G1 d1 n1 s1 j1 r1 h1 => ?_
  have R1 := R.step s1 j1
  refine eb B σ H1 ρ n1 G1 α _ x _ hK R1 (hx.step s1) h1 fun v2 H2 G2 d2 n2 s2 j2 r2 h2 => ?_
  have R2 := R1.step s2 j2
  obtain ⟨⟨fs, e1⟩, h2⟩ := h2
  obtain ⟨t, et, hc, h2⟩ := opt_some h2
  subst e1
  have r1' := r1.mono s2.le
  have rr := r1'
  cases rr with
  | obj e r =>
    refine ⟨_, _, _, _, rfl, s2.hh.get e, RepB.tyX (W := B.W) s2.hh (.inl r2) et (fun c' ec => hcs c' (hc c' ec)), eqB_ok hq et hc, ?_⟩
    refine spW_intro hK R2 ((hx.step s1).step s2) (.cons r1' (.cons r2 .nil)) rfl h2 fun v H' G' d n' s j r hq => ?_
    cases d with
    | bl b => cases r; exact ⟨b, rfl, kk _ H' G' _ n' ((s1.trans s2).trans s) j (.bl _) hq⟩
    | _ => exact hq.elim
end

section
variable {X : Cx} {W : WX} {k : Nat} {f C : Addr} {fd : FuncData} {ps : List Str} {sp : Sp} {E : L2.St → XK} {e : Expr} {te : TE} {c : Str} {F : DF} {δ : DE} {pos p : Pos}
def dNotO (c : Str) (F : DF) (δ : DE) : DE := fun x ρ n q => δ x ρ n fun u n1 => (∃ fs, u = .obj c fs) ∧ F x.w [u] n1 (bd fun b n2 => q (.bl (!b)) n2) x.ex
end
end DL
namespace DL
open PySem PySem.Spec PySem.W
section
variable {prog : Program} {w : World} {A : Around} {E : Value → Shared → Prop} {s : Shared} {K : Frag} {x C f g dx : Addr} {od : Option Obj}
end
end DL
namespace DL
open PySem PySem.Spec L2
section
variable {X : Cx} {W : WX} {k : Nat} {f : Addr} {fd : FuncData} {ps : List Str} {sp : Sp} {E : L2.St → XK} {a b : Expr} {ta tb : TE} {c : Str} {F : DF} {δa δb : DE} {pos : Pos}
def dRmulO (c : Str) (F : DF) (a b : DE) : DE := fun x ρ n q => a x ρ n fun u n1 => b x ρ n1 fun v n2 => (∃ i, u = .int i) ∧ (∃ fs, v = .obj c fs) ∧ F x.w [v, u] n2 q x.ex
end
end DL

end

section
set_option autoImplicit false
namespace DL
open PySem PySem.Spec PySem.W PyProof.Rows L2
structure TSrc (prog : Program) (w : World) (A : Around) (I d : Addr) (wr : List Addr) (qs : List (V × V)) (St : Nat → Heap → Prop) : Prop where
  off : d ∉ wr
  frame : ∀ i h h', St i h → (∀ b o, b ≠ d → h.get? b = some o → h'.get? b = some o) → St i h'
  item : ∀ i (s : Shared) (Q : Option Value → Shared → Prop) (E : Value → Shared → Prop) (q : V × V), qs[i]? = some q → St i s.heap → d < s.heap.objs.size →
    (∀ k v h' tk, RelV q.1 k → RelV q.2 v → h'.get? s.heap.objs.size = some { cls := .type "tuple", data := .seq #[k, v] } → h'.objs.size = s.heap.objs.size + 1 → St (i + 1) h' → (∀ b o, b ∉ wr → s.heap.get? b = some o → h'.get? b = some o) → Q (some (.ref s.heap.objs.size)) { s with heap := h', toks := tk }) → wpAny (model prog w) A (pyNext (.ref I)) Q E s
  done : ∀ (s : Shared) (Q : Option Value → Shared → Prop) (E : Value → Shared → Prop), St qs.length s.heap →
    (∀ h' tk, (∀ b o, b ∉ wr → s.heap.get? b = some o → h'.get? b = some o) → Q none { s with heap := h', toks := tk }) → wpAny (model prog w) A (pyNext (.ref I)) Q E s
structure TOut (qs : List (V × V)) (lo : Addr) (h : Heap) (as : List Addr) : Prop where
  rise : as.Pairwise (· < ·)
  above : ∀ a ∈ as, lo ≤ a
  pairs : ∀ (j : Nat) (a : Addr), as[j]? = some a → ∃ q k v, qs[j]? = some q ∧ RelV q.1 k ∧ RelV q.2 v ∧ h.get? a = some { cls := .type "tuple", data := .seq #[k, v] }
theorem TOut.there {qs : List (V × V)} {lo : Addr} {h : Heap} {as : List Addr} (g : TOut qs lo h as) {a : Addr} (ha : a ∈ as) : a < h.objs.size := by
  obtain ⟨j, hj⟩ := List.mem_iff_getElem?.mp ha
  obtain ⟨_, _, _, _, _, _, e⟩ := g.pairs j a hj
  exact Heap.lt_size e
section
variable {prog : Program} {w : World} {A : Around} {s : Shared} {R : Result → Shared → Prop} {qs : List (V × V)} {S I lo : Addr} {wr : List Addr} {St : Nat → Heap → Prop}
end
structure TArg (prog : Program) (w : World) (A : Around) (T : String) (a : Addr) (fp wr : List Addr) (qs : List (V × V)) (OK : Heap → Prop) : Prop where
  type : ∀ s : Shared, OK s.heap → s.TypeIs (.ref a) T
  nl : (Value.type T == Value.type "list") = false
  nt : (Value.type T == Value.type "tuple") = false
  len : typeLookup (.type T) "__len__" = pure none
  hint : typeLookup (.type T) "__length_hint__" = pure none
  mem : a ∈ fp
  sub : ∀ b ∈ wr, b ∈ fp
  keep : ∀ h h', OK h → (∀ b o, b ∈ fp → h.get? b = some o → h'.get? b = some o) → OK h'
  there : ∀ h, OK h → ∀ b ∈ fp, ∃ o, h.get? b = some o
  iter : ∀ (s : Shared) (d : Addr) (Q : Value → Shared → Prop) (E : Value → Shared → Prop), OK s.heap → d < s.heap.objs.size → d ∉ fp →
    (∀ St, TSrc prog w A a d wr qs St → St 0 s.heap → Q (.ref a) s) → wpAny (model prog w) A (pyIter (.ref a)) Q E s
section
variable {prog : Program} {w : World} {A : Around} {E : Value → Shared → Prop} {s : Shared} {T : String} {a : Addr} {fp wr : List Addr} {qs : List (V × V)} {OK : Heap → Prop}
theorem TOut.low {lo lo' : Addr} {h : Heap} {as : List Addr} (g : TOut qs lo h as) (hl : lo' ≤ lo) : TOut qs lo' h as := ⟨g.rise, fun a ha => Nat.le_trans hl (g.above a ha), g.pairs⟩
end
section
variable {prog : Program} {w : World} {A : Around}
def enQ (xs : List V) : List (V × V) := (List.range xs.length).map fun i => (V.int (i : Nat), xs.getD i .non)
theorem enQ_get {xs : List V} {i : Nat} {q : V × V} (h : (enQ xs)[i]? = some q) : i < xs.length ∧ q.1 = .int (i : Nat) ∧ xs[i]? = some q.2 := by
  unfold enQ at h
  rw [List.getElem?_map] at h
  by_cases hi : i < xs.length
  · rw [List.getElem?_range hi] at h
    cases h
    exact ⟨hi, rfl, by simp [List.getD, hi]⟩
  · rw [List.getElem?_eq_none (by simpa using hi)] at h
    cases h
theorem TArg.enumerate (hA : A.handled = none) (e it l : Addr) (hei : e ≠ it) (hle : l ≠ e) (hli : l ≠ it) (xs : List V) (its : List Value) (r : Vals xs its) :
    TArg prog w A "enumerate" e [e, it, l] [e, it] (enQ xs) (fun h => (∃ old, IsEnum h e it 0 old) ∧ h.IsListIter it l 0 ∧ h.IsList l its.toArray) where
  type := fun s ok => let ⟨⟨_, he⟩, _⟩ := ok; ⟨_, he, rfl⟩
  nl := by decide
  nt := by decide
  len := by rw [typeLookup_type, builtinLookup_eq_fast]; kernel_rfl
  hint := by rw [typeLookup_type, builtinLookup_eq_fast]; kernel_rfl
  mem := List.mem_cons_self ..
  sub := fun b hb => by simp at hb ⊢; rcases hb with rfl | rfl <;> simp
  keep := fun h h' ok hk => by
    obtain ⟨⟨old, he⟩, hit, hl⟩ := ok
    exact ⟨⟨old, hk _ _ (by simp) he⟩, hit.at fun o x => hk _ o (by simp) x, hl.at fun o x => hk _ o (by simp) x⟩
  there := fun h ok b hb => by
    obtain ⟨⟨old, he⟩, ⟨o1, h1, _⟩, ⟨o2, h2, _⟩⟩ := ok
    simp only [List.mem_cons, List.not_mem_nil, or_false] at hb
    rcases hb with rfl | rfl | rfl
    all_goals first | exact ⟨_, he⟩ | exact ⟨_, h1⟩ | exact ⟨_, h2⟩
  iter := fun s d Q E ok hd hdf h => by
    obtain ⟨⟨old, he⟩, hit, hl⟩ := ok
    simp only [List.mem_cons, List.not_mem_nil, or_false, not_or] at hdf
    obtain ⟨de, dit, dl⟩ := hdf
    refine wpAny_pyIter_enum he (h (fun i h => h.IsListIter it l i ∧ h.IsList l its.toArray ∧ ((∃ old, IsEnum h e it i old) ∨ ∃ old T f oT, IsEnumHeld h e it i old T f ∧ h.get? T = some oT ∧ T ≠ e ∧ T ≠ it ∧ T ≠ d)) ?_
      ⟨hit, hl, .inl ⟨old, he⟩⟩)
    exact {
      off := fun hm => by
        simp only [List.mem_cons, List.not_mem_nil, or_false] at hm
        rcases hm with x | x
        · exact de x
        · exact dit x
      frame := fun i h₁ h₂ st hk => by
        obtain ⟨hit, hl, he⟩ := st
        refine ⟨hit.at fun o x => hk _ o (Ne.symm dit) x, hl.at fun o x => hk _ o (Ne.symm dl) x, ?_⟩
        rcases he with ⟨old, he⟩ | ⟨old, T, f, oT, he, hT, r1, r2, r3⟩
        · exact .inl ⟨old, hk _ _ (Ne.symm de) he⟩
        · exact .inr ⟨old, T, f, oT, hk _ _ (Ne.symm de) he, hk _ _ r3 hT, r1, r2, r3⟩
      item := fun i s₁ Q₁ E₁ q hq st hds hQ => by
        obtain ⟨hit, hl, he⟩ := st
        obtain ⟨hi, eq1, eq2⟩ := enQ_get hq
        obtain ⟨u, hu, ru⟩ := r.get eq2
        have ex : its.toArray[i]? = some u := by simpa using hu
        have ec : ((i + 1 : Nat) : Int) = (i : Int) + 1 := by omega
        have nit : s₁.heap.objs.size ≠ it := let ⟨_, x, _⟩ := hit; Nat.ne_of_gt (Heap.lt_size x)
        rcases he with ⟨old, he⟩ | ⟨old, T, f, oT, he, hT, r1, r2, r3⟩
        · refine wpAny_pyNext_enum_item he hit hl ex hei fun h' ho hit' hT hsz hk => ?_
          exact hQ _ _ h' (s₁.toks + 1) (by rw [eq1]; exact ⟨_, rfl⟩) ru hT hsz
            ⟨hit', hl.at fun o x => hk l o hle hli x, .inr ⟨_, s₁.heap.objs.size, false, _, (by rw [ec]; exact ho), hT, Nat.ne_of_gt (Heap.lt_size he), nit, Nat.ne_of_gt hds⟩⟩
            fun b o hb x => hk b o (fun y => hb (by simp [y])) (fun y => hb (by simp [y])) x
        · refine wpAny_pyNext_enum_item_held he hT r1 r2 hit hl ex hei fun h' ho hit' hT' hsz hk => ?_
          exact hQ _ _ h' (s₁.toks + 1) (by rw [eq1]; exact ⟨_, rfl⟩) ru hT' hsz
            ⟨hit', hl.at fun o x => hk l o hle hli x, .inr ⟨old, T, true, oT, (by rw [ec]; exact ho), hk _ _ r1 r2 hT, r1, r2, r3⟩⟩
            fun b o hb x => hk b o (fun y => hb (by simp [y])) (fun y => hb (by simp [y])) x
      done := fun s₁ Q₁ E₁ st hQ => by
        obtain ⟨hit, hl, he⟩ := st
        have hx : its.toArray[(enQ xs).length]? = none := by
          have := r.length
          simp [enQ]; omega
        rcases he with ⟨old, he⟩ | ⟨old, T, f, oT, he, hT, r1, r2, r3⟩
        · exact wpAny_pyNext_enum_end hA he hit hl hx fun h' hk => hQ h' s₁.toks fun b o hb x => hk b o (fun y => hb (by simp [y])) x
        · exact wpAny_pyNext_enum_end_held hA he hit hl hx fun h' hk => hQ h' s₁.toks fun b o hb x => hk b o (fun y => hb (by simp [y])) x }
theorem TArg.zip (hA : A.handled = none) (z TI TO i1 i2 l1 l2 : Addr) (D : ZipApart z TI TO i1 i2 l1 l2) (vs us : List V) (xs ys : List Value) (r1 : Vals vs xs) (r2 : Vals us ys) :
    TArg prog w A "zip" z [z, TI, TO, i1, i2, l1, l2] [z, TO, i1, i2] (vs.zip us)
      (fun h => IsZip h z TI TO .none ∧ IsPair h TI (.ref i1) (.ref i2) ∧ (∃ a b, IsPair h TO a b) ∧ h.IsListIter i1 l1 0 ∧ h.IsListIter i2 l2 0 ∧ h.IsList l1 xs.toArray ∧ h.IsList l2 ys.toArray) where
  type := fun s ok => ⟨_, ok.1, rfl⟩
  nl := by decide
  nt := by decide
  len := by rw [typeLookup_type, builtinLookup_eq_fast]; kernel_rfl
  hint := by rw [typeLookup_type, builtinLookup_eq_fast]; kernel_rfl
  mem := List.mem_cons_self ..
  sub := fun b hb => by simp at hb ⊢; rcases hb with rfl | rfl | rfl | rfl <;> simp
  keep := fun h h' ok hk => by
    obtain ⟨hz, hTI, ⟨a, b, hTO⟩, h1, h2, hl1, hl2⟩ := ok
    exact ⟨hk _ _ (by simp) hz, hk _ _ (by simp) hTI, ⟨a, b, hk _ _ (by simp) hTO⟩, h1.at fun o e => hk _ o (by simp) e, h2.at fun o e => hk _ o (by simp) e, hl1.at fun o e => hk _ o (by simp) e, hl2.at fun o e => hk _ o (by simp) e⟩
  there := fun h ok b hb => by
    obtain ⟨hz, hTI, ⟨a, c, hTO⟩, ⟨o1, h1, _⟩, ⟨o2, h2, _⟩, ⟨o3, hl1, _⟩, ⟨o4, hl2, _⟩⟩ := ok
    simp only [List.mem_cons, List.not_mem_nil, or_false] at hb
    rcases hb with rfl | rfl | rfl | rfl | rfl | rfl | rfl
    all_goals first | exact ⟨_, hz⟩ | exact ⟨_, hTI⟩ | exact ⟨_, hTO⟩ | exact ⟨_, h1⟩ | exact ⟨_, h2⟩ | exact ⟨_, hl1⟩ | exact ⟨_, hl2⟩
  iter := fun s d Q E ok hd hdf h => by
    obtain ⟨hz, hTI, ⟨a, b, hTO⟩, h1, h2, hl1, hl2⟩ := ok
    simp only [List.mem_cons, List.not_mem_nil, or_false, not_or] at hdf
    obtain ⟨dz, dTI, dTO, di1, di2, dl1, dl2⟩ := hdf
    refine wpAny_pyIter_zip hz (h (fun i h => IsPair h TI (.ref i1) (.ref i2) ∧ h.IsListIter i1 l1 i ∧ h.IsListIter i2 l2 i ∧ h.IsList l1 xs.toArray ∧ h.IsList l2 ys.toArray ∧
      ((IsZip h z TI TO .none ∧ ∃ a b, IsPair h TO a b) ∨ ∃ T f oT, IsZipHeld h z TI TO T f ∧ h.get? T = some oT ∧ T ≠ z ∧ T ≠ i1 ∧ T ≠ i2 ∧ T ≠ d)) ?_
      ⟨hTI, h1, h2, hl1, hl2, .inl ⟨hz, a, b, hTO⟩⟩)
    exact {
      off := fun hm => by
        simp only [List.mem_cons, List.not_mem_nil, or_false] at hm
        rcases hm with e | e | e | e
        · exact dz e
        · exact dTO e
        · exact di1 e
        · exact di2 e
      frame := fun i h₁ h₂ st hk => by
        obtain ⟨hTI, h1, h2, hl1, hl2, hz⟩ := st
        refine ⟨hk _ _ (Ne.symm dTI) hTI, h1.at fun o e => hk _ o (Ne.symm di1) e, h2.at fun o e => hk _ o (Ne.symm di2) e, hl1.at fun o e => hk _ o (Ne.symm dl1) e, hl2.at fun o e => hk _ o (Ne.symm dl2) e, ?_⟩
        rcases hz with ⟨hz, a, b, hTO⟩ | ⟨T, f, oT, hz, hT, r1, r2, r3, r4⟩
        · exact .inl ⟨hk _ _ (Ne.symm dz) hz, a, b, hk _ _ (Ne.symm dTO) hTO⟩
        · exact .inr ⟨T, f, oT, hk _ _ (Ne.symm dz) hz, hk _ _ r4 hT, r1, r2, r3, r4⟩
      item := fun i s₁ Q₁ E₁ q hq st hds hQ => by
        obtain ⟨hTI, h1, h2, hl1, hl2, hz⟩ := st
        rw [List.getElem?_zip_eq_some] at hq
        obtain ⟨u, hu, ru⟩ := r1.get hq.1
        obtain ⟨v, hv, rv⟩ := r2.get hq.2
        have ex : xs.toArray[i]? = some u := by simpa using hu
        have ey : ys.toArray[i]? = some v := by simpa using hv
        have lt : ∀ {c o}, s₁.heap.get? c = some o → s₁.heap.objs.size ≠ c := fun e => Nat.ne_of_gt (Heap.lt_size e)
        have n1 : s₁.heap.objs.size ≠ i1 := let ⟨_, e, _⟩ := h1; lt e
        have n2 : s₁.heap.objs.size ≠ i2 := let ⟨_, e, _⟩ := h2; lt e
        rcases hz with ⟨hz, a, b, hTO⟩ | ⟨T, f, oT, hz, hT, t1, t2, t3, t4⟩
        · refine wpAny_pyNext_zip_item D hz hTI hTO h1 h2 hl1 hl2 ex ey fun h' a1 a2 a3 a4 a5 a6 hk => ?_
          exact hQ _ _ h' s₁.toks ru rv a5 a6
            ⟨hk _ _ D.TIz D.TITO D.TIi1 D.TIi2 hTI, a3, a4, hl1.at fun o e => hk _ o D.l1z D.l1TO D.l1i1 D.l1i2 e, hl2.at fun o e => hk _ o D.l2z D.l2TO D.l2i1 D.l2i2 e,
              .inr ⟨s₁.heap.objs.size, false, _, a1, a5, lt hz, n1, n2, Nat.ne_of_gt hds⟩⟩
            fun c o hc e => hk c o (fun x => hc (by simp [x])) (fun x => hc (by simp [x])) (fun x => hc (by simp [x])) (fun x => hc (by simp [x])) e
        · refine wpAny_pyNext_zip_item_held D hz hT hTI h1 h2 hl1 hl2 ex ey fun h' a1 a3 a4 a5 a6 hk => ?_
          exact hQ _ _ h' s₁.toks ru rv a5 a6
            ⟨hk _ _ D.TIz D.TIi1 D.TIi2 hTI, a3, a4, hl1.at fun o e => hk _ o D.l1z D.l1i1 D.l1i2 e, hl2.at fun o e => hk _ o D.l2z D.l2i1 D.l2i2 e,
              .inr ⟨T, true, oT, a1, hk _ _ t1 t2 t3 hT, t1, t2, t3, t4⟩⟩
            fun c o hc e => hk c o (fun x => hc (by simp [x])) (fun x => hc (by simp [x])) (fun x => hc (by simp [x])) e
      done := fun s₁ Q₁ E₁ st hQ => by
        obtain ⟨hTI, h1, h2, hl1, hl2, hz⟩ := st
        have l1 := r1.length
        have l2 := r2.length
        have hend : xs.toArray[(vs.zip us).length]? = none ∨ ys.toArray[(vs.zip us).length]? = none := by
          rw [List.length_zip]
          rcases Nat.le_total vs.length us.length with h | h
          · refine .inl ?_
            rw [Nat.min_eq_left h]
            simp; omega
          · refine .inr ?_
            rw [Nat.min_eq_right h]
            simp; omega
        rcases hz with ⟨hz, a, b, hTO⟩ | ⟨T, f, oT, hz, hT, t1, t2, t3, t4⟩
        · exact wpAny_pyNext_zip_end hA D hz hTI hTO h1 h2 hl1 hl2 hend fun h' hk => hQ h' s₁.toks fun c o hc e => hk c o (fun x => hc (by simp [x])) (fun x => hc (by simp [x])) (fun x => hc (by simp [x])) (fun x => hc (by simp [x])) e
        · exact wpAny_pyNext_zip_end_held hA D hz hT hTI h1 h2 hl1 hl2 hend fun h' hk => hQ h' s₁.toks fun c o hc e => hk c o (fun x => hc (by simp [x])) (fun x => hc (by simp [x])) (fun x => hc (by simp [x])) e }
end
section
variable {X : Cx} {e e2 : Expr} {ta : TA} {p p2 pos pos2 : Pos}
end
inductive RepPs (K : PySem.W.Frag) (G : Hp) : List (D × D) → List (V × V) → Prop where
  | nil : RepPs K G [] []
  | cons {d e : D} {v u : V} {ds : List (D × D)} {vs : List (V × V)} : Rep K G d v → Rep K G e u → RepPs K G ds vs → RepPs K G ((d, e) :: ds) ((v, u) :: vs)
theorem RepPs.mono {K : PySem.W.Frag} {G G' : Hp} (h : Le G G') : ∀ {ds : List (D × D)} {vs : List (V × V)}, RepPs K G ds vs → RepPs K G' ds vs
  | _, _, .nil => .nil
  | _, _, .cons r s t => .cons (r.mono h) (s.mono h) (RepPs.mono h t)
def dLEn (δ : DA) : DE := fun x ρ n q => δ x ρ n fun ds n1 => match ds with
  | [.lst es] => q (.lst (enumD es)) n1
  | _ => False
def dLZp (δ : DA) : DE := fun x ρ n q => δ x ρ n fun ds n1 => match ds with
  | [.lst es, .lst fs] => q (.lst (zipD es fs)) n1
  | _ => False
section
variable {X : Cx} {W : WX} {e e2 : Expr} {α' : DA} {p p2 pos pos2 : Pos}
end
end DL

end

section
set_option autoImplicit false
namespace DL
open PySem PySem.Spec PySem.W PyProof.Rows L2
section
variable {X : Cx} {W : WX} {e : Expr} {es : List Expr} {te : TE} {t : TA} {p : Pos} {δ : DE} {α' : DA}
def dStarD (a : DE) (r : DA) : DA := fun x ρ n q => a x ρ n fun d n1 => match d with
  | .dct kvs => r x ρ n1 fun ds n2 => q ((kvs.map fun kv => keyOf kv.1) ++ ds) n2
  | _ => False
end
section
variable {X : Cx} {W : WX} {a b c : Expr} {ta : TA} {p p2 pos pos2 : Pos} {α' : DA}
def dLR2 (δ : DA) : DE := fun x ρ n q => δ x ρ n fun ds n1 => match ds with
  | [.int i, .int j] => (-(2 ^ 62) ≤ i ∧ i < 2 ^ 62 ∧ -(2 ^ 62) ≤ j ∧ j < 2 ^ 62 ∧ (j - i).toNat ≤ 2 ^ 24) ∧ q (.lst (rngD i (j - i).toNat)) n1
  | _ => False
def dLR3 (δ : DA) : DE := fun x ρ n q => δ x ρ n fun ds n1 => match ds with
  | [.int i, .int j, .int c] => c = -1 ∧ (-(2 ^ 62) ≤ i ∧ i < 2 ^ 62 ∧ -(2 ^ 62) ≤ j ∧ j < 2 ^ 62 ∧ (i - j).toNat ≤ 2 ^ 24) ∧ q (.lst (rngC i (-1) (i - j).toNat)) n1
  | _ => False
end
end DL

end

section
set_option autoImplicit false
namespace DL
open PySem PySem.Spec PySem.W PyProof.Rows L2
set_option maxHeartbeats 1000000 in
theorem meets_enum1 {v : Value} {o : Obj} {H : Heap → Prop} (B : Begins v o H) :
    Meets (Builtin.«enumerate.__new__» ⟨[.type "enumerate", v], []⟩) (fun _ R s => H s.heap ∧
      R (.ok (.ret (.ref (s.heap.push o).objs.size))) { s with heap := (s.heap.push o).push { cls := .type "enumerate", data := .fields #[.none, .bool false, .ref s.heap.objs.size, rawInt 0, .none, .none] } }) :=
  .of_wp fun prog w A R s h => by
    obtain ⟨hp, g, d, tk, os⟩ := s; obtain ⟨h1, h⟩ := h
    have hsub := sub_enumerate
    have q1 : ∀ {A' : Around} {E : Value → Shared → Prop} {Q : Value → Shared → Prop}, Q (.ref hp.objs.size) ⟨hp.push o, g, d, tk, os⟩ → wpAny (model prog w) A' (pyIter v) Q E ⟨hp, g, d, tk, os⟩ :=
      fun q => B.iter prog w _ _ ⟨hp, g, d, tk, os⟩ _ h1 q
    wp_walk using q1
    refine wpAny_stack_any fun st => wpAny_pure ?_
    split
    · rename_i c _ _ _ _ _
      cases (c == Value.type "enumerate")
      · wp_walk using q1
        exact ⟨_, rfl, h⟩
      · wp_walk using q1
        exact ⟨_, rfl, h⟩
    · wp_walk using q1
      exact ⟨_, rfl, h⟩
section
variable {prog : Program} {w : World} {A : Around} {E : Value → Shared → Prop} {s : Shared}
theorem enum_begins1 {v : Value} {o : Obj} {H : Heap → Prop} {Q : Value → Shared → Prop} (B : Begins v o H) (h1 : H s.heap)
    (h : ∀ h', IsEnum h' (s.heap.objs.size + 1) s.heap.objs.size 0 .none → h'.get? s.heap.objs.size = some o → h'.objs.size = s.heap.objs.size + 2 →
      (∀ b o, s.heap.get? b = some o → h'.get? b = some o) → Q (.ref (s.heap.objs.size + 1)) { s with heap := h' }) :
    wpAny (model prog w) A (call (.type "enumerate") [v]) Q E s := by
  refine callType_new F.called_enumerate (by decide) (F.typeCall_enumerate_1 _) (F.newCall_enumerate_1 _) (fun obj => F.args_object_init_2 obj _) F.entry_enumerate_new
    (meets_enum1 B) ⟨h1, ?_⟩
  have hz : (s.heap.push o).objs.size = s.heap.objs.size + 1 := Heap.size_push ..
  show _ ∧ _
  rw [hz]
  have he : IsEnum ((s.heap.push o).push { cls := .type "enumerate", data := .fields #[.none, .bool false, .ref s.heap.objs.size, rawInt 0, .none, .none] }) (s.heap.objs.size + 1) s.heap.objs.size 0 .none := by
    have := Heap.get?_push_size (s.heap.push o) (o := { cls := .type "enumerate", data := .fields #[.none, .bool false, .ref s.heap.objs.size, rawInt 0, .none, .none] }) rfl
    rw [hz] at this; exact this
  refine ⟨⟨_, he, rfl⟩, h _ he (Heap.get?_push_of_some _ (Heap.get?_push_size _ B.free)) (by rw [Heap.size_push, hz]) fun b o x => Heap.get?_push_of_some _ (Heap.get?_push_of_some _ x)⟩
end
def SqK (t : Bool) (K : PySem.W.Frag) (H : Hp) (a : Addr) (xs : List V) : Prop := if t = true then SqT K H a xs else SqL K H a xs
def IsItK (t : Bool) (h : Heap) (it a : Addr) (i : Nat) : Prop := if t = true then h.IsTupleIter it a i else h.IsListIter it a i
def IsSqK (t : Bool) (h : Heap) (a : Addr) (its : Array Value) : Prop := if t = true then h.IsTuple a its else h.IsList a its
theorem SqK.inj {t : Bool} {X : Cx} {pins : List (Addr × Obj)} {σ : L2.St} {H : Hp} {s : Shared} (I : Inv X pins σ H s) {a : Addr} {xs ys : List V} (h : SqK t X.K H a xs) (h' : SqK t X.K H a ys) : xs = ys := by
  cases t with
  | true => exact I.tuple_inj h h'
  | false => exact I.list_inj h h'
theorem SqK.items {t : Bool} {X : Cx} {pins : List (Addr × Obj)} {σ : L2.St} {H : Hp} {s : Shared} (I : Inv X pins σ H s) {a : Addr} {xs : List V} (h : SqK t X.K H a xs) : ∃ its : List Value, Vals xs its ∧ IsSqK t s.heap a its.toArray ∧ xs.length ≤ sizeLine := by
  cases t with
  | true =>
    obtain ⟨its, r, e, z⟩ := I.tuple h
    exact ⟨its, r, e, z⟩
  | false =>
    obtain ⟨its, r, e, z⟩ := I.list h
    exact ⟨its, r, e.isList, z⟩
theorem IsItK.at {t : Bool} {h h' : Heap} {it a : Addr} {i : Nat} (x : IsItK t h it a i) (e : ∀ o, h.get? it = some o → h'.get? it = some o) : IsItK t h' it a i := by
  cases t with
  | true => obtain ⟨o, h1, h2, h3⟩ := (show h.IsTupleIter it a i from x); exact ⟨o, e o h1, h2, h3⟩
  | false => exact Heap.IsListIter.at (show h.IsListIter it a i from x) e
theorem IsItK.obj {t : Bool} {h : Heap} {it a : Addr} {i : Nat} (x : IsItK t h it a i) : ∃ o, h.get? it = some o ∧ ∀ v, o.data ≠ .prim v := by
  cases t with
  | true => obtain ⟨o, h1, h2, h3⟩ := (show h.IsTupleIter it a i from x); exact ⟨o, h1, fun v z => by rw [h3] at z; cases z⟩
  | false => obtain ⟨o, h1, h2, h3⟩ := (show h.IsListIter it a i from x); exact ⟨o, h1, fun v z => by rw [h3] at z; cases z⟩
theorem draws_K (t : Bool) {prog : Program} {w : World} {A : Around} (hh : A.handled = none) (it a : Addr) (hne : a ≠ it) (items : Array Value) : Draws prog w A it [it, a] items.size (fun i v => items[i]? = some v) (fun i h => IsItK t h it a i ∧ IsSqK t h a items) := by
  cases t with
  | true => exact Draws.tuple hh it a hne items
  | false => exact Draws.list hh it a hne items
theorem begins_K (t : Bool) (a : Addr) (items : Array Value) : ∃ o, Begins (.ref a) o (fun h => IsSqK t h a items) ∧ ∀ h it, h.get? it = some o → IsItK t h it a 0 := by
  cases t with
  | true => exact ⟨_, begins_tuple a items, fun h it e => ⟨_, e, rfl, rfl⟩⟩
  | false => exact ⟨_, begins_list a items, fun h it e => ⟨_, e, rfl, rfl⟩⟩
theorem IsItK.cell {t : Bool} {h : Heap} {it a : Addr} {i : Nat} (x : IsItK t h it a i) : ∃ o, h.get? it = some o ∧ ∀ v, o.data ≠ .cell v := by
  cases t with
  | true => obtain ⟨o, h1, h2, h3⟩ := (show h.IsTupleIter it a i from x); exact ⟨o, h1, fun v z => by rw [h3] at z; cases z⟩
  | false => obtain ⟨o, h1, h2, h3⟩ := (show h.IsListIter it a i from x); exact ⟨o, h1, fun v z => by rw [h3] at z; cases z⟩
theorem IsItK.lt {t : Bool} {h : Heap} {it a : Addr} {i : Nat} (x : IsItK t h it a i) : it < h.objs.size := by
  obtain ⟨o, e, _⟩ := x.obj
  exact Heap.lt_size e

def IteK (t : Bool) (K : PySem.W.Frag) (a : Addr) : It :=
  ⟨fun i H => ∃ (xs : List V) (x : V), SqK t K H a xs ∧ xs[i]? = some x, fun i H v H' => ∃ T x, v = .ref T ∧ H T = none ∧ H' = upd H T (.tup [.int (i : Nat), x]) ∧ ∀ xs, SqK t K H a xs → xs[i]? = some x, fun i H => ∃ xs : List V, SqK t K H a xs ∧ xs.length = i⟩
theorem enum_overD {prog : Program} {w : World} {A : Around} {E : Value → Shared → Prop} {s : Shared} {e it : Addr} {fp : List Addr} {n : Nat} {P : Nat → Value → Prop} {St : Nat → Heap → Prop} {old : Value} {i : Int} {Q : Option Value → Shared → Prop}
    (D : Draws prog w A.in1 it fp n P St) (he : IsEnum s.heap e it i old) (hst : St n s.heap) (hQ : ∀ h', Heap.ExtBut it s.heap h' → Q none { s with heap := h' }) : wpAny (model prog w) A (pyNext (.ref e)) Q E s := by
  have hT : s.TypeIs (.ref e) "enumerate" := ⟨_, he, rfl⟩
  unfold pyNext
  refine wpAny_bind (wpAny_attempt (wpAny_callSpecial?_slot (name := Str.ofString "__next__") hT F.slot_enumerate_next
    (wpAny_call_entry F.slot_enumerate_next hT F.entry_enumerate_next ?_ (F.args_enumerate_next_1 _))))
  show wpAny _ _ (field (.ref e) 2 >>= _) _ _ _
  refine wpAny_bind (wpAny_field he rfl (x := .ref it) rfl ?_)
  refine wpAny_bind (D.done _ _ _ hst fun h' x he' hx' => ?_)
  obtain ⟨o, ho, hc⟩ := hx'
  refine wpAny_bind (wpAny_isInstance (T := "StopIteration") (b := true) ⟨o, ho, hc⟩ isSubtype_stop ?_)
  exact wpAny_pure (hQ _ he')
theorem turn_enumK (t : Bool) {P : Program} {w : World} {K : PySem.W.Frag} {elts : List Expr} {kk : Nat} {tpos : Pos} (a e it : Addr) (hne : e ≠ it) (hai : a ≠ it) (hae : a ≠ e) :
    Turn P w K (.Tuple elts kk tpos) (IteK t K a) [e, it] e (fun i h => (∃ old, IsEnum h e it ((i : Nat) : Int) old) ∧ IsItK t h it a i) where
  mem := by simp
  obj := fun i h st b hb => by
    obtain ⟨⟨old, he⟩, hi⟩ := st
    have e' : b = e ∨ b = it := by simpa using hb
    rcases e' with z | z
    · rw [z]; exact ⟨_, he, fun v q => nomatch q⟩
    · rw [z]; exact hi.cell
  keep := fun i h h' st k => let ⟨⟨old, he⟩, hi⟩ := st; ⟨⟨old, k e (by simp) _ he⟩, hi.at fun o q => k it (by simp) o q⟩
  item := by
    intro X hP hw hK hc i pins s σ H E I hf st hg
    subst hP hw hK
    obtain ⟨⟨old, he⟩, hit⟩ := st
    obtain ⟨xs, x, hq, hx⟩ := hg
    obtain ⟨its, rv, p, hz⟩ := hq.items I
    obtain ⟨u, hu, ru⟩ := rv.get hx
    have hel : e < s.heap.objs.size := Heap.lt_size he
    have hil : it < s.heap.objs.size := hit.lt
    have hlt : i < its.toArray.size := by
      have := (List.getElem?_eq_some_iff.mp hu).1
      simpa using this
    refine wpAny_pyNext_enum_itemD (draws_K t (A := X.A.in1) (I.ok.hd hc) it a hai its.toArray) he ⟨hit, p⟩ hlt hne (by simp; exact ⟨hne, fun z => hae z.symm⟩) fun x' h' tk hP ho hit' hT hsz hk => ?_
    have hx' : x' = u := by
      have : its.toArray[i]? = some u := by simpa using hu
      rw [this] at hP
      exact (Option.some.inj hP).symm
    subst hx'
    refine ⟨_, rfl, wpAny_letOwnedTupleGo_enum (s := { s with heap := h', toks := tk + 1 }) ho fun h'' he' sb => ?_⟩
    have hT2 : h''.get? s.heap.objs.size = some { cls := .type "tuple", data := .seq #[.int i tk, x'] } := (sb.2 _ (Nat.ne_of_gt hel)).trans hT
    have new : ObjOk X.prog X.w (upd H s.heap.objs.size (.tup [.int (i : Nat), x])) h'' s.heap.objs.size (.tup [.int (i : Nat), x]) :=
      ⟨by show 2 ≤ sizeLine; decide, [.int i tk, x'], .cons ⟨_, rfl⟩ (.cons ru .nil), ⟨_, hT2, rfl, _, rfl⟩⟩
    have I1 : Inv X pins σ (upd H s.heap.objs.size (.tup [.int (i : Nat), x])) { s with heap := h'', toks := tk + 1 } :=
      I.turnedNew (ch := [e, it]) (fun b ob hb q => (sb.2 b (fun z => hb (by simp [z]))).trans (hk b ob (fun z => hb (by simp [z])) (fun z => hb (by simp [z])) q)) hf (Nat.le_refl _) new
    refine ⟨.ref s.heap.objs.size, _, I1, rfl, ⟨_, x, rfl, I.hok.fresh (Nat.le_refl _), rfl, fun ys hy => by rw [SqK.inj I hy hq]; exact hx⟩, ⟨⟨x', ?_⟩, hit'.1.at fun o q => (sb.2 it (Ne.symm hne)).trans q⟩, fun b hb => ?_⟩
    · have e1 : ((i + 1 : Nat) : Int) = (i : Int) + 1 := by omega
      rw [e1]; exact he'
    · have hb' : b < s.heap.objs.size := by
        have e' : b = e ∨ b = it := by simpa using hb
        rcases e' with z | z
        · rw [z]; exact hel
        · rw [z]; exact hil
      rw [upd_ne (Nat.ne_of_lt hb')]
      exact (hf b hb).1
  done := by
    intro X hP hw hK hc i pins s σ H E I hf st hg
    subst hP hw hK
    obtain ⟨⟨old, he⟩, hit⟩ := st
    obtain ⟨xs, hq, hx⟩ := hg
    obtain ⟨its, rv, p, hz⟩ := hq.items I
    obtain ⟨f0, f1, f2, f3, f4, f5⟩ := hf it (by simp)
    have hl : its.toArray.size = i := by rw [← hx, rv.length]; simp
    exact enum_overD (draws_K t (A := X.A.in1) (I.ok.hd hc) it a hai its.toArray) he ⟨by rw [hl]; exact hit, p⟩ fun h' eb => ⟨rfl, I.turned (t' := s.toks) (fun b o hb q => eb b o hb q) f0 f1 f3 f4 f5⟩
  self := fun A i s Q E st h => let ⟨⟨_, he⟩, _⟩ := st; wpAny_pyIter_enum he h
def iEnumK (K : PySem.W.Frag) (ta : TA) : TI := fun σ H R => ta σ H fun vs H1 => ∃ t a xs, vs = [.ref a] ∧ SqK t K H1 a xs ∧ R (IteK t K a) H1
theorem IsSqK.lt {t : Bool} {h : Heap} {a : Addr} {its : Array Value} (x : IsSqK t h a its) : a < h.objs.size := by
  cases t with
  | true => obtain ⟨o, e, _⟩ := (show h.IsTuple a its from x); exact Heap.lt_size e
  | false => obtain ⟨o, e, _⟩ := (show h.IsList a its from x); exact Heap.lt_size e
theorem pi_enumK {X : Cx} {e : Expr} {ta : TA} {p pos tpos : Pos} {elts : List Expr} {kk : Nat} (hg : Gl X "enumerate") (hm : X.mg "enumerate" = none) (ha : PA X [e] ta) (hs : starEach [e] X.env = [(false, eval e X.env)] := by rfl) :
    PI X (.Tuple elts kk tpos) (.Call (.Name "enumerate" p) [e] [] pos) (iEnumK X.K ta) := by
  refine ⟨fun pins s σ H R I h => ?_⟩
  refine Call_ (ld_blt I hg hm boot_enumerate (PyProof.Rows.callWith_type1 (thn (ha.run pos pins s σ H _ I h) fun us s1 ⟨vs, H1, I1, r1, q1⟩ => ?_) hs rfl))
  obtain ⟨t, a, xs, ex, hq, q⟩ := q1
  subst ex
  cases r1 with
  | cons r rr =>
    cases rr
    cases r
    obtain ⟨its, rv, p', hz⟩ := hq.items I1
    obtain ⟨o, bg, ob⟩ := begins_K t a its.toArray
    have la := p'.lt
    refine enum_begins1 bg p' fun h' he hit hsz hk => wpAny_pyIter_enum he ?_
    have I2 : Inv X pins σ H1 { s1 with heap := h' } := I1.kept (t' := s1.toks) hk
    refine ⟨s1.heap.objs.size + 1, [s1.heap.objs.size + 1, s1.heap.objs.size], _, _, H1, rfl, I2, turn_enumK t a (s1.heap.objs.size + 1) s1.heap.objs.size (Nat.succ_ne_self _) (Nat.ne_of_lt la) (Nat.ne_of_lt (Nat.lt_succ_of_lt la)), ⟨⟨.none, he⟩, ob _ _ hit⟩, fun b hb => ?_, q⟩
    have e' : b = s1.heap.objs.size + 1 ∨ b = s1.heap.objs.size := by simpa using hb
    have hle : s1.heap.objs.size ≤ b := by
      rcases e' with z | z
      · rw [z]; exact Nat.le_add_right _ _
      · rw [z]; exact Nat.le_refl _
    exact I1.fpOk hle (I1.hok.fresh hle)

def ItzK (t1 t2 : Bool) (K : PySem.W.Frag) (a b : Addr) : It :=
  ⟨fun i H => ∃ (xs ys : List V) (x y : V), SqK t1 K H a xs ∧ SqK t2 K H b ys ∧ xs[i]? = some x ∧ ys[i]? = some y,
    fun i H v H' => ∃ T x y, v = .ref T ∧ H T = none ∧ H' = upd H T (.tup [x, y]) ∧ (∀ xs, SqK t1 K H a xs → xs[i]? = some x) ∧ ∀ ys, SqK t2 K H b ys → ys[i]? = some y,
    fun i H => ∃ xs ys : List V, SqK t1 K H a xs ∧ SqK t2 K H b ys ∧ i ≤ xs.length ∧ i ≤ ys.length ∧ (i = xs.length ∨ i = ys.length)⟩
theorem turn_zipK (t1 t2 : Bool) {P : Program} {w : World} {K : PySem.W.Frag} {elts : List Expr} {kk : Nat} {tpos : Pos} {a b z TI TO i1 i2 : Addr} (S : ZipSep2 z TI TO i1 i2 [i1, a] [i2, b]) (hai : a ≠ i1) (hbi : b ≠ i2) :
    Turn P w K (.Tuple elts kk tpos) (ItzK t1 t2 K a b) [z, TI, TO, i1, i2] z (fun i h => IsZip h z TI TO .none ∧ IsTupOf2 h TI (.ref i1) (.ref i2) ∧ (∃ x y, IsTupOf2 h TO x y) ∧ IsItK t1 h i1 a i ∧ IsItK t2 h i2 b i) where
  mem := by simp
  obj := fun i h st c hc => by
    obtain ⟨hz, hTI, ⟨x, y, hTO⟩, h1, h2⟩ := st
    have e' : c = z ∨ c = TI ∨ c = TO ∨ c = i1 ∨ c = i2 := by simpa using hc
    rcases e' with q | q | q | q | q
    · rw [q]; exact ⟨_, hz, fun v q => nomatch q⟩
    · rw [q]; exact ⟨_, hTI, fun v q => nomatch q⟩
    · rw [q]; exact ⟨_, hTO, fun v q => nomatch q⟩
    · rw [q]; exact h1.cell
    · rw [q]; exact h2.cell
  keep := fun i h h' st k => by
    obtain ⟨hz, hTI, ⟨x, y, hTO⟩, h1, h2⟩ := st
    exact ⟨k z (by simp) _ hz, k TI (by simp) _ hTI, ⟨x, y, k TO (by simp) _ hTO⟩, h1.at fun o q => k i1 (by simp) o q, h2.at fun o q => k i2 (by simp) o q⟩
  item := by
    intro X hP hw hK hc i pins s σ H E I hf st hg
    subst hP hw hK
    obtain ⟨hz, hTI, ⟨x0, y0, hTO⟩, h1, h2⟩ := st
    obtain ⟨xs, ys, x, y, hqx, hqy, hx, hy⟩ := hg
    obtain ⟨its, rv, p, _⟩ := hqx.items I
    obtain ⟨its2, rv2, p2, _⟩ := hqy.items I
    obtain ⟨u, hu, ru⟩ := rv.get hx
    obtain ⟨u2, hu2, ru2⟩ := rv2.get hy
    have hzl : z < s.heap.objs.size := Heap.lt_size hz
    have l1 : i < its.toArray.size := by
      have := (List.getElem?_eq_some_iff.mp hu).1
      simpa using this
    have l2 : i < its2.toArray.size := by
      have := (List.getElem?_eq_some_iff.mp hu2).1
      simpa using this
    refine wpAny_pyNext_zipD2_item S (draws_K t1 (A := X.A.in1) (I.ok.hd hc) i1 a hai its.toArray) (draws_K t2 (A := X.A.in1) (I.ok.hd hc) i2 b hbi its2.toArray) hz hTI hTO ⟨h1, p⟩ ⟨h2, p2⟩ l1 l2 fun x1 x2 h' tk e1 e2 z' TO' h1' h2' hT hsz hk => ?_
    have ex1 : x1 = u := by
      have : its.toArray[i]? = some u := by simpa using hu
      rw [this] at e1
      exact (Option.some.inj e1).symm
    have ex2 : x2 = u2 := by
      have : its2.toArray[i]? = some u2 := by simpa using hu2
      rw [this] at e2
      exact (Option.some.inj e2).symm
    subst ex1 ex2
    refine ⟨_, rfl, wpAny_letOwnedTupleGo_zip (s := { s with heap := h', toks := tk }) z' fun h'' z'' sb => ?_⟩
    have hT2 : h''.get? s.heap.objs.size = some { cls := .type "tuple", data := .seq #[x1, x2] } := (sb.2 _ (Nat.ne_of_gt hzl)).trans hT
    have new : ObjOk X.prog X.w (upd H s.heap.objs.size (.tup [x, y])) h'' s.heap.objs.size (.tup [x, y]) :=
      ⟨by show 2 ≤ sizeLine; decide, [x1, x2], .cons ru (.cons ru2 .nil), ⟨_, hT2, rfl, _, rfl⟩⟩
    have I1 : Inv X pins σ (upd H s.heap.objs.size (.tup [x, y])) { s with heap := h'', toks := tk } :=
      I.turnedNew (ch := [z, TI, TO, i1, i2]) (fun c o hb q => (sb.2 c (fun q' => hb (by simp [q']))).trans (hk c o (fun q' => hb (by simp [q'])) (fun q' => hb (by simp [q'])) (fun q' => hb (by simp [q'])) (fun q' => hb (by simp [q'])) q)) hf (Nat.le_refl _) new
    refine ⟨.ref s.heap.objs.size, _, I1, rfl, ⟨_, x, y, rfl, I.hok.fresh (Nat.le_refl _), rfl, fun l hl => by rw [SqK.inj I hl hqx]; exact hx, fun l hl => by rw [SqK.inj I hl hqy]; exact hy⟩, ⟨z'', ?_, ⟨x1, x2, ?_⟩, ?_, ?_⟩, fun c hcm => ?_⟩
    · exact (sb.2 _ S.TIz).trans (hk _ _ S.TIz S.TITO S.TIi1 S.TIi2 hTI)
    · exact (sb.2 _ S.TOz).trans TO'
    · exact h1'.1.at fun o q => (sb.2 _ (Ne.symm S.zi1)).trans q
    · exact h2'.1.at fun o q => (sb.2 _ (Ne.symm S.zi2)).trans q
    · have hlt : c < s.heap.objs.size := by
        have e' : c = z ∨ c = TI ∨ c = TO ∨ c = i1 ∨ c = i2 := by simpa using hcm
        rcases e' with q | q | q | q | q
        · rw [q]; exact hzl
        · rw [q]; exact Heap.lt_size hTI
        · rw [q]; exact Heap.lt_size hTO
        · rw [q]; exact h1.lt
        · rw [q]; exact h2.lt
      rw [upd_ne (Nat.ne_of_lt hlt)]
      exact (hf c hcm).1
  done := by
    intro X hP hw hK hc i pins s σ H E I hf st hg
    subst hP hw hK
    obtain ⟨hz, hTI, ⟨x0, y0, hTO⟩, h1, h2⟩ := st
    obtain ⟨xs, ys, hqx, hqy, hle1, hle2, hend⟩ := hg
    obtain ⟨its, rv, p, _⟩ := hqx.items I
    obtain ⟨its2, rv2, p2, _⟩ := hqy.items I
    have e1 : its.toArray.size = xs.length := by rw [rv.length]; simp
    have e2 : its2.toArray.size = ys.length := by rw [rv2.length]; simp
    exact wpAny_pyNext_zipD2_end S (draws_K t1 (A := X.A.in1) (I.ok.hd hc) i1 a hai its.toArray) (draws_K t2 (A := X.A.in1) (I.ok.hd hc) i2 b hbi its2.toArray) hz hTI hTO ⟨h1, p⟩ ⟨h2, p2⟩ (by omega) (by omega) (by omega) fun h' tk hk => ⟨rfl, I.turnedL (t' := tk) (ch := [z, TI, TO, i1, i2]) (fun c o hb q =>
      hk c o (fun q' => hb (by simp [q'])) (fun q' => hb (by simp [q'])) (fun q' => hb (by simp [q'])) (fun q' => hb (by simp [q'])) q) hf⟩
  self := fun A i s Q E st h => wpAny_pyIter_zip st.1 h
def iZipK (K : PySem.W.Frag) (ta : TA) : TI := fun σ H R => ta σ H fun vs H1 => ∃ t1 t2 a b xs ys, vs = [.ref a, .ref b] ∧ SqK t1 K H1 a xs ∧ SqK t2 K H1 b ys ∧ R (ItzK t1 t2 K a b) H1
theorem pi_zipK {X : Cx} {e e2 : Expr} {ta : TA} {p pos tpos : Pos} {elts : List Expr} {kk : Nat} (hg : Gl X "zip") (hm : X.mg "zip" = none) (ha : PA X [e, e2] ta)
    (hs : starEach [e, e2] X.env = (false, eval e X.env) :: starEach [e2] X.env := by rfl) (hpl : (backTo pos (starEach [e2] X.env)).any (·.1) = false := by rfl) :
    PI X (.Tuple elts kk tpos) (.Call (.Name "zip" p) [e, e2] [] pos) (iZipK X.K ta) := by
  refine ⟨fun pins s σ H R I h => ?_⟩
  refine Call_ (ld_blt I hg hm PyProof.Rows.boot_zip (PyProof.Rows.callWith_type1 (thn (ha.run pos pins s σ H _ I h) fun us s1 ⟨vs, H1, I1, r1, q1⟩ => ?_) hs hpl))
  obtain ⟨t1, t2, a, b, xs, ys, ex, hqx, hqy, q⟩ := q1
  subst ex
  cases r1 with
  | cons r rr =>
    cases rr with
    | cons r' rr =>
      cases rr
      cases r
      cases r'
      obtain ⟨its, rv, p1, _⟩ := hqx.items I1
      obtain ⟨its2, rv2, p2, _⟩ := hqy.items I1
      have la := p1.lt
      have lb := p2.lt
      obtain ⟨o1, bg1, ob1⟩ := begins_K t1 a its.toArray
      obtain ⟨o2, bg2, ob2⟩ := begins_K t2 b its2.toArray
      refine zip_begins2 bg1 bg2 p1 p2 fun h' hz hTI hTO h1 h2 hsz hk => wpAny_pyIter_zip hz ?_
      have I2 : Inv X pins σ H1 { s1 with heap := h' } := I1.kept (t' := s1.toks) hk
      have sep := zip_sep2 (N := s1.heap.objs.size) (fp1 := [a]) (fp2 := [b]) (fun c hc => by rw [List.mem_singleton.mp hc]; exact la) (fun c hc => by rw [List.mem_singleton.mp hc]; exact lb)
      refine ⟨s1.heap.objs.size + 4, [s1.heap.objs.size + 4, s1.heap.objs.size + 2, s1.heap.objs.size + 3, s1.heap.objs.size, s1.heap.objs.size + 1], _, _, H1, rfl, I2, turn_zipK t1 t2 sep (Nat.ne_of_lt la) (Nat.ne_of_lt (Nat.lt_succ_of_lt lb)), ⟨hz, hTI, ⟨_, _, hTO⟩, ob1 _ _ h1, ob2 _ _ h2⟩, fun c hcm => ?_, q⟩
      have e' : c = s1.heap.objs.size + 4 ∨ c = s1.heap.objs.size + 2 ∨ c = s1.heap.objs.size + 3 ∨ c = s1.heap.objs.size ∨ c = s1.heap.objs.size + 1 := by simpa using hcm
      have hle : s1.heap.objs.size ≤ c := by
        rcases e' with z | z | z | z | z
        · rw [z]; exact Nat.le_add_right _ _
        · rw [z]; exact Nat.le_add_right _ _
        · rw [z]; exact Nat.le_add_right _ _
        · rw [z]; exact Nat.le_refl _
        · rw [z]; exact Nat.le_add_right _ _
      exact I1.fpOk hle (I1.hok.fresh hle)

theorem Rep.sqK {K : PySem.W.Frag} {G H : Hp} {d : D} {v : V} {ds : List D} (le : Le G H) (r : Rep K G d v) (h : seqD d = some ds) : ∃ t a vs, v = .ref a ∧ (∀ H' G', Le G G' → Le G' H' → SqK t K H' a vs) ∧ RepL K G ds vs := by
  cases d with
  | lst es =>
    cases h
    cases r with
    | lst e r => exact ⟨false, _, _, rfl, fun H' G' l1 l2 => SqL.of (l2.get (l1.get e)), r⟩
  | tup es =>
    cases h
    cases r with
    | tup e r => exact ⟨true, _, _, rfl, fun H' G' l1 l2 => l2.sqT (l1.sqT e), r⟩
  | rol es =>
    cases h
    cases r with
    | rol e r => exact ⟨false, _, _, rfl, fun H' G' l1 l2 => .inl (.inr ⟨_, l2.get (l1.get e)⟩), r⟩
  | _ => exact nomatch h
section
variable {K : PySem.W.Frag} {G : Hp}
theorem walkD_enumK {t : Bool} {a : Addr} {vs : List V} {ds : List D} (e : ∀ H' G', Le G G' → Le G' H' → SqK t K H' a vs) (r : RepL K G ds vs) : WalkD K (IteK t K a) G (enumD ds) := by
  have hl := r.length
  have hle : (enumD ds).length = ds.length := by simp [enumD]
  refine ⟨fun i H G' hi l1 l2 => ?_, fun H G' l1 l2 => ?_, fun i H G' x H' hi l1 l2 y => ?_⟩
  · rw [hle, hl] at hi
    exact ⟨vs, vs[i], e _ _ l1 l2, List.getElem?_eq_getElem hi⟩
  · exact ⟨vs, e _ _ l1 l2, by rw [hle, hl]⟩
  · rw [hle] at hi
    obtain ⟨T, v, rfl, nT, rfl, hv⟩ := y
    have e1 := hv vs (e _ _ l1 l2)
    obtain ⟨dd, h1, h2⟩ := r.getV e1
    have s := StepP.made (o := .tup [.int (i : Nat), v]) l2 nT
    refine ⟨.tup [.int i, dd], _, ?_, s, .tup (.inl (.inl upd_same)) (.cons (.int _) (.cons (h2.mono (l1.trans s.le)) .nil))⟩
    rw [List.getElem?_eq_getElem hi] at h1
    injection h1 with h1
    simp [enumD, hi, List.getD, h1]
theorem walkD_zipK {t1 t2 : Bool} {a b : Addr} {vs us : List V} {ds es : List D} (e : ∀ H' G', Le G G' → Le G' H' → SqK t1 K H' a vs) (r : RepL K G ds vs) (e' : ∀ H' G', Le G G' → Le G' H' → SqK t2 K H' b us) (r' : RepL K G es us) : WalkD K (ItzK t1 t2 K a b) G (zipD ds es) := by
  have hl := r.length
  have hl' := r'.length
  have hle : (zipD ds es).length = min ds.length es.length := by simp [zipD]
  refine ⟨fun i H G' hi l1 l2 => ?_, fun H G' l1 l2 => ?_, fun i H G' x H' hi l1 l2 y => ?_⟩
  · rw [hle] at hi
    exact ⟨vs, us, vs[i]'(by omega), us[i]'(by omega), e _ _ l1 l2, e' _ _ l1 l2, List.getElem?_eq_getElem _, List.getElem?_eq_getElem _⟩
  · exact ⟨vs, us, e _ _ l1 l2, e' _ _ l1 l2, by rw [hle]; omega, by rw [hle]; omega, by rw [hle]; omega⟩
  · rw [hle] at hi
    obtain ⟨T, v, u, rfl, nT, rfl, hv, hu⟩ := y
    obtain ⟨dd, h1, h2⟩ := r.getV (hv vs (e _ _ l1 l2))
    obtain ⟨de, h3, h4⟩ := r'.getV (hu us (e' _ _ l1 l2))
    have s := StepP.made (o := .tup [v, u]) l2 nT
    refine ⟨.tup [dd, de], _, ?_, s, .tup (.inl (.inl upd_same)) (.cons (h2.mono (l1.trans s.le)) (.cons (h4.mono (l1.trans s.le)) .nil))⟩
    rw [zipD, List.getElem?_map, (List.getElem?_zip_eq_some (z := (dd, de))).mpr ⟨h1, h3⟩]
    rfl
end
def iEnK (δ : DA) : DI := fun x ρ n q => δ x ρ n fun ds n1 => match ds with
  | [d] => opt (seqD d) fun es => q (enumD es) n1
  | _ => False
def iZpK (δ : DA) : DI := fun x ρ n q => δ x ρ n fun ds n1 => match ds with
  | [d, e] => opt (seqD d) fun es => opt (seqD e) fun fs => q (zipD es fs) n1
  | _ => False
section
variable {X : Cx} {W : WX} {e a b : Expr} {α' : DA} {p pos tpos : Pos} {elts : List Expr} {kk : Nat}
theorem pid_enumK (hg : Gl X "enumerate") (hm : X.mg "enumerate" = none) (ha : PAD X W [e] α') (hs : starEach [e] X.env = [(false, eval e X.env)] := by rfl) : PID X W (.Tuple elts kk tpos) (.Call (.Name "enumerate" p) [e] [] pos) (iEnK α') := by
  obtain ⟨t, pa, h⟩ := ha
  refine ⟨_, pi_enumK hg hm pa hs, fun B σ H ρ n G α R x q hK RB hx hd k => ?_⟩
  refine h B σ H ρ n G α _ x _ hK RB hx hd fun vs H1 G1 ds n1 s1 j1 r1 h1 => ?_
  split at h1
  · obtain ⟨es, ee, h1⟩ := opt_some h1
    cases r1 with
    | cons r t =>
      cases t
      obtain ⟨t, a, vs, rfl, hq, rl⟩ := r.sqK s1.hh ee
      exact ⟨t, a, vs, rfl, hq _ _ (Le.refl _) s1.hh, k _ H1 G1 _ n1 s1 j1 (walkD_enumK hq rl) h1⟩
  · exact h1.elim
theorem pid_zipK (hg : Gl X "zip") (hm : X.mg "zip" = none) (ha : PAD X W [a, b] α') (hs : starEach [a, b] X.env = (false, eval a X.env) :: starEach [b] X.env := by rfl) (hpl : (backTo pos (starEach [b] X.env)).any (·.1) = false := by rfl) : PID X W (.Tuple elts kk tpos) (.Call (.Name "zip" p) [a, b] [] pos) (iZpK α') := by
  obtain ⟨t, pa, h⟩ := ha
  refine ⟨_, pi_zipK hg hm pa hs hpl, fun B σ H ρ n G α R x q hK RB hx hd k => ?_⟩
  refine h B σ H ρ n G α _ x _ hK RB hx hd fun vs H1 G1 ds n1 s1 j1 r1 h1 => ?_
  split at h1
  · obtain ⟨es, ee, h1⟩ := opt_some h1
    obtain ⟨fs, ef, h1⟩ := opt_some h1
    cases r1 with
    | cons r t =>
      cases t with
      | cons r' t =>
        cases t
        obtain ⟨t1, a1, vs, rfl, hq, rl⟩ := r.sqK s1.hh ee
        obtain ⟨t2, a2, us, rfl, hq', rl'⟩ := r'.sqK s1.hh ef
        exact ⟨t1, t2, a1, a2, vs, us, rfl, hq _ _ (Le.refl _) s1.hh, hq' _ _ (Le.refl _) s1.hh, k _ H1 G1 _ n1 s1 j1 (walkD_zipK hq rl hq' rl') h1⟩
  · exact h1.elim
end
def fBoolL : FL := f1 fun d k => match d with
  | .lst es => k (.bl (!es.isEmpty))
  | _ => False
theorem dcall_boolL {K : PySem.W.Frag} : DCall K (fun xs H Q => ∃ (a : Addr) (zs : List V), xs = [.ref a] ∧ SqL K H a zs ∧ Q (.bl (!zs.isEmpty)) H) fBoolL := by
  intro W H G vs ds Q k le r hf hk
  cases r with
  | nil => exact hf.elim
  | cons r t =>
    cases t with
    | cons _ _ => exact hf.elim
    | nil =>
      rename_i d v
      cases d with
      | lst es =>
        obtain ⟨a, us, rfl, e, rl⟩ := r.lst le
        refine ⟨a, us, rfl, SqL.of e, hk _ H G _ (.refl le) ?_ hf⟩
        have : us.isEmpty = es.isEmpty := by
          cases rl <;> rfl
        rw [this]
        exact .bl _
      | _ => exact hf.elim
end DL

end

section
set_option autoImplicit false
namespace DL
open PySem PySem.Spec L2
def spWF (K : PySem.W.Frag) (m : Nat) (F : DF) : Sp := fun vs H Q E => ∃ (W : Wd) (n : Nat) (G : Hp) (ds : List D) (q : DQ) (x : Xn → Nat → Prop), Le G H ∧ (∀ a, W.rg a → G a = none) ∧ W.J n H ∧ RepL K G ds vs ∧ ds.length = m ∧ F W ds n q x ∧
  (∀ a H' G' d n', Step W H G H' G' → W.J n' H' → H a = none → G' a = none → ¬ W.rg a → OwnAt K G' H' a d → q d n' → Q (.ref a) H') ∧ (∀ c dd H' G' e n', Step W H G H' G' → W.J n' H' → XRep K W H G' H' e c dd → x e n' → E c dd H')
def ownQ (q : DQ) : Sl → Nat → Prop := fun sl n => match sl with
  | .own d => q d n
  | _ => False
def endsF (W : Wd) (q : DQ) (x : Xn → Nat → Prop) : DEnds := ⟨fun _ _ => False, fun _ _ => False, fun _ _ => False, fun _ _ => False, fun e _ n => x e n, W, ownQ q⟩
theorem ok_defF {P : Program} {w : World} {K : PySem.W.Frag} {mg : Str → Option Value} {base : Heap} {x qual : Str} {params : Arguments} {body : List Stmt} {scope : Scope} {dvs : List V} {kws : List (Str × V)} {f : Addr} {fd : FuncData} {N ps : List Str} {k m : Nat} {F : DF}
    (FD : FunD K x qual params body scope dvs kws f fd) (S : FnScope N ps scope) (hm : ps.length = m)
    (hb : ∀ (X : Cx) (E : XK) (W : Wd) (ds : List D) (n : Nat) (q : DQ) (xx : Xn → Nat → Prop), (∃ cdv A outer s H, X = cxOf (L2.CX P w) P w K mg base N qual scope f cdv A outer s H E) → Room k X.A → Takes X (fun c d _ H => E c d H) → PassesOwn (model X.prog X.w) X.A X.env X.xe → ds.length = m → F W ds n q xx →
      ∃ δ, PSsD X (fun c d _ H => E c d H) body δ ∧ δ (endsF W q xx) (startD N ds) n) : FnOk P w K mg base (L2.CX P w) (k + 1) f fd ps (spWF K m F) := by
  refine FD.ok S (fun vs H Q E h => ?_) (fun cdv A outer s H vs Q E hr h => ?_)
  · obtain ⟨W, n, G, ds, q, x, _, _, _, r, hl, _⟩ := h
    rw [← r.length, hl, hm]
  · obtain ⟨W, n, G, ds, q, xx, le, rg, j, r, hl, hF, kq, kx⟩ := h
    obtain ⟨δ, ⟨t, p, e⟩, hδ⟩ := hb (cxOf (L2.CX P w) P w K mg base N qual scope f cdv A outer s H E) E W ds n q xx ⟨cdv, A, outer, s, H, rfl⟩ hr (takes_of rfl rfl rfl rfl) (passes_of rfl) hl hF
    refine ⟨t, p, ?_⟩
    refine e ⟨W, K, H, G, none⟩ (L2.start N vs) H (startD N ds) n G _ _ _ rfl (RelB.start le rg j r) ?_ hδ
    exact ⟨fun _ _ _ _ _ _ _ h => h.elim, fun _ _ _ _ _ _ _ _ h => h.elim, fun _ _ _ _ _ _ _ h => h.elim, fun _ _ _ _ _ _ _ h => h.elim, fun c dd σ H' ρ n' G' α e R r hq => kx c dd H' G' e n' R.st R.J r hq, rfl, fun v H' sl n' G' s j r hq => by
      cases sl with
      | own d =>
        obtain ⟨a, rfl, h0, g, nr, o⟩ := r
        exact kq a H' G' d n' s j h0 g nr o hq
      | _ => exact hq.elim⟩
structure SgF (P : Program) (w : World) (K : PySem.W.Frag) (mg : Str → Option Value) (base : Heap) (x : Str) (k m : Nat) (F : DF) (dvd : List D) : Prop where
  ex : ∃ (f : Addr) (fd : FuncData) (ps : List Str) (ds : List Value) (dvs : List V), FnOk P w K mg base (L2.CX P w) k f fd ps (spWF K m F) ∧ mg x = some (.ref f) ∧ PySem.W.keepIn K (.ref f) = true ∧ Binds K fd ps ds ∧ Vals dvs ds ∧ ∀ G, RepL K G dvd dvs
structure MgF (P : Program) (w : World) (K : PySem.W.Frag) (mg : Str → Option Value) (base : Heap) (c x : Str) (k m : Nat) (F : DF) (dvd : List D) : Prop where
  cl : Cls K (ca K c)
  ex : ∃ (f : Addr) (fd : FuncData) (ps : List Str) (ds : List Value) (dvs : List V), FnOk P w K mg base (L2.CX P w) k f fd ps (spWF K m F) ∧ Meth K (ca K c) x f ∧ Binds K fd ps ds ∧ Vals dvs ds ∧ ∀ G, RepL K G dvd dvs
section
variable {X : Cx} {W : WX} {k m : Nat} {F : DF} {dvd : List D} {x c y : Str} {p pos apos : Pos} {e o : Expr} {es : List Expr} {a : DA} {δ : DE}
theorem fresh_back {W : Wd} {H G H1 G1 H' G' : Hp} {a : Addr} {n1 : Nat} (s1 : Step W H G H1 G1) (j1 : W.J n1 H1) (np : H1 a = none) : H a = none := by
  have nr : ¬ W.rg a := fun r => W.there n1 H1 a j1 r np
  cases e : H a with
  | none => rfl
  | some o => rw [s1.fr a o e nr] at np; cases np
theorem ef_call {K : PySem.W.Frag} {dvs : List V} {t : TA} (hd : ∀ G, RepL K G dvd dvs) (ha : EA K W t a) : EF K W (tCallSD (spWF K m F) dvs (WE W) t) (dCall m F dvd a) := by
  intro B σ H ρ n G α Q x q hK R hx h k
  refine ha B σ H ρ n G α _ x _ hK R hx h fun vs H1 G1 ds n1 s1 j1 r1 h1 => ?_
  have R1 := R.step s1 j1
  have hx1 := hx.step s1
  obtain ⟨hl, h1⟩ := h1
  rw [hx.1] at h1
  exact ⟨B.W, n1, G1, ds ++ dvd, q, x.ex, s1.hh, R1.rg, j1, r1.append (hd G1), hl, h1, fun a H' G' d n' s j np ng nr o hq => k a H' G' d n' (s1.trans s) j (fresh_back (H' := H') (G' := G') s1 j1 np) ng nr o hq, fun cc dd H' G' e n' s j r hq => hx1.2 cc dd H' G' e n' s j (hK ▸ r) hq⟩
theorem pf_call (S : SgF X.prog X.w X.K X.mg X.base x k m F dvd) (hr : Room k X.A) (tk : Takes X W) (hg : Gl X x) (ha : PAD X W (e :: es) a) (hdb : (x == ("__debug__" : Str)) = false := by decide)
    (he : starEach (e :: es) X.env = (false, eval e X.env) :: starEach es X.env := by rfl) (hpl : (backTo pos (starEach es X.env)).any (·.1) = false := by rfl) : PF X W (.Call (.Name x p) (e :: es) [] pos) (dCall m F dvd a) := by
  obtain ⟨t, pa, ea⟩ := ha
  obtain ⟨f, fd, ps, ds, dvs, hF, hm, hk, hb, hd, hdv⟩ := S.ex
  exact ⟨_, pe_callSD hF hr hg hm hk hb hd (fun σ => passAt tk σ) pa hdb he hpl, ef_call hdv ea⟩
theorem ef_meth {K : PySem.W.Frag} {dvs : List V} {to : TE} {t : TA} (hd : ∀ G, RepL K G dvd dvs) (ho : ED K W to δ) (ha : EA K W t a) : EF K W (tMethSD (ca K c) y (spWF K m F) dvs (WE W) to t) (dMeth c y m F dvd δ a) := by
  intro B σ H ρ n G α Q x q hK R hx h k
  refine ho B σ H ρ n G α _ x _ hK R hx h fun v0 H0 G0 d0 n0 s0 j0 r0 h0 => ?_
  cases d0 with
  | obj c' fs =>
    obtain ⟨ec, el, h0⟩ := h0
    subst ec
    cases r0 with
    | obj e r =>
      refine ⟨_, _, _, rfl, s0.hh.get e, r.lookupN el, ?_⟩
      have R0 := R.step s0 j0
      refine ha B σ H0 ρ n0 G0 α _ x _ hK R0 (hx.step s0) h0 fun vs H1 G1 ds n1 s1 j1 r1 h1 => ?_
      have R1 := R0.step s1 j1
      have hx1 := (hx.step s0).step s1
      obtain ⟨hl, h1⟩ := h1
      rw [hx.1] at h1
      exact ⟨B.W, n1, G1, _ :: (ds ++ dvd), q, x.ex, s1.hh, R1.rg, j1, .cons (.obj (s1.le.get e) (r.mono s1.le)) (r1.append (hd G1)), hl, h1, fun a H' G' d n' s j np ng nr o hq => k a H' G' d n' ((s0.trans s1).trans s) j (fresh_back (H' := H') (G' := G') (s0.trans s1) j1 np) ng nr o hq, fun cc dd H' G' e n' s j r hq => hx1.2 cc dd H' G' e n' s j (hK ▸ r) hq⟩
  | _ => exact h0.elim
end
def eqKD (ks ls : List (Key × D)) : Bool := ks.all fun q => match getD ls q.1 with
  | some d => eqD q.2 d
  | none => false
def fEqDct (neg : Bool) : F2 := fun x y k => match x, y with
  | .dct ks, .dct ls => (ks.all fun q => flatD q.2) = true ∧ (ls.all fun q => flatD q.2) = true ∧ k (.bl (if neg then !(ks.length == ls.length && eqKD ks ls) else (ks.length == ls.length && eqKD ks ls)))
  | _, _ => False
def eqKV (ks ls : List (Key × V)) : Bool := ks.all fun q => match valV ls q.1 with
  | some v => eqV q.2 v
  | none => false
theorem RepK.flat {K : PySem.W.Frag} {G : Hp} : ∀ {ks : List (Key × D)} {ws : List (Key × V)}, RepK K G ks ws → (ks.all fun q => flatD q.2) = true → (ws.all fun q => flatV q.2) = true
  | _, _, .nil, _ => rfl
  | _, _, .cons r t, h => by
    rw [List.all_cons, Bool.and_eq_true_iff] at h
    rw [List.all_cons, RepK.flat t h.2]
    dsimp only at h
    rw [r.flat h.1]; rfl
theorem getD_flat {ls : List (Key × D)} (h : (ls.all fun q => flatD q.2) = true) {k : Key} {v : D} (e : getD ls k = some v) : flatD v = true := by
  unfold getD at e
  cases q : ls.find? (fun kv => decide (kv.1 = k)) with
  | none => rw [q] at e; cases e
  | some kv =>
    rw [q] at e
    cases e
    exact List.all_eq_true.mp h kv (List.mem_of_find?_eq_some q)
theorem RepK.eqKV {K : PySem.W.Frag} {G : Hp} {ls : List (Key × D)} {us : List (Key × V)} (rl : RepK K G ls us) (fl : (ls.all fun q => flatD q.2) = true) : ∀ {ks : List (Key × D)} {ws : List (Key × V)}, RepK K G ks ws → (ks.all fun q => flatD q.2) = true → DL.eqKV ws us = eqKD ks ls
  | _, _, .nil, _ => rfl
  | _, _, .cons (k := k) (d := d) (v := v) r t, h => by
    rw [List.all_cons, Bool.and_eq_true_iff] at h
    have ih := RepK.eqKV rl fl t h.2
    unfold DL.eqKV eqKD at ih ⊢
    rw [List.all_cons, List.all_cons, ih]
    congr 1
    dsimp only
    rcases rl.val (k := k) with ⟨d', v', e1, e2, r'⟩ | ⟨e1, e2⟩
    · rw [e1, e2]
      exact r.eqV r' h.1 (getD_flat fl e1)
    · rw [e1, e2]
section
variable {X : Cx} {W : WX} {a b : Expr} {δa δb : DE} {pos : Pos}
end
end DL

end

section
set_option autoImplicit false
namespace DL
open PySem PySem.Spec L2
theorem wpAny_isTrue_cmp {M : Model} {A : Around} {env : PySem.Env} {E : Value → Shared → Prop} {s : Shared} {l r : Expr} {op : CmpOp} {pos : Pos} {whole : Sem Value} {Q : Bool → Shared → Prop}
    (h : wpAny M A (eval (.Compare l [op] [r] pos) env) (fun c s₁ => wpAny M A (truthy c) Q E s₁) E s) : wpAny M A (isTrue (.Compare l [op] [r] pos) env whole) Q E s := fun Γ p hΓ => by
  have z := h Γ p hΓ
  simp only [eval_Compare1, Sem.wp_bind', Sem.wp_holding, Sem.wp_cmd_standAt, Sem.wp_operate] at z
  simp only [isTrue_Compare1, Sem.wp_bind', Sem.wp_holding, Sem.wp_cmd_standAt, Sem.wp_operate]
  exact Sem.wp_mono M Γ _ (fun a p₁ s₁ h₁ => Sem.wp_mono M Γ _ (fun b _ s₂ h₂ => Sem.wp_mono M Γ _ (fun c p₃ s₃ h₃ => h₃ Γ p₃ hΓ)
    (fun _ _ _ h' => h') _ _ h₂) (fun _ _ _ h' => h') _ _ h₁) (fun _ _ _ h' => h') _ _ z
theorem pt_cmpE {X : Cx} {a b : Expr} {op : CmpOp} {pos : Pos} {t : TE} (h : PE X (.Compare a [op] [b] pos) t) : PT X (.Compare a [op] [b] pos) (tTest t) := by
  refine ⟨fun pins s σ H Q I hw => ?_⟩
  refine wpAny_isTrue_cmp (thn (h.run pins s σ H _ I hw) fun v s1 ⟨x, H1, I1, r1, q1⟩ => ?_)
  obtain ⟨d, rfl, q⟩ := q1
  cases r1
  exact wpAny_truthy_bool ⟨H1, I1, q⟩
theorem pt_cmpV {X : Cx} {W : WX} {a b : Expr} {op : CmpOp} {pos : Pos} {δ : DE} (h : PD X W (.Compare a [op] [b] pos) δ) : PTD X W (.Compare a [op] [b] pos) (dTest δ) := by
  obtain ⟨t, p, h⟩ := h
  exact ⟨_, pt_cmpE p, et_of h.eb⟩
end DL

end

section
set_option autoImplicit false
namespace DL
open PySem PySem.Spec PyProof.Rows L2 LamX
def LamTo (P : Addr) (q : Str) (H H1 : Hp) : Prop := H1 = H ∨ ∃ (ps more : Array Value) (c' : Addr), H P = some (.tbl ps) ∧ H c' = none ∧ H1 = upd (upd H P (.tbl (ps ++ more))) c' (CodeO c' q)
section
variable {X : Cx} {pins : List (Addr × Obj)} {σ : L2.St} {H : Hp} {s : Shared}
end
def CatchV (K : PySem.W.Frag) (cls : Value) : List (Str × V) → (V → Prop) → Prop
  | [], _ => False
  | (c, v) :: l, k => ∃ b, PySem.W.exmOne K cls (.ref (ca K c)) = some b ∧ (b = true → k v) ∧ (b = false → CatchV K cls l k)
inductive HdsC : List ExceptHandler → List (Str × V) → Prop
  | nil : HdsC [] []
  | cons {c : Str} {e : Expr} {v : V} {np p6 p7 : Pos} {hds : List ExceptHandler} {l : List (Str × V)} (he : ∀ Y : Cx, PE Y e (tC v)) (r : HdsC hds l) : HdsC (.ExceptHandler (some (.Name c np)) none [.Return (some e) p6] p7 :: hds) ((c, v) :: l)
theorem HdsC.ok {X : Cx} {hds : List ExceptHandler} {l : List (Str × V)} (h : HdsC hds l) (hn : ∀ q ∈ l, Names X q.1 (.ref (ca X.K q.1))) : HdsOk X hds (l.map fun q => (.ref (ca X.K q.1), fun _ _ _ => tRet (tC q.2))) := by
  induction h with
  | nil => exact .nil
  | cons he r ih => exact .cons (hn _ (List.mem_cons_self ..)) (fun a oe cls d pn _ _ => pss_one (ps_ret (he _))) (ih fun q hq => hn q (List.mem_cons_of_mem _ hq))
def eOf (K : PySem.W.Frag) (W : WX) (δ : DE) : TE := fun σ H Q => ∃ (B : Bs) (ρ : Env) (n : Nat) (G : Hp) (α : Nat → Addr) (x : DX) (q : DQ), B.K = K ∧ RelB B σ H ρ n G α ∧ XL B W σ H G x ∧ δ x ρ n q ∧
  ∀ v H' G' d n', Step B.W H G H' G' → B.W.J n' H' → Rep K G' d v → q d n' → Q v H'
theorem PD.eOf {X : Cx} {W : WX} {e : Expr} {δ : DE} (h : PD X W e δ) : PE X e (eOf X.K W δ) := by
  obtain ⟨t, p, h⟩ := h
  refine ⟨fun pins s σ H Q I hw => ?_⟩
  obtain ⟨B, ρ, n, G, α, x, q, hK, R, hx, hd, k⟩ := hw
  exact p.run pins s σ H Q I (h B σ H ρ n G α Q x q hK R hx hd k)
structure LamW (W : Wd) (P : Addr) (q : Str) : Prop where
  rg : W.rg P
  tab : ∀ n H, W.J n H → TabS H P q
  st : ∀ n H H1, W.J n H → LamTo P q H H1 → TabS H1 P q → W.J n H1
theorem LamW.step {W : Wd} {P : Addr} {q : Str} {H G H1 : Hp} (l : LamW W P q) (rg : ∀ a, W.rg a → G a = none) (le : Le G H) (t : LamTo P q H H1) : Step W H G H1 G := by
  rcases t with rfl | ⟨ps, more, c', e, nc, rfl⟩
  · exact .refl _ le
  have st : ∀ a o, H a = some o → a ≠ P → upd (upd H P (.tbl (ps ++ more))) c' (CodeO c' q) a = some o := fun a o h n => by
    rw [upd_ne (ne_of_none h nc), upd_ne n]; exact h
  refine ⟨fun a o h r => st a o h fun z => r (z ▸ l.rg), Le.refl G, fun a o h => ?_, fun a h => .inl h⟩
  obtain ⟨o', h', z⟩ := le a o h
  exact ⟨o', st a o' h' (fun w => by rw [w, rg P l.rg] at h; cases h), z⟩
def catchD (sub : Str → Str → Bool) (c : Str) : List (Str × D) → (D → Prop) → Prop
  | [], _ => False
  | (c', d) :: l, k => if sub c c' = true then k d else catchD sub c l k
def dLam (LW : Wd → Prop) (XS : List Str) (sub : Str → Str → Bool) (hs : List (Str × D)) (d0 : D) (δ : DE) : DE := fun x ρ n q => LW x.w ∧ δ { x with ex := fun e n' => e.1 ∈ XS ∧ catchD sub e.1 hs fun d => q d n' } ρ n fun _ n' => q d0 n'
section
variable {X : Cx} {W : WX}
end
theorem okC {P : Program} {w : World} {K : PySem.W.Frag} {mg : Str → Option Value} {base : Heap} {x qual : Str} {params : Arguments} {body : List Stmt} {scope : Scope} {dvs : List V} {kws : List (Str × V)} {p : Str × Option Str} {fd : FuncData} {CX : CXT} {N ps : List Str} {k : Nat} {sp : Sp}
    (F : FunD K x qual params body scope dvs kws (He.fAd K p) fd) (S : FnScope N ps scope) (len : ∀ vs H Q E, sp vs H Q E → vs.length = ps.length)
    (hb : ∀ (cdv : Value) (A : Around) (outer : List PySem.Env) (s : Shared) (H : Hp) (vs : List V) (Q : VK) (E : XK), cdv = .ref (He.cT K p).1 → Room k (A.deeper (envOfC qual scope s.heap.objs.size (He.fAd K p) cdv)) → sp vs H Q E →
      ∃ t, PSs (cxOf CX P w K mg base N qual scope (He.fAd K p) cdv A outer s H E) body t ∧ t { nx := fun _ H' => Q .non H', rt := Q } (L2.start N vs) H) : FnOk P w K mg base CX (k + 1) (He.fAd K p) fd ps sp := by
  obtain ⟨oc, od, dV, kV, doc, pm, an, cdv, ct, osl, rfl, lk, hcd, _, _⟩ := F.ex
  obtain ⟨c, rfl⟩ := He.codeIn_ref hcd
  have e : (He.cT K p).1 = c := He.codeOf_eq lk rfl
  exact fn_of lk hcd S len fun A outer s H vs Q E hr hsp => hb (.ref c) A outer s H vs Q E (by rw [e]) hr hsp
abbrev LW (K : PySem.W.Frag) (x : Str) (W : Wd) : Prop := LamW W (He.cT K (x, none)).2 (x ++ ".<locals>.<lambda>")
abbrev AlL : Type := He.AlD × Bool
structure SaysL (fa : List He.Fa) (fn : List He.DefD) (tf : List He.Defn) (ex : PySem.W.Frag → Bool) (h : Heap) (K : PySem.W.Frag) : Prop where
  d : He.SaysD fa fn K
  more : ex K = true
  tabs : ∀ p ∈ tf, PySem.W.codeHdIn K (He.cT K p).1 (He.cT K p).2 = true ∧ K.lookup (He.cT K p).2 = none ∧ h.get? (He.cT K p).2 = some { cls := .none, data := .fields #[] }
end DL

end

section
set_option autoImplicit false
namespace DL
open PySem PySem.Spec L2
theorem RepL.dropLast {K : PySem.W.Frag} {G : Hp} {ds : List D} {vs : List V} (r : RepL K G ds vs) : RepL K G ds.dropLast vs.dropLast := by
  rw [List.dropLast_eq_take, List.dropLast_eq_take, ← r.length]
  exact r.take _
def dPop (i : Nat) : DS := fun E ρ n => match ρ[i]? with
  | some (some (.own (.lst ds))) => ds ≠ [] ∧ E.nx (ρ.set i (some (.own (.lst ds.dropLast)))) n
  | _ => False
def dPop0 (i : Nat) : DS := fun E ρ n => match ρ[i]? with
  | some (some (.own (.lst ds))) => ds ≠ [] ∧ E.nx (ρ.set i (some (.own (.lst ds.tail)))) n
  | _ => False
section
variable {X : Cx} {W : WX} {pos pos' apos cpos p0 : Pos} {x : Str} {j : Nat}
theorem pf_list {e : Expr} {α' : DA} {p : Pos} (hg : Gl X "list") (hm : X.mg "list" = none) (ha : PAB X W [e] α') (hst : starEach [e] X.env = (false, eval e X.env) :: starEach [] X.env := by rfl) (hpl : (backTo pos (starEach [] X.env)).any (·.1) = false := by rfl) :
    PF X W (.Call (.Name "list" p) [e] [] pos) (dCB fList α') := by
  obtain ⟨t, pa, ea⟩ := ha
  refine ⟨_, pe_callTy call_list_of hg hm (by decide +kernel) pa (by decide) (by decide) hst hpl, fun B σ H ρ n G α Q x q hK R hx hd k => ?_⟩
  refine ea B σ H ρ n G α _ x _ hK R hx hd fun vs H1 G1 ds n1 s1 j1 r hf => ?_
  unfold fList f1 at hf
  split at hf
  · rename_i d
    obtain ⟨v, rfl, r0⟩ := r.one
    split at hf
    · rename_i es e
      obtain ⟨a, us, e1, hs, r1⟩ := r0.seq s1.hh e
      subst e1
      refine ⟨a, us, rfl, hs, fun l np => ?_⟩
      have s := StepP.laid (o := .lst us) s1.hh np
      have nr : ¬ B.W.rg l := fun r => B.W.there n1 H1 l j1 r np
      have h0 : H l = none := by
        cases e : H l with
        | none => rfl
        | some o => rw [s1.fr l o e nr] at np; cases np
      have g0 : G1 l = none := by
        cases e : G1 l with
        | none => rfl
        | some o =>
          obtain ⟨o', e', _⟩ := s1.hh l o e
          rw [np] at e'; cases e'
      exact k l _ _ (.lst es) n1 (s1.trans (s.step j1)) (s.J j1) h0 g0 nr ⟨us, upd_same, r1⟩ hf
    · exact hf.elim
  · exact hf.elim
end
end DL

end

section
set_option autoImplicit false
namespace DL
open PySem PySem.Spec L2

section
variable {X : Cx} {CX : CXT} {k : Nat} {C p g : Addr} {mc : Value} {sp : Sp} {fd : FuncData} {ps : List Str} {dvs : List V} {ds : List Value} {E : St → XK} {o e : Expr} {es : List Expr} {m : Str} {pos apos : Pos} {ta : TE} {t : TA} {pl : Sem Bool}
theorem run_fnSDc {pins : List (Addr × Obj)} {σ : St} {H : Hp} {s : Shared} {Q : VK} {us : List Value} {vs : List V} (F : FnOk X.prog X.w X.K X.mg X.base CX k g fd ps sp) (hr : Room k X.A) (hb : Binds X.K fd ps ds) (hd : Vals dvs ds) (hx : PassesAt CX X σ (E σ))
    (I : Inv X pins σ H s) (r : Vals vs us) (h : sp (vs ++ dvs) H Q (E σ)) : codeAny (model X.prog X.w) X.A (Code.call (.ref g) ⟨us, []⟩) (fun r s' => match r with
      | .ok (.ret v) => EP X pins σ Q v s'
      | .ok _ => False
      | .error e => X.xe e s') s := by
  have r2 : Vals (vs ++ dvs) (us ++ ds) := r.append hd
  have hl : (us ++ ds).length = ps.length := by rw [← r2.length]; exact F.len _ _ _ _ h
  refine codeAny_mono (F.run X.A X.stack s H ⟨us, []⟩ (us ++ ds) (vs ++ dvs) Q (E σ) hr I.env0 (hb s us I.kIn hl) r2 h) fun r s' hq => ?_
  cases r with
  | error e => exact hx pins H s e s' I hq
  | ok fl =>
    cases fl with
    | ret u => exact I.after hq
    | next => exact False.elim hq
    | brk => exact False.elim hq
    | cont => exact False.elim hq
theorem run_cmSD {pins : List (Addr × Obj)} {σ : St} {H : Hp} {s : Shared} {q : Addr} {Q : VK} {us : List Value} {vs : List V} (F : FnOk X.prog X.w X.K X.mg X.base CX k g fd ps sp) (hr : Room k X.A) (hb : Binds X.K fd ps ds) (hd : Vals dvs ds) (hx : PassesAt CX X σ (E σ))
    (I : Inv X ((q, PySem.W.methodObj (.ref g) (.ref C)) :: pins) σ H s) (r : Vals vs us) (h : sp (.ref C :: (vs ++ dvs)) H Q (E σ)) : wpAny (model X.prog X.w) X.A (call (.ref q) us) (EP X pins σ Q) X.xe s := by
  have z : wpAny (model X.prog X.w) X.A (call (.ref q) us) (EP X ((q, PySem.W.methodObj (.ref g) (.ref C)) :: pins) σ Q) X.xe s :=
    wpAny_call (PySem.W.method_call (ClX.pin_at I) (run_fnSDc (us := .ref C :: us) (vs := .ref C :: vs) F hr hb hd hx I (.cons rfl r) h))
  exact thn z fun _ _ y => ClX.unpinE y
def tCMethSD (C : Addr) (sp : Sp) (dvs : List V) (E : St → XK) (ta : TE) (t : TA) : TE := fun σ H Q => ta σ H fun x H1 => x = .ref C ∧ t σ H1 fun vs H2 => sp (.ref C :: (vs ++ dvs)) H2 Q (E σ)
theorem pe_cmethSD (he : PE X o ta) (r : ClX.CRead X.K C mc) (c : ClX.CMet X.K C mc m p g) (F : FnOk X.prog X.w X.K X.mg X.base CX k g fd ps sp) (hr : Room k X.A) (hb : Binds X.K fd ps ds) (hd : Vals dvs ds) (hx : ∀ σ, PassesAt CX X σ (E σ)) (ha : PA X (e :: es) t)
    (hst : starEach (e :: es) X.env = (false, eval e X.env) :: starEach es X.env := by rfl) (hpl : (backTo pos (starEach es X.env)).any (·.1) = false := by rfl)
    (ht : eval (.Call (.Attribute o m apos) (e :: es) [] pos) X.env = (do
      let ov ← eval o X.env
      standAt apos.atName
      let (f, first) ← holding [ov] (getMethod ov m pl)
      callWith pos f first (backTo pos (starEach (e :: es) X.env)) (backToKw pos (keywordEach [] X.env))) := by rfl) :
    PE X (.Call (.Attribute o m apos) (e :: es) [] pos) (tCMethSD C sp dvs E ta t) := by
  refine ⟨fun pins s σ H Q I h => ?_⟩
  refine PySem.W.methodCall_KW (pl := pl) (thn (he.run pins s σ H _ I h) fun u s1 ⟨x, H1, I1, rx, ex, q⟩ => ?_) ht
  subst ex
  obtain rfl : u = Value.ref C := rx
  refine ClX.getmethcm_ok I1 r c fun s2 I2 => ?_
  refine ClX.callwith_cm I2 (ClX.base_none I1 (Nat.le_refl _)) c.fi (thn (ha.run pos _ s2 σ H1 _ I2 q) fun us s3 ⟨vs, H2, I3, rv, q2⟩ => ⟨⟨ClX.pin_at I3, I3.kIn⟩, ?_⟩) hst hpl
  exact run_cmSD F hr hb hd (hx σ) I3 rv q2
end
def cF (K : PySem.W.Frag) (c : Str) (F : DF) : DF := fun W ds n q x => ∃ r, ds = .hnd (ca K c) :: r ∧ F W r n q x
structure Cg (P : Program) (w : World) (K : PySem.W.Frag) (mg : Str → Option Value) (base : Heap) (c x : Str) (k m : Nat) (F : DF) (dvd : List D) : Prop where
  gl : mg c = some (.ref (ca K c))
  rd : ClX.CRead K (ca K c) (.type "type")
  ex : ∃ (p g : Addr) (fd : FuncData) (ps : List Str) (ds : List Value) (dvs : List V), FnOk P w K mg base (L2.CX P w) k g fd ps (spW K m (cF K c F)) ∧ ClX.CMet K (ca K c) (.type "type") x p g ∧ Binds K fd ps ds ∧ Vals dvs ds ∧ ∀ G, RepL K G dvd dvs
def dCMeth (m : Nat) (F : DF) (dvd : List D) (a : DA) : DE := fun x ρ n q => a x ρ n fun ds n1 => (ds ++ dvd).length + 1 = m ∧ F x.w (ds ++ dvd) n1 q x.ex
section
variable {X : Cx} {W : WX} {k m : Nat} {F : DF} {FI : DFI} {dvd : List D} {x c y : Str} {p pos apos : Pos} {e o : Expr} {es : List Expr} {a : DA} {δ : DE}
theorem ed_cmeth {K : PySem.W.Frag} {dvs : List V} {t : TA} (hd : ∀ G, RepL K G dvd dvs) (ha : EA K W t a) : ED K W (tCMethSD (ca K c) (spW K m (cF K c F)) dvs (WE W) (tC (.ref (ca K c))) t) (dCMeth m F dvd a) := by
  intro B σ H ρ n G α Q x q hK R hx h k
  refine ⟨rfl, ?_⟩
  refine ha B σ H ρ n G α _ x _ hK R hx h fun vs H1 G1 ds n1 s1 j1 r1 h1 => ?_
  have R1 := R.step s1 j1
  have hx1 := hx.step s1
  obtain ⟨hl, h1⟩ := h1
  rw [hx.1] at h1
  exact ⟨B.W, n1, G1, .hnd (ca K c) :: (ds ++ dvd), q, x.ex, s1.hh, R1.rg, j1, .cons (.hnd _) (r1.append (hd G1)), hl, ⟨_, rfl, h1⟩, fun v H' G' d n' s j r hq => k v H' G' d n' (s1.trans s) j r hq, fun cc dd H' G' e n' s j r hq => hx1.2 cc dd H' G' e n' s j (hK ▸ r) hq⟩
theorem pd_cmeth {pl : Sem Bool} (S : Cg X.prog X.w X.K X.mg X.base c y k m F dvd) (hr : Room k X.A) (tk : Takes X W) (hg : Gl X c) (ha : PAD X W (e :: es) a) (hdb : (c == ("__debug__" : Str)) = false := by decide)
    (hst : starEach (e :: es) X.env = (false, eval e X.env) :: starEach es X.env := by rfl) (hpl : (backTo pos (starEach es X.env)).any (·.1) = false := by rfl)
    (ht : eval (.Call (.Attribute (.Name c p) y apos) (e :: es) [] pos) X.env = (do
      let ov ← eval (.Name c p) X.env
      standAt apos.atName
      let (f, first) ← holding [ov] (getMethod ov y pl)
      callWith pos f first (backTo pos (starEach (e :: es) X.env)) (backToKw pos (keywordEach [] X.env))) := by rfl) : PD X W (.Call (.Attribute (.Name c p) y apos) (e :: es) [] pos) (dCMeth m F dvd a) := by
  obtain ⟨t, pa, ea⟩ := ha
  obtain ⟨pp, g, fd, ps, ds, dvs, hF, hm, hb, hd, hdv⟩ := S.ex
  exact ⟨_, pe_cmethSD (pe_glob (v := .ref (ca X.K c)) hg S.gl rfl hdb) S.rd hm hF hr hb hd (fun σ => passAt tk σ) pa hst hpl ht, ed_cmeth hdv ea⟩
def tMakeVSD (i : Nat) (C : Addr) (sp : Sp) (dvs : List V) (E : St → XK) (t : TA) : TE := fun σ H Q => σ[i]? = some (some (.ref C)) ∧ tMakeSD C sp dvs E t σ H Q
theorem pe_makeVSD {CX : CXT} {i : Nat} {C f : Addr} {fd : FuncData} {ps : List Str} {sp : Sp} {dvs : List V} {ds : List Value} {E : St → XK} {t : TA} (M : Mk X.K C f) (F : FnOk X.prog X.w X.K X.mg X.base CX k f fd ps sp) (hr : Room (k + 1) X.A) (hN : X.N[i]? = some x) (hv : Vis X.env.scope x) (hb : Binds X.K fd ps ds) (hd : Vals dvs ds) (hx : ∀ σ, PassesAt CX X σ (E σ))
    (ha : PA X (e :: es) t) (hdb : (x == ("__debug__" : Str)) = false := by decide) (hcd : (x == ("__classdict__" : Str)) = false := by decide) (he : starEach (e :: es) X.env = (false, eval e X.env) :: starEach es X.env := by rfl) (hpl : (backTo pos (starEach es X.env)).any (·.1) = false := by rfl) :
    PE X (.Call (.Name x p) (e :: es) [] pos) (tMakeVSD i C sp dvs E t) := by
  refine ⟨fun pins s σ H Q I h => ?_⟩
  obtain ⟨hs, h⟩ := h
  refine wpAny_Call_Name_kw (thn ((pe_var (pos := p) hN hv hdb hcd).run pins s σ H (fun v H1 => v = .ref C ∧ H1 = H) I ⟨.ref C, hs, rfl, rfl⟩) fun u s1 ⟨v, H1, I1, r1, q1⟩ => ?_)
  obtain ⟨rfl, rfl⟩ := q1
  cases r1
  refine PySem.W.callWith_K (h₀ := X.base) I.ok.mod.kin M.kp (thn (ha.run pos pins s1 σ _ _ I1 h) fun us s1 ⟨vs, H1, I1, r, q⟩ => ⟨I1.kIn, ?_⟩) he hpl
  exact run_makeSD M F hr hb hd (hx σ) I1 r q
def dMakeV (i : Nat) (C : Addr) (c : Str) (m : Nat) (F : DFI) (dvd : List D) (a : DA) : DE := fun x ρ n q => ρ[i]? = some (some (.val (.hnd C))) ∧ dMake c m F dvd a x ρ n q
theorem pd_makeV (i : Nat) (S : Ig X.prog X.w X.K X.mg X.base c k m FI dvd) (hr : Room (k + 1) X.A) (tk : Takes X W) (ha : PAD X W (e :: es) a) (hN : X.N[i]? = some x := by rfl) (hv : Vis X.env.scope x := by first | exact Or.inl rfl | exact Or.inr (Or.inl rfl) | exact Or.inr (Or.inr rfl)) (hdb : (x == ("__debug__" : Str)) = false := by decide) (hcd : (x == ("__classdict__" : Str)) = false := by decide)
    (he : starEach (e :: es) X.env = (false, eval e X.env) :: starEach es X.env := by rfl) (hpl : (backTo pos (starEach es X.env)).any (·.1) = false := by rfl) : PD X W (.Call (.Name x p) (e :: es) [] pos) (dMakeV i (ca X.K c) c m FI dvd a) := by
  obtain ⟨t, pa, ea⟩ := ha
  obtain ⟨f, fd, ps, ds, dvs, hF, hm, hb, hd, hdv⟩ := S.ex
  refine ⟨_, pe_makeVSD (i := i) hm hF hr hN hv hb hd (fun σ => passAt tk σ) pa hdb hcd he hpl, ?_⟩
  intro B σ H ρ n G α Q x q hK R hx h k
  obtain ⟨h0, h⟩ := h
  refine ⟨?_, ed_make hdv ea B σ H ρ n G α Q x q hK R hx h k⟩
  obtain ⟨v, e1, r⟩ := R.val i _ h0
  cases r
  exact e1
end
def rdB (c : Str) (K : PySem.W.Frag) : Bool := PySem.W.readsIn K (ca K c) (.type "type")
theorem rdB_ok {c : Str} {K : PySem.W.Frag} (h : rdB c K = true) : ClX.CRead K (ca K c) (.type "type") := by
  have N : PySem.W.readsIn K (ca K c) (.type "type") = true := h
  refine ⟨N, ?_⟩
  unfold PySem.W.readsIn at N
  obtain ⟨h, _⟩ := He.ba N
  obtain ⟨h, _⟩ := He.ba h
  obtain ⟨h, h3⟩ := He.ba h
  obtain ⟨_, h2⟩ := He.ba h
  unfold PySem.W.specialIn
  rw [beq_iff_eq.mp h2, Option.bind_some]
  exact beq_iff_eq.mp h3
def cmA (c m : Str) (K : PySem.W.Frag) : Addr := He5.wf K (ca K c) "classmethod" m
def cmB (c m : Str) (K : PySem.W.Frag) : Bool := He5.wrapB K (ca K c) "classmethod" "classmethod.__get__" m && PySem.W.fnIn K (cmA c m K)
theorem cmB_ok {c m : Str} {K : PySem.W.Frag} (h : cmB c m K = true) : ClX.CMet K (ca K c) (.type "type") m (He.ma K (ca K c) m) (cmA c m K) := He5.cmet_of (He.ba h).1 (He.ba h).2
abbrev AlN : Type := He.AlD × He.AlD × Bool
structure SaysN (fa : List He.Fa) (fn : List He.DefD) (cf : List He5.DefA) (tf : List He.Defn) (ex : PySem.W.Frag → Bool) (h : Heap) (K : PySem.W.Frag) : Prop where
  d : He.SaysD fa fn K
  cm : He5.SaysA [] cf K
  more : ex K = true
  tabs : ∀ p ∈ tf, PySem.W.codeHdIn K (He.cT K p).1 (He.cT K p).2 = true ∧ K.lookup (He.cT K p).2 = none ∧ h.get? (He.cT K p).2 = some { cls := .none, data := .fields #[] }
def tblOf (K : PySem.W.Frag) (tf : List Str) : List (Addr × Str) := tf.map fun x => ((He.cT K (x, none)).2, x ++ ".<locals>.<lambda>")
def tblB (tf : List Str) (K : PySem.W.Frag) : Bool := decide (((tblOf K tf).map (·.1)).Nodup)
theorem nodup_at {α β : Type} : ∀ {l : List (α × β)}, (l.map (·.1)).Nodup → ∀ {a : α} {b : β}, (a, b) ∈ l → ∀ p ∈ l, p.1 = a → p.2 = b
  | [], _, _, _, h, _, _, _ => nomatch h
  | q :: l, hn, a, b, h, p, hp, e => by
    rw [List.map_cons, List.nodup_cons] at hn
    rcases List.mem_cons.mp h with h | h
    · rcases List.mem_cons.mp hp with hp | hp
      · rw [hp, ← h]
      · exact (hn.1 (by rw [← h]; exact List.mem_map.mpr ⟨p, hp, e⟩)).elim
    · rcases List.mem_cons.mp hp with hp | hp
      · exact (hn.1 (by rw [← hp, e]; exact List.mem_map.mpr ⟨_, h, rfl⟩)).elim
      · exact nodup_at hn.2 h p hp e
end DL

end

section
set_option autoImplicit false
namespace DL
open PySem PySem.Spec L2
section
variable {K : PySem.W.Frag}
def fMin2 : FL := fun ds k => match ds with
  | [.int i, .int j] => k (.int (if j < i then j else i))
  | _ => False
def fMax2 : FL := fun ds k => match ds with
  | [.int i, .int j] => k (.int (if i < j then j else i))
  | _ => False
end
end DL

end

section
set_option autoImplicit false
namespace DL
open PySem PySem.Spec L2
section
variable {M : Model} {A : Around} {E : Value → Shared → Prop} {s : Shared} {env : PySem.Env} {pos : Pos} {first : List Value} {Q : Value → Shared → Prop} {a C dx : Addr}
end
section
variable {X : Cx} {pins : List (Addr × Obj)} {σ : L2.St} {H : Hp} {s : Shared} {CX : CXT} {k : Nat} {f C dx a : Addr} {fd : FuncData} {ps : List Str} {sp : Sp} {E : L2.St → XK} {Q : VK} {us : List Value} {vs : List V} {fs : List (Str × V)}
end
section
variable {X : Cx} {W : WX} {k m : Nat} {F : DF} {x c : Str} {p pos : Pos} {e : Expr} {es : List Expr} {a : DA}
def dCallO (i : Nat) (c : Str) (m : Nat) (F : DF) (a : DA) : DE := fun x ρ n q => match ρ[i]? with
  | some (some (.val (.obj c' fs))) => c' = c ∧ a x ρ n fun ds n1 => ds.length + 1 = m ∧ F x.w (.obj c' fs :: ds) n1 q x.ex
  | _ => False
end
end DL

end

section
set_option autoImplicit false
namespace DL
open PySem PySem.Spec L2
section
variable {X : Cx} {W : WX} {a b c : Expr} {δa δb : DE} {τa : DT} {pos : Pos}
def fRepL : F2 := fun x y k => match x, y with
  | .lst a, .int j => (-(2 ^ 63) ≤ j ∧ j < 2 ^ 63 ∧ a.length * j.toNat ≤ 16777216) ∧ k (.lst (List.replicate j.toNat a).flatten)
  | _, _ => False
end
end DL

end

section
set_option autoImplicit false
namespace DL
open PySem PySem.Spec L2
section
variable {X : Cx} {K : PySem.W.Frag} {W : WX} {a b c : Expr} {δa δb : DE} {pos : Pos}
def fMulS : F2 := fun x y k => match x, y with
  | .str a, .int j => (0 ≤ j ∧ j < 2 ^ 62 ∧ a.length * j.toNat ≤ 16777216) ∧ ∀ z, k (.str z)
  | _, _ => False
end
end DL

end

section
set_option autoImplicit false
namespace DL
open PySem PySem.Spec L2
section
variable {X : Cx} {W : WX} {k m : Nat} {F : DF} {c : Str} {pos : Pos} {o e : Expr} {es : List Expr} {a : DA} {δ : DE}
def dCallX (c : Str) (m : Nat) (F : DF) (δ : DE) (a : DA) : DE := fun x ρ n q => δ x ρ n fun d n1 => match d with
  | .obj c' fs => c' = c ∧ a x ρ n1 fun ds n2 => ds.length + 1 = m ∧ F x.w (.obj c' fs :: ds) n2 q x.ex
  | _ => False
end
end DL

end

section
set_option autoImplicit false
namespace DL
open PySem PySem.Spec L2
section
variable {prog : Program} {w : World} {A : Around} {E : Value → Shared → Prop} {s : Shared} {x : Addr}
theorem bool_meets : MeetsIn prog w (Builtin.«bool.__new__» ⟨[.type "bool", .ref x], []⟩) (fun A R s => wpAny (model prog w) A.in1 (truthy (.ref x)) (fun b s' => R (.ok (.ret (.bool b))) s') (fun e s' => R (.error e) s') s) :=
  .of_wp fun A R s h => by
    unfold Builtin.«bool.__new__»
    refine wpAny_bind (wpAny_of_eq (a := true) (show isType (.type "bool") = pure true by kernel_rfl) ?_)
    refine PySem.W.KFB.if_not rfl ?_
    refine wpAny_bind (wpAny_of_eq (a := true) PySem.F.conv_sub_bool ?_)
    refine PySem.W.KFB.if_not rfl ?_
    refine wpAny_bind (wpAny_of_eq (a := [.ref x]) (by rfl) ?_)
    refine wpAny_bind (wpAny_mono h (fun b s' hb => ?_) fun _ _ y => y)
    exact wpAny_pure ⟨_, rfl, hb⟩
theorem call_bool_obj {Q : Value → Shared → Prop} (h : wpAny (model prog w) A.in1.in1 (truthy (.ref x)) (fun b s' => Q (.bool b) s') E s) : wpAny (model prog w) A (call (.type "bool") [.ref x]) Q E s :=
  PySem.callType_newIn PySem.F.called_bool PySem.F.newNe_bool (PySem.F.typeCall_bool_1 _) (PySem.F.newCall_bool_1 _) (fun obj => PySem.F.args_object_init_2 obj _) PySem.F.entry_bool_new bool_meets (wpAny_mono h (fun b s' hb => ⟨rfl, hb⟩) fun _ _ y => y)
end
section
variable {X : Cx} {pins : List (Addr × Obj)} {σ : L2.St} {H : Hp} {s : Shared} {CX : CXT} {k : Nat} {f : Addr} {fd : FuncData} {ps : List Str} {sp : Sp} {E : L2.St → XK} {Q : VK} {us : List Value} {vs : List V} {A : Around}
theorem run_in (F : FnOk X.prog X.w X.K X.mg X.base CX k f fd ps sp) (hr : Room k A) (e0 : Env0 X.prog X.w X.K X.mg X.base A X.stack s H) (hb : Binds X.K fd ps []) (hx : PassesAt CX X σ (E σ)) (I : Inv X pins σ H s) (r : Vals vs us) (h : sp vs H Q (E σ)) :
    wpAny (model X.prog X.w) A (call (.ref f) us) (EP X pins σ Q) X.xe s := by
  have hl : (us ++ []).length = ps.length := by
    have e := r.length
    rw [F.len _ _ _ _ h] at e
    rw [List.append_nil]
    exact e.symm
  have hbb := hb _ us I.kIn hl
  rw [List.append_nil] at hbb
  refine wpAny_call (codeAny_mono (F.run _ X.stack _ _ ⟨us, []⟩ us _ _ (E σ) hr e0 hbb r h) fun r s' hq' => ?_)
  cases r with
  | error e => exact hx pins _ _ e s' I hq'
  | ok fl =>
    cases fl with
    | ret u => exact I.after hq'
    | next => exact False.elim hq'
    | brk => exact False.elim hq'
    | cont => exact False.elim hq'
end
section
variable {X : Cx} {W : WX} {k : Nat} {f C : Addr} {fd : FuncData} {ps : List Str} {sp : Sp} {E : L2.St → XK} {a b e : Expr} {es : List Expr} {ta tb : TE} {t : TA} {x : Str} {p pos : Pos} {c : Str} {F : DF} {δa δb : DE} {α' : DA} {CS : List Str}
def tBoolO (C : Addr) (sp : Sp) (E : L2.St → XK) (t : TA) : TE := fun σ H Q => t σ H fun vs H1 => ∃ a dx fs, vs = [.ref a] ∧ H1 a = some (.ins C dx fs) ∧ sp [.ref a] H1 (fun v H2 => ∃ b, v = .bl b ∧ Q (.bl b) H2) (E σ)
theorem pe_boolO {CX : CXT} (hm : Meth X.K C "__bool__" f) (F : FnOk X.prog X.w X.K X.mg X.base CX k f fd ps sp) (hr : Room (k + 2) X.A) (hb : Binds X.K fd ps []) (hx : ∀ σ, PassesAt CX X σ (E σ)) (hg : Gl X x) (hmg : X.mg x = none) (hv : bootBuiltins x = some (.type "bool")) (ha : PA X (e :: es) t) (hn : x ≠ "__name__" := by decide) (hdb : (x == ("__debug__" : Str)) = false := by decide)
    (he : starEach (e :: es) X.env = (false, eval e X.env) :: starEach es X.env := by rfl) (hpl : (backTo pos (starEach es X.env)).any (·.1) = false := by rfl) : PE X (.Call (.Name x p) (e :: es) [] pos) (tBoolO C sp E t) := by
  refine ⟨fun pins s σ H Q I hw => ?_⟩
  refine wpAny_Call_Name_kw (ld_blt I hg hmg hv ?_ hn hdb)
  refine PyProof.Rows.callWith_type1 (thn (ha.run pos pins s σ H _ I hw) fun us s1 ⟨vs, H1, I1, r1, p, dx, fs, ev, ea, hsp⟩ => ?_) he hpl
  subst ev
  have r0 := r1
  obtain rfl := Vals.ref1 r1
  obtain ⟨mA, J, _⟩ := ins_get I1.hok ea
  obtain ⟨od, J, _⟩ := J.look
  obtain ⟨mm, hF⟩ := I1.fr
  have hr2 : Room k X.A.in1.in1 := (show Room (k + 1) X.A.in1 from Room.in1 hr).in1
  refine call_bool_obj (PySem.W.truthy_K hF I1.ok.mod.kin J hm.at_ hm.fn ?_)
  refine wpAny_mono (run_in F hr2 I1.env0.in1.in1 hb (hx σ) I1 r0 hsp) (fun w s' z => ?_) fun _ _ h => h
  obtain ⟨z', H', I', rz, b, ez, qz⟩ := z
  subst ez
  obtain rfl : w = Value.bool b := rz
  exact ⟨.bl b, H', I', rfl, qz⟩
def dBoolO (c : Str) (F : DF) (α' : DA) : DE := fun x ρ n q => α' x ρ n fun us n1 => ∃ fs, us = [.obj c fs] ∧ F x.w us n1 (fun d n2 => match d with
  | .bl b => q (.bl b) n2
  | _ => False) x.ex
def dLenO (c : Str) (F : DF) (α' : DA) : DE := fun x ρ n q => α' x ρ n fun us n1 => ∃ fs, us = [.obj c fs] ∧ F x.w us n1 (fun d n2 => match d with
  | .int i => (0 ≤ i ∧ i < 2 ^ 63) ∧ q (.int i) n2
  | _ => False) x.ex
def dInO (ng : Bool) (c : Str) (F : DF) (a b : DE) : DE := fun x ρ n q => a x ρ n fun u n1 => b x ρ n1 fun v n2 => (∃ fs, v = .obj c fs) ∧ F x.w [v, u] n2 (fun d n3 => match d with
  | .bl b => q (.bl (b != ng)) n3
  | _ => False) x.ex
theorem pd_boolO (S : Mg X.prog X.w X.K X.mg X.base c "__bool__" k 1 F []) (hr : Room (k + 2) X.A) (tk : Takes X W) (ha : PAD X W (e :: es) α') (hg : Gl X x) (hmg : X.mg x = none) (hv : bootBuiltins x = some (.type "bool") := by decide +kernel) (hn : x ≠ "__name__" := by decide) (hdb : (x == ("__debug__" : Str)) = false := by decide)
    (he : starEach (e :: es) X.env = (false, eval e X.env) :: starEach es X.env := by rfl) (hpl : (backTo pos (starEach es X.env)).any (·.1) = false := by rfl) : PD X W (.Call (.Name x p) (e :: es) [] pos) (dBoolO c F α') := by
  obtain ⟨t, pa, ea⟩ := ha
  obtain ⟨f, fd, ps, ds, dvs, hF, hm, hbd, hd, hdv⟩ := S.ex
  have ev : dvs = [] := by
    have z := (hdv (fun _ => none)).length
    exact List.length_eq_zero_iff.mp z.symm
  subst ev
  cases hd
  refine ⟨_, pe_boolO hm hF hr hbd (fun σ => passAt tk σ) hg hmg hv pa hn hdb he hpl, fun B σ H ρ n G α Q x q hK R hx h kk => ?_⟩
  refine ea B σ H ρ n G α _ x _ hK R hx h fun vs H1 G1 ds n1 s1 j1 r1 h1 => ?_
  have R1 := R.step s1 j1
  obtain ⟨fs, rfl, h1⟩ := h1
  rw [hx.1] at h1
  have rr := r1
  cases rr with
  | cons ro rt =>
    cases rt
    cases ro with
    | obj e r =>
      refine ⟨_, _, _, rfl, s1.hh.get e, B.W, n1, G1, _, _, x.ex, s1.hh, R1.rg, j1, r1, rfl, h1, fun v H' G' d n' s j r hq => ?_, fun cc dd H' G' e n' s j r hq => (hx.step s1).2 cc dd H' G' e n' s j (hK ▸ r) hq⟩
      cases d with
      | bl b => cases r; exact ⟨b, rfl, kk (.bl b) H' G' (.bl b) n' (s1.trans s) j (.bl b) hq⟩
      | _ => exact hq.elim
end
end DL

end

section
set_option autoImplicit false
namespace DL
open PySem PySem.Spec PySem.SeqAt L2
open AutoSeq1 (wpAny_loadPart')
open MeetsSeq MeetsSeq2 MeetsSeq3 SeqRoads2
section
variable {prog : Program} {w : World} {A : Around} {R : Result → Shared → Prop}
def opN (neg : Bool) : Int := if neg = true then 3 else 2
def LsT (prog : Program) (w : World) (A : Around) (E : Value → Shared → Prop) (l m : Addr) (N : Nat) (b : Nat → Bool) (J : Shared → Prop) : Prop :=
  ∀ s, J s → ∃ (xs ys : Array Value) (k k' : Nat), s.heap.get? l = some { cls := .type "list", data := .seq xs k } ∧ s.heap.get? m = some { cls := .type "list", data := .seq ys k' } ∧ xs.size = N ∧ ys.size = N ∧
    ∀ (i : Nat) (h1 : i < xs.size) (h2 : i < ys.size), wpAny (model prog w) A.in1 (eqBool xs[i] ys[i]) (fun r s' => r = b i ∧ J s') E s
def allB (b : Nat → Bool) (i : Nat) : Nat → Bool
  | 0 => true
  | k + 1 => b i && allB b (i + 1) k
theorem loop_eqB (neg : Bool) (l m : Addr) (N : Nat) (b : Nat → Bool) (J : Shared → Prop) (hl : LsT prog w A (fun e s' => R (.error e) s') l m N b J) (k : Nat) :
    ∀ i : Nat, N - i = k → i ≤ N → (∀ s, J s → R (.ok (.ret (.bool (allB b i k != neg)))) s) → ∀ s, J s →
      wpAny (model prog w) A.in1 (Builtin.«list.__eq__.loop» ⟨[.ref l, .ref m, rawInt i, rawInt (opN neg)], []⟩) (GQ.FinOf prog w A R) (fun e s' => R (.error e) s') s := by
  induction k with
  | zero =>
    intro i hk hi fin s hJ
    obtain ⟨xs, ys, n, n2, hx, hy, sx, sy, _⟩ := hl _ hJ
    have hR := fin s hJ
    obtain ⟨hp, g, d, tk, os⟩ := s
    have nx : xs[((i : Nat) : Int).toNat]? = none := by simp; omega
    have ny : ys[((i : Nat) : Int).toNat]? = none := by simp; omega
    cases neg
    · wp_walk using wpAny_loadPart' hx, wpAny_loadPart' hy
      rw [nx, ny]
      wp_walk using wpAny_loadPart' hx, wpAny_loadPart' hy
      show R (.ok (.ret (.bool (xs.size == ys.size)))) _
      rw [sx, sy, beq_self_eq_true]
      exact hR
    · wp_walk using wpAny_loadPart' hx, wpAny_loadPart' hy
      rw [nx, ny]
      wp_walk using wpAny_loadPart' hx, wpAny_loadPart' hy
      show R (.ok (.ret (.bool (xs.size != ys.size)))) _
      rw [sx, sy, bne_self_eq_false]
      exact hR
  | succ k ih =>
    intro i hk hi fin s hJ
    obtain ⟨xs, ys, n, n2, hx, hy, sx, sy, turn⟩ := hl _ hJ
    have ix : i < xs.size := by omega
    have iy : i < ys.size := by omega
    have ht := turn i ix iy
    have gx : xs[((i : Nat) : Int).toNat]? = some xs[i] := by simp [ix]
    have gy : ys[((i : Nat) : Int).toNat]? = some ys[i] := by simp [iy]
    have go : ∀ (s2 : Shared), J s2 → b i = true → wpAny (model prog w) A.in1 (Builtin.«list.__eq__.loop» ⟨[.ref l, .ref m, rawInt (i + 1 : Nat), rawInt (opN neg)], []⟩) (GQ.FinOf prog w A R) (fun e s' => R (.error e) s') s2 := fun s2 j2 hb =>
      ih (i + 1) (by omega) (by omega) (fun s' j' => by
        have := fin s' j'
        rwa [allB, hb, Bool.true_and] at this) s2 j2
    have stop : ∀ (s2 : Shared), J s2 → b i = false → R (.ok (.ret (.bool neg))) s2 := fun s2 j2 hb => by
      have := fin s2 j2
      rw [allB, hb, Bool.false_and] at this
      cases neg <;> exact this
    obtain ⟨hp, g, d, tk, os⟩ := s
    cases neg
    · wp_walk using wpAny_loadPart' hx, wpAny_loadPart' hy
      rw [gx, gy]
      refine wpAny_bind (wpAny_mono ht (fun r s2 h2 => ?_) fun _ _ z => z)
      obtain ⟨hr, j2⟩ := h2
      cases hb : b i with
      | true =>
        rw [hb] at hr
        subst hr
        have nxt := go s2 j2 hb
        obtain ⟨hp2, g2, d2, tk2, os2⟩ := s2
        wp_walk
        rw [show ((i : Int) + 1) = ((i + 1 : Nat) : Int) by omega]
        refine ⟨plainId_quiet plain_eq_loop _, codeAny_builtin entry_eq_loop ?_⟩
        rw [Around.under_plainId plain_eq_loop _]
        exact nxt
      | false =>
        rw [hb] at hr
        subst hr
        have hR := stop s2 j2 hb
        obtain ⟨xs2, ys2, n3, n4, hx2, hy2, sx2, sy2, _⟩ := hl _ j2
        obtain ⟨hp2, g2, d2, tk2, os2⟩ := s2
        have hx3 : i < xs2.size := by omega
        have hy3 : i < ys2.size := by omega
        wp_walk using wpAny_loadPart' hx2, wpAny_loadPart' hy2
        rw [show xs2[((i : Nat) : Int).toNat]? = some xs2[i] by simp [hx3], show ys2[((i : Nat) : Int).toNat]? = some ys2[i] by simp [hy3]]
        wp_walk
        exact hR
    · wp_walk using wpAny_loadPart' hx, wpAny_loadPart' hy
      rw [gx, gy]
      refine wpAny_bind (wpAny_mono ht (fun r s2 h2 => ?_) fun _ _ z => z)
      obtain ⟨hr, j2⟩ := h2
      cases hb : b i with
      | true =>
        rw [hb] at hr
        subst hr
        have nxt := go s2 j2 hb
        obtain ⟨hp2, g2, d2, tk2, os2⟩ := s2
        wp_walk
        rw [show ((i : Int) + 1) = ((i + 1 : Nat) : Int) by omega]
        refine ⟨plainId_quiet plain_eq_loop _, codeAny_builtin entry_eq_loop ?_⟩
        rw [Around.under_plainId plain_eq_loop _]
        exact nxt
      | false =>
        rw [hb] at hr
        subst hr
        have hR := stop s2 j2 hb
        obtain ⟨xs2, ys2, n3, n4, hx2, hy2, sx2, sy2, _⟩ := hl _ j2
        obtain ⟨hp2, g2, d2, tk2, os2⟩ := s2
        have hx3 : i < xs2.size := by omega
        have hy3 : i < ys2.size := by omega
        wp_walk using wpAny_loadPart' hx2, wpAny_loadPart' hy2
        rw [show xs2[((i : Nat) : Int).toNat]? = some xs2[i] by simp [hx3], show ys2[((i : Nat) : Int).toNat]? = some ys2[i] by simp [hy3]]
        show wpAny _ _ (ret (.bool true)) _ _ _
        exact wpAny_pure hR
theorem list_neB (l m : Addr) (N : Nat) (b : Nat → Bool) (J : Shared → Prop) (hl : LsT prog w A (fun e s' => R (.error e) s') l m N b J) (fin : ∀ s, J s → R (.ok (.ret (.bool (!allB b 0 N)))) s) {s : Shared} (h : J s) :
    wpAny (model prog w) A.in1 (Builtin.«list.__ne__» ⟨[.ref l, .ref m], []⟩) (GQ.FinOf prog w A R) (fun e s' => R (.error e) s') s := by
  obtain ⟨xs, ys, n, n2, hx, hy, sx, sy, _⟩ := hl _ h
  have nxt := loop_eqB (A := A) (R := R) true l m N b J hl N 0 rfl (Nat.zero_le _) (fun s' j' => by
    have := fin s' j'
    rwa [show (allB b 0 N != true) = !allB b 0 N by cases allB b 0 N <;> rfl]) s h
  obtain ⟨hp, g, d, tk, os⟩ := s
  have f3 := AutoSeq1.sub_list_list
  have hne : ¬ (xs.size != ys.size) = true := by simp [sx, sy]
  wp_walk using wpAny_loadPart' hx, wpAny_loadPart' hy
  refine ⟨plainId_quiet plain_eq_loop _, codeAny_builtin entry_eq_loop ?_⟩
  rw [Around.under_plainId plain_eq_loop _]
  exact nxt
theorem list_neD (l m : Addr) (xs ys : Array Value) (n n2 : Nat) {s : Shared} (hx : s.heap.get? l = some { cls := .type "list", data := .seq xs n }) (hy : s.heap.get? m = some { cls := .type "list", data := .seq ys n2 }) (ne : xs.size ≠ ys.size) (fin : R (.ok (.ret (.bool true))) s) :
    wpAny (model prog w) A.in1 (Builtin.«list.__ne__» ⟨[.ref l, .ref m], []⟩) (GQ.FinOf prog w A R) (fun e s' => R (.error e) s') s := by
  obtain ⟨hp, g, d, tk, os⟩ := s
  have f3 := AutoSeq1.sub_list_list
  have hne : (xs.size != ys.size) = true := by simpa using ne
  wp_walk using wpAny_loadPart' hx, wpAny_loadPart' hy
  exact fin
end
end DL

end

section
set_option autoImplicit false
namespace DL
open PySem PySem.Spec PySem.SeqAt L2
open AutoSeq1 (wpAny_loadPart')
open MeetsSeq MeetsSeq2 MeetsSeq3 SeqRoads2
section
variable {prog : Program} {w : World} {A : Around} {R : Result → Shared → Prop}
end
end DL

end

section
set_option autoImplicit false
namespace DL
open PySem PySem.Spec L2
mutual
def Sh : D → D → Prop
  | .lst a, .lst b => ShL a b
  | .tup a, .tup b => ShL a b
  | .dct a, .dct b => ShK a b
  | .obj c a, .obj c' b => c = c' ∧ ShF a b
  | .int _, .int _ => True
  | .str _, .str _ => True
  | .bl _, .bl _ => True
  | .non, .non => True
  | _, _ => False
def ShL : List D → List D → Prop
  | a :: as, b :: bs => Sh a b ∧ ShL as bs
  | _, _ => True
def ShK : List (Key × D) → List (Key × D) → Prop
  | (_, a) :: as, (_, b) :: bs => Sh a b ∧ ShK as bs
  | _, _ => True
def ShF : List (Str × D) → List (Str × D) → Prop
  | (_, a) :: as, (_, b) :: bs => Sh a b ∧ ShF as bs
  | _, _ => True
end
section
variable {X : Cx} {pins : List (Addr × Obj)} {σ : L2.St} {H G : Hp} {s : Shared}
mutual
theorem Rep.inj (I : Inv X pins σ H s) (le : Le G H) : ∀ {u v : D} {x : V}, Rep X.K G u x → Rep X.K G v x → Sh u v → u = v
  | _, _, _, .non, r, h => by cases r <;> first | rfl | exact h.elim
  | _, _, _, .bl b, r, h => by cases r <;> first | rfl | exact h.elim
  | _, _, _, .int i, r, h => by cases r <;> first | rfl | exact h.elim
  | _, _, _, .str x, r, h => by cases r <;> first | rfl | exact h.elim
  | _, _, _, .lst e t, r, h => by
    cases r with
    | lst e' t' =>
      rw [e] at e'
      cases e'
      unfold Sh at h
      rw [RepL.inj I le t t' h]
    | _ => unfold Sh at h; exact h.elim
  | _, _, _, .tup e t, r, h => by
    cases r with
    | tup e' t' =>
      have z := I.tuple_inj (le.sqT e) (le.sqT e')
      subst z
      unfold Sh at h
      rw [RepL.inj I le t t' h]
    | _ => unfold Sh at h; exact h.elim
  | _, _, _, .dct e t, r, h => by
    cases r with
    | dct e' t' =>
      rw [e] at e'
      cases e'
      unfold Sh at h
      rw [RepK.inj I le t t' h]
    | _ => unfold Sh at h; exact h.elim
  | _, _, _, .obj e t, r, h => by
    cases r with
    | obj e' t' =>
      unfold Sh at h
      obtain ⟨rfl, h⟩ := h
      rw [e] at e'
      cases e'
      rw [RepF.inj I le t t' h]
    | _ => unfold Sh at h; exact h.elim
  | _, _, _, .hnd a, r, h => by unfold Sh at h; exact h.elim
  | _, _, _, .exc _ _, r, h => by unfold Sh at h; exact h.elim
  | _, _, _, .rol _ _, r, h => by unfold Sh at h; exact h.elim
theorem RepL.inj (I : Inv X pins σ H s) (le : Le G H) : ∀ {u v : List D} {x : List V}, RepL X.K G u x → RepL X.K G v x → ShL u v → u = v
  | _, _, _, .nil, r, _ => by
    cases r
    rfl
  | _, _, _, .cons r t, q, h => by
    cases q with
    | cons r' t' =>
      unfold ShL at h
      rw [Rep.inj I le r r' h.1, RepL.inj I le t t' h.2]
theorem RepK.inj (I : Inv X pins σ H s) (le : Le G H) : ∀ {u v : List (Key × D)} {x : List (Key × V)}, RepK X.K G u x → RepK X.K G v x → ShK u v → u = v
  | _, _, _, .nil, r, _ => by
    cases r
    rfl
  | _, _, _, .cons r t, q, h => by
    cases q with
    | cons r' t' =>
      unfold ShK at h
      rw [Rep.inj I le r r' h.1, RepK.inj I le t t' h.2]
theorem RepF.inj (I : Inv X pins σ H s) (le : Le G H) : ∀ {u v : List (Str × D)} {x : List (Str × V)}, RepF X.K G u x → RepF X.K G v x → ShF u v → u = v
  | _, _, _, .nil, r, _ => by
    cases r
    rfl
  | _, _, _, .cons r t, q, h => by
    cases q with
    | cons r' t' =>
      unfold ShF at h
      rw [Rep.inj I le r r' h.1, RepF.inj I le t t' h.2]
end
end
def EqX (Q : Str → D → D → Bool → Prop) : Nat → D → D → Bool → Prop
  | 0, u, v, r => flatD u = true ∧ flatD v = true ∧ r = eqD u v
  | k + 1, u, v, r => (flatD u = true ∧ flatD v = true ∧ r = eqD u v) ∨
      (∃ us vs, ((u = .lst us ∧ v = .lst vs) ∨ (u = .tup us ∧ v = .tup vs)) ∧ us.length = vs.length ∧ ∃ b : Nat → Bool, r = allB b 0 us.length ∧ ∀ i x y, us[i]? = some x → vs[i]? = some y → EqX Q k x y (b i)) ∨
      (∃ us vs, u = .lst us ∧ v = .lst vs ∧ us.length ≠ vs.length ∧ r = false) ∨
      (∃ c fs gs, u = .obj c fs ∧ v = .obj c gs ∧ Q c u v r ∧ Sh u v ∧ (u = v → r = true)) ∨
      (∃ ks ls, u = .dct ks ∧ v = .dct ls ∧ (ks.all fun q => flatD q.2) = true ∧ (ls.all fun q => flatD q.2) = true ∧ r = (ks.length == ls.length && eqKD ks ls) ∧ Sh u v ∧ (u = v → r = true))
section
variable {X : Cx} {pins : List (Addr × Obj)} {σ : L2.St} {H G : Hp} {s : Shared} {Q : Str → D → D → Bool → Prop}
end
end DL

end

section
set_option autoImplicit false
namespace DL
open PySem PySem.Spec PySem.SeqAt L2
section
variable {prog : Program} {w : World} {A : Around} {E : Value → Shared → Prop} {s : Shared} {l m : Addr} {N : Nat} {b : Nat → Bool} {Q : Value → Shared → Prop} {xs ys : Array Value} {n n2 : Nat}
theorem rc_neB (hu : A.units < cLine) (J : Shared → Prop) (hl : LsT prog w A E l m N b J) (fin : ∀ s, J s → Q (.bool (!allB b 0 N)) s) (h : J s) : wpAny (model prog w) A (richCompare .NotEq (.ref l) (.ref m)) Q E s := by
  obtain ⟨xs, ys, n, n2, hx, hy, _⟩ := hl _ h
  exact wpAny_richCompare_same_room (op := .NotEq) ⟨_, hx, rfl⟩ ⟨_, hy, rfl⟩ F.slot_list_ne (GQ.call_here F.slot_list_ne ⟨_, hx, rfl⟩ F.entry_list_ne (F.args_list_ne_2 _ _)
    (list_neB (R := wants (fun v s' => v ≠ .notImplemented ∧ Q v s') E) l m N b J hl (fun s' q => ⟨(fun z => nomatch z), fin s' q⟩) h)) hu
theorem rc_neD (hu : A.units < cLine) (hx : s.heap.get? l = some { cls := .type "list", data := .seq xs n }) (hy : s.heap.get? m = some { cls := .type "list", data := .seq ys n2 }) (ne : xs.size ≠ ys.size) (fin : Q (.bool true) s) : wpAny (model prog w) A (richCompare .NotEq (.ref l) (.ref m)) Q E s :=
  wpAny_richCompare_same_room (op := .NotEq) ⟨_, hx, rfl⟩ ⟨_, hy, rfl⟩ F.slot_list_ne (GQ.call_here F.slot_list_ne ⟨_, hx, rfl⟩ F.entry_list_ne (F.args_list_ne_2 _ _)
    (list_neD (R := wants (fun v s' => v ≠ .notImplemented ∧ Q v s') E) l m xs ys n n2 hx hy ne ⟨(fun z => nomatch z), fin⟩)) hu
end
section
variable {X : Cx} {W : WX} {Q : Str → D → D → Bool → Prop} {n0 : Nat}
theorem Le.ext {G H H' : Hp} (h : Le G H) (e : Ext H H') : Le G H' := .of_same fun a o z => e a o (h.get z)
variable {a b : Expr} {δa δb : DE} {pos : Pos}
def dEqX (Q : Str → D → D → Bool → Prop) (neg : Bool) (a b : DE) : DE := fun x ρ n q => a x ρ n fun u n1 => b x ρ n1 fun v n2 => ∃ us vs r, u = .lst us ∧ v = .lst vs ∧ EqX Q 4 u v r ∧ q (.bl (r != neg)) n2
end
end DL

end

section
set_option autoImplicit false
namespace DL
open PySem PySem.Spec PyProof.Rows L2
section
variable {X : Cx} {tg : Expr}
end
def iRB (a : DA) : DI := fun x ρ n q => a x ρ n fun ds n1 => match ds with
  | [.int i, .int j] => q (rngD i (j - i).toNat) n1
  | _ => False
section
variable {X : Cx} {W : WX} {tg a b : Expr} {α' : DA} {p pos : Pos}
end
end DL

end

section
set_option autoImplicit false
namespace DL
open PySem PySem.Spec L2
def obsP (as : List Addr) (fa : List He.Fa) (fn : List He.DefD) (cf : List He5.DefA) (tf : List He.Defn) (ex : PySem.W.Frag → Bool) (g : Addr → Option Obj) : AlN := (fun K => (He.obsD fa fn K, He5.obsA [] cf K, ex K && He.tabsB g tf K)) (He.frT g as)
theorem saysP_of {as : List Addr} {fa : List He.Fa} {fn : List He.DefD} {cf : List He5.DefA} {tf : List He.Defn} {ex : PySem.W.Frag → Bool} {h : Heap} (e : obsP as fa fn cf tf ex h.get? = (He.valD fn, He5.valA cf, true)) : SaysN fa fn cf tf ex h (He.frT h.get? as) := by
  have e2 : He5.obsA [] cf (He.frT h.get? as) = He5.valA cf := congrArg (fun z : AlN => z.2.1) e
  obtain ⟨m, t⟩ := He.ba (congrArg (fun z : AlN => z.2.2) e)
  refine ⟨congrArg Prod.fst e, e2, m, fun p hp => ?_⟩
  obtain ⟨t1, t2⟩ := He.ba (List.all_eq_true.mp t p hp)
  cases q : h.get? (He.cT (He.frT h.get? as) p).2 with
  | none => rw [q] at t2; cases t2
  | some o =>
    rw [q] at t2
    exact ⟨t1, He.frT_none q t2, by rw [He.emptyTab_eq t2]⟩
def hookP (as : List Addr) (fa : List He.Fa) (fn : List He.DefD) (cf : List He5.DefA) (tf : List He.Defn) (ex : PySem.W.Frag → Bool) : PySem.W.Hook where
  α := AlN
  obs := fun s => obsP as fa fn cf tf ex s.heap.get?
  val := fun _ => (He.valD fn, He5.valA cf, true)
  says := fun _ h => ∃ K : PySem.W.Frag, K.In h ∧ SaysN fa fn cf tf ex h K
  of := fun _ _ e => ⟨_, He.frT_in, saysP_of e⟩
  keeps := fun _ _ _ ⟨K, hK, c⟩ k => ⟨K, PySem.W.Frag.In.keeps hK k, c.d, c.cm, c.more, fun p hp => ⟨(c.tabs p hp).1, (c.tabs p hp).2.1, k _ _ (c.tabs p hp).2.2⟩⟩
theorem obsP_eq {as : List Addr} {fa : List He.Fa} {fn : List He.DefD} {cf : List He5.DefA} {tf : List He.Defn} {ex : PySem.W.Frag → Bool} {g : Addr → Option Obj} {s : Shared} (h : ∀ a, g a = s.heap.get? a) : obsP as fa fn cf tf ex g = (hookP as fa fn cf tf ex).obs s := by
  obtain rfl : g = s.heap.get? := funext h
  rfl
theorem obsP_join {as : List Addr} {fa : List He.Fa} {fn : List He.DefD} {cf : List He5.DefA} {tf : List He.Defn} {ex : PySem.W.Frag → Bool} {g : Addr → Option Obj} (m : Nat) (h1 : He.obsD fa (fn.take m) (He.frT g as) = He.valD (fn.take m)) (h2 : He.obsD [] (fn.drop m) (He.frT g as) = He.valD (fn.drop m))
    (h3 : (He5.obsA [] cf (He.frT g as), ex (He.frT g as) && He.tabsB g tf (He.frT g as)) = (He5.valA cf, true)) : obsP as fa fn cf tf ex g = (He.valD fn, He5.valA cf, true) := by
  have e : He.obsD fa fn (He.frT g as) = He.valD fn := by
    have t1 := congrArg Prod.fst h1
    have t2 := congrArg Prod.snd h1
    have t3 := congrArg Prod.fst h2
    have t4 := congrArg Prod.snd h2
    simp only [He.obsD, He.valD, List.all_nil, Bool.true_and, Bool.and_eq_true] at t1 t2 t3 t4
    unfold He.obsD He.valD
    have e1 : (fn.all fun d => d.ok (He.frT g as)) = true := by
      rw [← List.take_append_drop m fn, List.all_append, t1.2, t3]; rfl
    have e2 : (fn.map fun d => He.fnW (He.frT g as) d.at_) = fn.map He.DefD.val := by
      rw [← List.take_append_drop m fn, List.map_append, List.map_append, t2, t4]
    rw [e1, e2, t1.1]; rfl
  have e2 := congrArg Prod.fst h3
  have e3 := congrArg Prod.snd h3
  dsimp only at e2 e3
  unfold obsP
  dsimp only
  rw [e, e2, e3]
theorem mapP {α β γ δ ε : Type} {o : Option α} {f : α → β} {g : α → γ} {h : α → δ} {k : α → ε} {a : β} {b : γ} {c : δ} {e : ε} (h1 : o.map f = some a) (h2 : o.map g = some b) (h3 : o.map h = some c) (hk : ∀ s, f s = a → g s = b → h s = c → k s = e) : o.map k = some e := by
  cases o with
  | none => exact nomatch h1
  | some s => exact congrArg some (hk s (Option.some.inj h1) (Option.some.inj h2) (Option.some.inj h3))
end DL

end

section
set_option autoImplicit false
namespace DL
open PySem PySem.Spec L2
def dIns (i : Nat) (δk δv : DE) : DS := fun E ρ n => match ρ[i]? with
  | some (some (.own (.lst ds))) => δk (E.xx ρ) ρ n fun k n1 => δv (E.xx ρ) ρ n1 fun d n2 => (match k with
    | .int z => ds.length < 16777216 ∧ 0 ≤ z ∧ z < 2 ^ 63 ∧ E.nx (ρ.set i (some (.own (.lst (ds.take z.toNat ++ [d] ++ ds.drop z.toNat))))) n2
    | _ => False)
  | _ => False
def dSwap (i : Nat) (δj δk δ : DE) : DS := fun E ρ n => match ρ[i]? with
  | some (some (.own (.lst ds))) => δ (E.xx ρ) ρ n fun d n1 => (match d with
    | .tup [u, v] => δj (E.xx ρ) ρ n1 fun a n2 => (match a with
      | .int z => opt (ixN ds.length z) fun j => δk (E.xx (ρ.set i (some (.own (.lst (ds.set j u)))))) (ρ.set i (some (.own (.lst (ds.set j u))))) n2 fun b n3 => (match b with
        | .int z2 => opt (ixN ds.length z2) fun j2 => E.nx (ρ.set i (some (.own (.lst ((ds.set j u).set j2 v))))) n3
        | _ => False)
      | _ => False)
    | _ => False)
  | _ => False
section
variable {X : Cx} {W : WX} {e k k2 : Expr} {δ δk δj δv : DE} {pos pos' apos cpos p1 p2 a1 a2 pt : Pos} {x : Str}
theorem ps_insD (i : Nat) (hk : PD X W k δk) (he : PD X W e δv) (hN : X.N[i]? = some x := by rfl) (hv : Vis X.env.scope x := by first | exact Or.inl rfl | exact Or.inr (Or.inl rfl) | exact Or.inr (Or.inr rfl)) (hd : (x == ("__debug__" : Str)) = false := by decide)
    (hcd : (x == ("__classdict__" : Str)) = false := by decide) (hst : starEach [k, e] X.env = (false, eval k X.env) :: starEach [e] X.env := by rfl) (hst2 : starEach [e] X.env = [(false, eval e X.env)] := by rfl)
    (hbase : attributeBase (.Name x pos') "insert" X.env (eval (.Name x pos') X.env) = eval (.Name x pos') X.env := by rfl)
    (hfew : ((backTo cpos (starEach [k, e] X.env)).all (fun x => !x.1) && (backToKw cpos (keywordEach [] X.env)).all (fun x => x.1.isSome)
      && decide ([k, e].length + ([] : List Keyword).length + (if ([] : List Keyword).isEmpty then 0 else 1) < 30)) = true := by rfl)
    (hline : (apos.endLine == cpos.line) = true := by rfl) (hplain : (backTo cpos (starEach [e] X.env)).any (·.1) = false := by rfl)
    (hsw : swapsWith (.Call (.Attribute (.Name x pos') "insert" apos) [k, e] [] cpos) none pos.line X.env = pure false := by rfl) : PSD X W (.Expr (.Call (.Attribute (.Name x pos') "insert" apos) [k, e] [] cpos) pos) (dIns i δk δv) := by
  obtain ⟨t, p, h⟩ := he
  obtain ⟨tk, pk, ek⟩ := hk
  refine ⟨_, ps_expr (pe_bm PySem.F.plainAttrs_list PySem.F.slot_list_insert PySem.F.type_list_insert mt_insert (pe_var hN hv hd hcd) (pa_cons pk (pa_cons p pa_nil hst2) hst) hbase hfew hline hst hplain) hsw, fun B σ H ρ n G α D E hK R L hd => ?_⟩
  unfold dIns at hd
  split at hd
  · rename_i ds eo
    obtain ⟨e1, hg, h0, nr, vs, hH, rl⟩ := R.own i _ eo
    refine ⟨_, e1, .inl ⟨rfl, _, SqL.of hH⟩, ?_⟩
    refine ek B σ H ρ n G α _ _ _ hK R (L.xl R) hd fun kv H1 G1 kd n1 s1 j1 r1 hq1 => ?_
    have R1 := R.step s1 j1
    refine h B σ H1 ρ n1 G1 α _ _ _ hK R1 (L.xl R1) hq1 fun v H' G' d n' s j r hq => ?_
    have R' := R1.step s j
    obtain ⟨_, hg', _, _, vs', hH', rl'⟩ := R'.own i _ eo
    cases kd with
    | int z =>
      obtain ⟨q1, q2, q3, q4⟩ := hq
      cases r1
      refine ⟨α i, vs', z, v, rfl, rfl, hH', by rw [sizeLine_eq, ← rl'.length]; exact q1, q2, q3, ?_⟩
      exact L.nx σ _ _ n' G' α (R'.write (d' := .lst (ds.take z.toNat ++ [d] ++ ds.drop z.toNat)) (o := .lst (vs'.take z.toNat ++ [v] ++ vs'.drop z.toNat)) eo ⟨_, upd_same, ((rl'.take _).append (.cons (hK ▸ r) .nil)).append (rl'.drop _)⟩) q4
    | _ => exact hq.elim
  · exact hd.elim
end
end DL

end

section
set_option autoImplicit false
namespace DL
open PySem PySem.Spec L2
def isLL (ds : List D) : Prop := ∀ e ∈ ds, ∃ l, e = .lst l
def rowLike : D → Prop
  | .lst (x :: xs) => ∀ y ∈ x :: xs, ∃ kvs, y = .dct kvs ∧ (kvs.all fun q => flatD q.2) = true
  | _ => False
def delG (G : Hp) (a : Addr) : Hp := fun b => if b = a then none else G b
theorem delG_ne {G : Hp} {a b : Addr} (h : b ≠ a) : delG G a b = G b := if_neg h
theorem delG_same {G : Hp} {a : Addr} : delG G a a = none := if_pos rfl
section
variable {K : PySem.W.Frag} {G G' : Hp}
theorem Rep.flatG {d : D} {v : V} (h : flatD d = true) (r : Rep K G d v) : Rep K G' d v := by
  cases r with
  | non => exact .non
  | bl b => exact .bl b
  | int i => exact .int i
  | str x => exact .str x
  | _ => cases h
theorem RepK.flatG : ∀ {ks : List (Key × D)} {ws : List (Key × V)}, RepK K G ks ws → (ks.all fun q => flatD q.2) = true → RepK K G' ks ws
  | _, _, .nil, _ => .nil
  | _, _, .cons r t, h => by
    rw [List.all_cons, Bool.and_eq_true_iff] at h
    exact .cons (r.flatG h.1) (RepK.flatG t h.2)
end
theorem RelB.freezeL {B : Bs} {σ : St} {H : Hp} {ρ : Env} {n : Nat} {G : Hp} {α : Nat → Addr} (R : RelB B σ H ρ n G α) {i : Nat} {ds : List D} (h : ρ[i]? = some (some (.own (.lst ds)))) :
    ∃ vs, H (α i) = some (.lst vs) ∧ RepL B.K G ds vs ∧ RelB B σ H (ρ.set i (some (.val (.lst ds)))) n (upd G (α i) (.lst vs)) α := by
  obtain ⟨e1, hg, h0, nr, vs, hH, rl⟩ := R.own i _ h
  have il : i < ρ.length := (List.getElem?_eq_some_iff.mp h).1
  have l2 : Le G (upd G (α i) (.lst vs)) := .of_same fun b u q => by rw [upd_ne (ne_of_none q hg)]; exact q
  have l1 : Le (upd G (α i) (.lst vs)) H := fun b u q => by
    by_cases z : b = α i
    · subst z
      rw [upd_same] at q
      cases q
      exact ⟨_, hH, rfl⟩
    · rw [upd_ne z] at q
      exact R.le b u q
  refine ⟨vs, hH, rl, R.st.frozen h0 nr (fun _ _ => rfl) l1 l2, fun a q => ?_, R.J, by rw [List.length_set, R.len], fun j e hj => ?_, fun j e hj => ?_, fun j k e f hj hk => R.inj j k e f (set_val_own hj) (set_val_own hk), fun a e h h' => R.p0 a e h (set_val_own h'), R.gh.frz h (fun _ _ => rfl) (fun b ne => upd_ne ne) l2⟩
  · rw [upd_ne (fun z : a = α i => nr (z ▸ q))]
    exact R.rg a q
  · rw [List.getElem?_set] at hj
    by_cases z : i = j
    · subst z
      rw [if_pos rfl, if_pos il] at hj
      injection hj with hj; injection hj with hj; injection hj with hj
      subst hj
      exact ⟨_, e1, .lst upd_same (rl.mono l2)⟩
    · rw [if_neg z] at hj
      obtain ⟨v, h1, h2⟩ := R.val j e hj
      exact ⟨v, h1, h2.mono l2⟩
  · rw [List.getElem?_set] at hj
    by_cases z : i = j
    · subst z
      rw [if_pos rfl, if_pos il] at hj
      injection hj with hj; injection hj with hj; cases hj
    · rw [if_neg z] at hj
      obtain ⟨h1, h2, h3, h4, h5⟩ := R.own j e hj
      have ne : α j ≠ α i := fun q => z (R.inj i j _ e h hj q.symm)
      exact ⟨h1, by rw [upd_ne ne]; exact h2, h3, h4, h5.mono l2 fun _ q => q⟩
def dSetT (k i : Nat) (δ : DE) : DS := fun E ρ n => match ρ[i]? with
  | some (some (.own (.lst ds))) => isLL ds ∧ δ (x0 E.w) (ρ.set i (some (.val (.lst ds)))) n fun d n1 => rowLike d ∧ E.nx (ρ.set k (some (.val d))) n1
  | _ => False
section
variable {X : Cx} {W : WX} {e : Expr} {δ : DE} {pos pos' : Pos} {x : Str}
end
end DL

end

section
set_option autoImplicit false
namespace DL
open PySem PySem.Spec L2 PyProof.Rows
section
variable {X : Cx} {W : WX} {a : Addr} {oe : Obj} {cls : Value} {d : Option Addr} {pn : List (Addr × Obj)} {e : Expr} {δ : DE} {C f : Str} {pos : Pos}
end
abbrev Cl3 : Type := Value × Option Nat × (Addr → Value → Option Addr → TS)
def endA (D : Ends) : Option Nat → Ends
  | none => D
  | some i => { nx := fun τ Z => D.nx (τ.set i none) Z, rt := D.rt, bk := fun τ Z => D.bk (τ.set i none) Z, ct := fun τ Z => D.ct (τ.set i none) Z }
inductive ClsA (X : Cx) : List ExceptHandler → List Cl3 → Prop
  | nil : ClsA X [] []
  | plain {x : Str} {c : Value} {ts : Addr → Value → Option Addr → TS} {s0 : Stmt} {su : List Stmt} {p1 p2 : Pos} {hs : List ExceptHandler} {l : List Cl3} (hc : Names X x c)
      (hsu : ∀ (a : Addr) (ob : Obj) (cl : Value) (d : Option Addr) (pn : List (Addr × Obj)), Zc cl d ob → (∃ us, ob.data = .fields us) → PSs (X.suite a ((a, ob) :: pn)) (s0 :: su) (ts a cl d)) (r : ClsA X hs l) :
      ClsA X (.ExceptHandler (some (.Name x p1)) none (s0 :: su) p2 :: hs) ((c, none, ts) :: l)
  | named {x y : Str} {i : Nat} {c : Value} {ts : Addr → Value → Option Addr → TS} {s0 : Stmt} {su : List Stmt} {p1 p2 : Pos} {hs : List ExceptHandler} {l : List Cl3} (hN : X.N.Nodup) (hi : X.N[i]? = some y) (hy : X.env.kindOf y = some .local) (hc : Names X x c)
      (hsu : ∀ (a : Addr) (ob : Obj) (cl : Value) (d : Option Addr) (pn : List (Addr × Obj)), Zc cl d ob → (∃ us, ob.data = .fields us) → PSs (X.suite a ((a, ob) :: pn)) (s0 :: su) (ts a cl d)) (r : ClsA X hs l) :
      ClsA X (.ExceptHandler (some (.Name x p1)) (some y) (s0 :: su) p2 :: hs) ((c, some i, ts) :: l)
section
variable {X : Cx} {bd : List Stmt} {k0 : ExceptHandler} {ks : List ExceptHandler} {l : List Cl3} {pos : Pos} {tb : WX → TS} {Wo : WX}
end
end DL

end

section
set_option autoImplicit false
namespace DL
open PySem PySem.Spec L2
abbrev Cl4 : Type := Str × Option Nat × (Addr → Value → Option Addr → DS)
def noX (E : DEnds) : DEnds := { E with ex := fun _ _ _ => False }
def ends1 (E : DEnds) (i : Nat) : DEnds := { noX E with nx := fun ρ n => E.nx (ρ.set i none) n, bk := fun ρ n => E.bk (ρ.set i none) n, ct := fun ρ n => E.ct (ρ.set i none) n }
inductive ClsD (X : Cx) : List ExceptHandler → List Cl4 → Prop
  | nil : ClsD X [] []
  | plain {c : Str} {s : Addr → Value → Option Addr → DS} {s0 : Stmt} {su : List Stmt} {p1 p2 : Pos} {hs : List ExceptHandler} {l : List Cl4} (hc : Names X c (.ref (ca X.K c)))
      (hsu : ∀ (a : Addr) (oe : Obj) (cls : Value) (d : Option Addr) (pn : List (Addr × Obj)), Zc cls d oe → (∃ us, oe.data = .fields us) → PSsD (X.suite a ((a, oe) :: pn)) W0 (s0 :: su) (s a cls d)) (r : ClsD X hs l) :
      ClsD X (.ExceptHandler (some (.Name c p1)) none (s0 :: su) p2 :: hs) ((c, none, s) :: l)
  | named {c y : Str} {i : Nat} {s : Addr → Value → Option Addr → DS} {s0 : Stmt} {su : List Stmt} {p1 p2 : Pos} {hs : List ExceptHandler} {l : List Cl4} (hi : X.N[i]? = some y) (hy : X.env.kindOf y = some .local) (hc : Names X c (.ref (ca X.K c)))
      (hsu : ∀ (a : Addr) (oe : Obj) (cls : Value) (d : Option Addr) (pn : List (Addr × Obj)), Zc cls d oe → (∃ us, oe.data = .fields us) → PSsD (X.suite a ((a, oe) :: pn)) W0 (s0 :: su) (s a cls d)) (r : ClsD X hs l) :
      ClsD X (.ExceptHandler (some (.Name c p1)) (some y) (s0 :: su) p2 :: hs) ((c, some i, s) :: l)
theorem RelB.gone {B : Bs} {σ : L2.St} {H : Hp} {ρ : Env} {n : Nat} {G : Hp} {α : Nat → Addr} (R : RelB B σ H ρ n G α) (i : Nat) : RelB B (σ.set i none) H (ρ.set i none) n G α := R.wipe [i]
theorem Lk.one {B : Bs} {W : WX} {D : Ends} {E : DEnds} (L : Lk B W D E) (i : Nat) : Lk B W0 (endA D (some i)) (ends1 E i) :=
  ⟨fun _ _ _ _ _ _ R h => L.nx _ _ _ _ _ _ (R.gone i) h, L.rt, fun _ _ _ _ _ _ R h => L.bk _ _ _ _ _ _ (R.gone i) h, fun _ _ _ _ _ _ R h => L.ct _ _ _ _ _ _ (R.gone i) h, fun _ _ _ _ _ _ _ _ _ _ _ z => z, L.w, L.ro⟩
section
variable {X : Cx} {W : WX} {body : List Stmt} {k0 : ExceptHandler} {ks : List ExceptHandler} {pos : Pos} {b : DS} {XS : List Str} {sub : Str → Str → Bool} {l : List Cl4}
end
end DL

end

section
set_option autoImplicit false
namespace DL
open PySem PySem.Spec L2
def dPar4 (i j k l : Nat) (a b c d : DSl) : DS := fun E ρ n => a (E.xx ρ) ρ n fun u1 n1 => b (E.xx ρ) ρ n1 fun u2 n2 => c (E.xx ρ) ρ n2 fun u3 n3 => d (E.xx ρ) ρ n3 fun u4 n4 => E.nx ((((ρ.set i (some u1)).set j (some u2)).set k (some u3)).set l (some u4)) n4
section
variable {X : Cx} {W : WX} {a b c d : Expr} {δ1 δ2 δ3 δ4 : DSl} {pos : Pos} {x y z u : Str}
end
end DL

end

section
set_option autoImplicit false
namespace DL
open PySem PySem.Spec L2
def gTl (m : Nat) (a : DGs) : DG := fun d ρ q => match d with
  | .lst ds => ds.length = m ∧ a ds ρ q
  | _ => False
section
variable {X : Cx} {pos : Pos}
end
def dPar3 (i1 i2 i3 : Nat) (a1 a2 a3 : DSl) : DS := fun E ρ n => a1 (E.xx ρ) ρ n fun u1 n1 => a2 (E.xx ρ) ρ n1 fun u2 n2 => a3 (E.xx ρ) ρ n2 fun u3 n3 => E.nx (((ρ.set i1 (some u1)).set i2 (some u2)).set i3 (some u3)) n3
section
variable {X : Cx} {W : WX} {a1 a2 a3 : Expr} {δ1 δ2 δ3 : DSl} {pos : Pos} {x1 x2 x3 : Str}
end
def dPar5 (i1 i2 i3 i4 i5 : Nat) (a1 a2 a3 a4 a5 : DSl) : DS := fun E ρ n => a1 (E.xx ρ) ρ n fun u1 n1 => a2 (E.xx ρ) ρ n1 fun u2 n2 => a3 (E.xx ρ) ρ n2 fun u3 n3 => a4 (E.xx ρ) ρ n3 fun u4 n4 => a5 (E.xx ρ) ρ n4 fun u5 n5 => E.nx (((((ρ.set i1 (some u1)).set i2 (some u2)).set i3 (some u3)).set i4 (some u4)).set i5 (some u5)) n5
section
variable {X : Cx} {W : WX} {a1 a2 a3 a4 a5 : Expr} {δ1 δ2 δ3 δ4 δ5 : DSl} {pos : Pos} {x1 x2 x3 x4 x5 : Str}
end
end DL

end

section
set_option autoImplicit false
namespace DL
open PySem PySem.Spec PyProof.Rows L2
def sel {α : Type} (is : List Nat) (l : List α) : List α := is.flatMap fun i => (l.drop i).take 1
theorem sel_nil {α : Type} (l : List α) : sel [] l = [] := rfl
theorem sel_cons {α : Type} (i : Nat) (is : List Nat) (l : List α) : sel (i :: is) l = (l.drop i).take 1 ++ sel is l := rfl
def KBs (K : PySem.W.Frag) (fd : FuncData) (ps : List Str) (n : Nat) (ks : List Str) (is : List Nat) (dvs : List V) : Prop := ∃ its : List Value, KBn K fd ps n ks (fun us ws => sel is (us ++ (ws ++ its))) (fun vs zs => sel is (vs ++ (zs ++ dvs)))
section
variable {K : PySem.W.Frag} {x qual : Str} {params : Arguments} {body : List Stmt} {scope : Scope} {dvs : List V} {kws : List (Str × V)} {f : Addr} {fd : FuncData} {ps : List Str}
end
section
variable {X : Cx} {CX : CXT} {k n : Nat} {f C : Addr} {fd : FuncData} {ps ks : List Str} {sp : Sp} {E : L2.St → XK} {x m : Str} {p pos apos : Pos} {e o : Expr} {es : List Expr} {kws : List Keyword} {ta : TE} {t tk : TA} {is : List Nat} {dvs : List V}
end
section
variable {X : Cx} {CX : CXT} {k n : Nat} {C p g : Addr} {mc : Value} {sp : Sp} {fd : FuncData} {ps ks : List Str} {dvs : List V} {E : L2.St → XK} {o e : Expr} {es : List Expr} {m : Str} {pos apos : Pos} {ta : TE} {t tk : TA} {pl : Sem Bool} {kws : List Keyword} {is : List Nat}
end

structure SgK (P : Program) (w : World) (K : PySem.W.Frag) (mg : Str → Option Value) (base : Heap) (x : Str) (k m : Nat) (F : DF) (ks : List Str) (is : List Nat) (dvd : List D) : Prop where
  ex : ∃ (f : Addr) (fd : FuncData) (ps : List Str) (dvs : List V), FnOk P w K mg base (L2.CX P w) k f fd ps (spW K m F) ∧ mg x = some (.ref f) ∧ PySem.W.keepIn K (.ref f) = true ∧ KBs K fd ps 0 ks is dvs ∧ ∀ G, RepL K G dvd dvs
structure MgK (P : Program) (w : World) (K : PySem.W.Frag) (mg : Str → Option Value) (base : Heap) (c x : Str) (k m : Nat) (F : DF) (n : Nat) (ks : List Str) (is : List Nat) (dvd : List D) : Prop where
  cl : Cls K (ca K c)
  ex : ∃ (f : Addr) (fd : FuncData) (ps : List Str) (dvs : List V), FnOk P w K mg base (L2.CX P w) k f fd ps (spW K m F) ∧ Meth K (ca K c) x f ∧ KBs K fd ps n ks is dvs ∧ ∀ G, RepL K G dvd dvs
structure IgK (P : Program) (w : World) (K : PySem.W.Frag) (mg : Str → Option Value) (base : Heap) (c : Str) (k m : Nat) (F : DFI) (ks : List Str) (js : List Nat) (dvd : List D) : Prop where
  gl : mg c = some (.ref (ca K c))
  ex : ∃ (f : Addr) (fd : FuncData) (ps : List Str) (dvs : List V), FnOk P w K mg base (L2.CX P w) k f fd ps (spI K c m F) ∧ Mk K (ca K c) f ∧ KBs K fd ps 1 ks (0 :: js.map (· + 1)) dvs ∧ ∀ G, RepL K G dvd dvs
structure CgK (P : Program) (w : World) (K : PySem.W.Frag) (mg : Str → Option Value) (base : Heap) (c x : Str) (k m : Nat) (F : DF) (ks : List Str) (js : List Nat) (dvd : List D) : Prop where
  gl : mg c = some (.ref (ca K c))
  rd : ClX.CRead K (ca K c) (.type "type")
  ex : ∃ (p g : Addr) (fd : FuncData) (ps : List Str) (dvs : List V), FnOk P w K mg base (L2.CX P w) k g fd ps (spW K m (cF K c F)) ∧ ClX.CMet K (ca K c) (.type "type") x p g ∧ KBs K fd ps 1 ks (0 :: js.map (· + 1)) dvs ∧ ∀ G, RepL K G dvd dvs
def dCallK (m : Nat) (F : DF) (l : Nat) (is : List Nat) (dvd : List D) (a : DA) : DE := fun x ρ n q => a x ρ n fun es n1 => es.length = l ∧ (sel is (es ++ dvd)).length = m ∧ F x.w (sel is (es ++ dvd)) n1 q x.ex
def dMethK0 (c y : Str) (m : Nat) (F : DF) (l : Nat) (is : List Nat) (dvd : List D) (δ : DE) (a : DA) : DE := fun x ρ n q => δ x ρ n fun d n1 => match d with
  | .obj c' fs => c' = c ∧ fs.lookup y = none ∧ a x ρ n1 fun es n2 => es.length = l ∧ (sel is (.obj c' fs :: (es ++ dvd))).length = m ∧ F x.w (sel is (.obj c' fs :: (es ++ dvd))) n2 q x.ex
  | _ => False
def dMethK (c y : Str) (m : Nat) (F : DF) (np l : Nat) (is : List Nat) (dvd : List D) (δ : DE) (b a : DA) : DE := fun x ρ n q => δ x ρ n fun d n1 => match d with
  | .obj c' fs => c' = c ∧ fs.lookup y = none ∧ b x ρ n1 fun us n2 => a x ρ n2 fun es n3 => us.length + 1 = np ∧ es.length = l ∧ (sel is (.obj c' fs :: us ++ (es ++ dvd))).length = m ∧ F x.w (sel is (.obj c' fs :: us ++ (es ++ dvd))) n3 q x.ex
  | _ => False
def dMakeK (c : Str) (m : Nat) (F : DFI) (l : Nat) (js : List Nat) (dvd : List D) (a : DA) : DE := fun x ρ n q => a x ρ n fun es n1 => es.length = l ∧ (sel js (es ++ dvd)).length + 1 = m ∧ F x.w (sel js (es ++ dvd)) n1 (fun fs n2 => q (.obj c fs) n2) x.ex
def dCMethK (m : Nat) (F : DF) (l : Nat) (js : List Nat) (dvd : List D) (a : DA) : DE := fun x ρ n q => a x ρ n fun es n1 => es.length = l ∧ (sel js (es ++ dvd)).length + 1 = m ∧ F x.w (sel js (es ++ dvd)) n1 q x.ex
section
variable {X : Cx} {W : WX} {k m : Nat} {F : DF} {FI : DFI} {dvd : List D} {x c y nm : Str} {p pos apos kpos : Pos} {e o : Expr} {es : List Expr} {a b : DA} {δ : DE} {kws : List Keyword} {ks : List Str} {is js : List Nat}
end
end DL

end

section
set_option autoImplicit false
namespace DL
open PySem PySem.Spec PyProof.Rows L2
def fInX (neg : Bool) : F2 := fun x y k => match y with
  | .lst ds => SeqAt.shaped (pyD x) = true ∧ SeqAt.shaped (pyD (.lst ds)) = true ∧ k (.bl (if neg then !ds.any (fun z => PyData.eqv (pyD z) (pyD x)) else ds.any fun z => PyData.eqv (pyD z) (pyD x)))
  | _ => False
section
variable {K : PySem.W.Frag}
end
section
variable {X : Cx} {W : WX} {a b : Expr} {δa δb : DE} {pos : Pos}
end
end DL

end

section
set_option autoImplicit false
namespace DL
open PySem PySem.Spec L2
mutual
def nrD : D → Bool
  | .lst ds => nrL ds
  | .tup ds => nrL ds
  | .dct ks => nrK ks
  | .obj _ fs => nrF fs
  | .exc _ _ _ fs => nrF fs
  | .rol _ => false
  | _ => true
def nrL : List D → Bool
  | [] => true
  | d :: ds => nrD d && nrL ds
def nrK : List (Key × D) → Bool
  | [] => true
  | (_, d) :: ds => nrD d && nrK ds
def nrF : List (Str × D) → Bool
  | [] => true
  | (_, d) :: ds => nrD d && nrF ds
end
section
variable {K : PySem.W.Frag} {G : Hp} {a : Addr} {o : Obj} {xs : List V}
theorem SqT.off {b : Addr} {vs : List V} (hm : G a = some (.frz o (.lst xs))) (e : SqT K G b vs) : SqT K (delG G a) b vs := by
  rcases e with (e | ⟨x, e⟩) | e
  · exact .inl (.inl ((delG_ne fun z => by rw [z, hm] at e; cases e).trans e))
  · exact .inl (.inr ⟨x, (delG_ne fun z => by rw [z, hm] at e; cases e).trans e⟩)
  · exact .inr e
mutual
theorem Rep.nr (hm : G a = some (.frz o (.lst xs))) : ∀ {d : D} {v : V}, nrD d = true → Rep K G d v → Rep K (delG G a) d v
  | _, _, _, .non => .non
  | _, _, _, .bl b => .bl b
  | _, _, _, .int i => .int i
  | _, _, _, .str x => .str x
  | _, _, h, .lst e r => .lst ((delG_ne fun z => by rw [z, hm] at e; cases e).trans e) (RepL.nr hm (by simpa [nrD] using h) r)
  | _, _, h, .tup e r => .tup (SqT.off hm e) (RepL.nr hm (by simpa [nrD] using h) r)
  | _, _, h, .dct e r => .dct ((delG_ne fun z => by rw [z, hm] at e; cases e).trans e) (RepK.nr hm (by simpa [nrD] using h) r)
  | _, _, h, .obj e r => .obj ((delG_ne fun z => by rw [z, hm] at e; cases e).trans e) (RepF.nr hm (by simpa [nrD] using h) r)
  | _, _, _, .hnd a => .hnd a
  | _, _, h, .exc e r => .exc ((delG_ne fun z => by rw [z, hm] at e; cases e).trans e) (RepF.nr hm (by simpa [nrD] using h) r)
  | _, _, h, .rol _ _ => by simp [nrD] at h
theorem RepL.nr (hm : G a = some (.frz o (.lst xs))) : ∀ {d : List D} {v : List V}, nrL d = true → RepL K G d v → RepL K (delG G a) d v
  | _, _, _, .nil => .nil
  | _, _, h, .cons r t => by
    rw [nrL, Bool.and_eq_true_iff] at h
    exact .cons (Rep.nr hm h.1 r) (RepL.nr hm h.2 t)
theorem RepK.nr (hm : G a = some (.frz o (.lst xs))) : ∀ {d : List (Key × D)} {v : List (Key × V)}, nrK d = true → RepK K G d v → RepK K (delG G a) d v
  | _, _, _, .nil => .nil
  | _, _, h, .cons r t => by
    rw [nrK, Bool.and_eq_true_iff] at h
    exact .cons (Rep.nr hm h.1 r) (RepK.nr hm h.2 t)
theorem RepF.nr (hm : G a = some (.frz o (.lst xs))) : ∀ {d : List (Str × D)} {v : List (Str × V)}, nrF d = true → RepF K G d v → RepF K (delG G a) d v
  | _, _, _, .nil => .nil
  | _, _, h, .cons r t => by
    rw [nrF, Bool.and_eq_true_iff] at h
    exact .cons (Rep.nr hm h.1 r) (RepF.nr hm h.2 t)
end
end
def dSetR (k i : Nat) (δ : DE) : DS := fun E ρ n => match ρ[i]? with
  | some (some (.own (.lst ds))) => δ (x0 E.w) (ρ.set i (some (.val (.rol ds)))) n fun d n1 => nrD d = true ∧ E.nx (ρ.set k (some (.val d))) n1
  | _ => False
section
variable {X : Cx} {W : WX} {e : Expr} {δ : DE} {pos pos' : Pos} {x : Str}
end
section
variable {X : Cx} {W : WX} {k m : Nat} {F : DF} {dvd : List D} {c y : Str} {pos apos : Pos} {e o : Expr} {es : List Expr} {a : DA} {δ : DE}
end
end DL

end

section
set_option autoImplicit false
namespace DL
open PySem PySem.Spec PyProof PyProof.Rows L2
def dAugIx (i : Nat) (f : Int → Int → Int) (δk δv : DE) : DS := fun E ρ n => match ρ[i]? with
  | some (some (.own (.lst ds))) => δk (E.xx ρ) ρ n fun k n1 => (match k with
    | .int z => opt (ixN ds.length z) fun j => 0 ≤ z ∧ z < 2 ^ 62 ∧ δv (E.xx ρ) ρ n1 fun v n2 => (match ds[j]?, v with
      | some (.int a), .int b => E.nx (ρ.set i (some (.own (.lst (ds.set j (.int (f a b))))))) n2
      | _, _ => False)
    | _ => False)
  | _ => False
section
variable {X : Cx} {W : WX} {e k : Expr} {δ δk δv : DE} {pos pos' apos cpos : Pos} {x : Str}
end
end DL

end

section
set_option autoImplicit false
namespace DL
open PySem PySem.Spec PyProof PyProof.Rows L2
def fIsB (neg : Bool) : F2 := fun x y k => match x, y with
  | .bl a, .bl b => k (.bl (decide (a = b) != neg))
  | _, _ => False
section
variable {K : PySem.W.Frag}
theorem dop_isB : DOp K (fun x y H Q => ∃ a b, x = .bl a ∧ y = .bl b ∧ Q (.bl (decide (a = b))) H) (fIsB false) := by
  intro W H G x y dx dy Q k le rx ry hf hk
  cases dx with
  | bl a =>
    cases dy with
    | bl b =>
      refine ⟨a, b, rx.bl, ry.bl, hk _ H G _ (.refl le) (.bl _) ?_⟩
      have h : k (.bl (decide (a = b) != false)) := hf
      rwa [show (decide (a = b) != false) = decide (a = b) from by cases decide (a = b) <;> rfl] at h
    | _ => exact hf.elim
  | _ => exact hf.elim
end
section
variable {X : Cx} {W : WX} {a b : Expr} {δa δb : DE} {pos : Pos}
theorem pd_isB (ha : PB X W a δa) (hb : PB X W b δb) : PD X W (.Compare a [.Is] [b] pos) (dOp (fIsB false) δa δb) := pd_cmp op_is_bl dop_isB ha hb (nomark _)
end
section
variable {X : Cx} {W : WX} {k : Nat} {f C : Addr} {fd : FuncData} {ps : List Str} {sp : Sp} {E : L2.St → XK} {a b e : Expr} {es : List Expr} {ta tb : TE} {t : TA} {x : Str} {p pos : Pos} {c : Str} {F : DF} {δa δb : DE} {α' : DA} {CS : List Str}
end
end DL

end

section
set_option autoImplicit false
namespace DL
open PySem PySem.Spec PyProof PyProof.Rows L2
section
variable {X : Cx} {W : WX} {a1 a2 a3 : Expr} {δ1 δ2 δ3 : DSl} {pos : Pos} {x1 x2 x3 : Str}
end
end DL

end

section
set_option autoImplicit false
namespace DL
open PySem PySem.Spec PyProof PyProof.Rows L2
def ItT (t it : Addr) : HO := .ext fun h => h.IsTupleIter it t 0
section
variable {X : Cx}
end
def SqO (K : PySem.W.Frag) (H : Hp) (t : Addr) (o : Addr → HO) : Prop := (∃ zs, SqT K H t zs ∧ o = fun it => ItT t it) ∨ ∃ zs, SqL K H t zs ∧ o = fun it => ItO t it 0
structure FnIt (P : Program) (w : World) (K : PySem.W.Frag) (mg : Str → Option Value) (base : Heap) (k : Nat) (C f : Addr) (fd : FuncData) (p : Str) (fld : Str) : Prop where
  run : ∀ (A : Around) (outer : List PySem.Env) (s : Shared) (H : Hp) (args : Args) (a t dx : Addr) (fs : List (Str × V)) (o : Addr → HO), Room k A → Env0 P w K mg base A outer s H → BindsTo s fd args ([p].zip [Value.ref a]) → H a = some (.ins C dx fs) → fs.lookup fld = some (.ref t) → SqO K H t o →
    codeAny (model P w) A (.call (.ref f) args) (CR (L2.CX P w) outer P w H s (fun v H1 => ∃ it, v = .ref it ∧ s.heap.objs.size ≤ it ∧ H1 = upd H it (o it)) fun _ _ _ => False) s
section
variable {X : Cx} {tg e : Expr} {t : TE} {k : Nat} {C f : Addr} {fd : FuncData} {p fld : Str}
def iIterO (c fld : Str) (δ : DE) : DI := fun x ρ n q => δ x ρ n fun d n1 => match d with
  | .obj c' fs => c' = c ∧ (match fs.lookup fld with
    | some (.tup ds) => q ds n1
    | some (.lst ds) => q ds n1
    | _ => False)
  | _ => False
structure MgIt (P : Program) (w : World) (K : PySem.W.Frag) (mg : Str → Option Value) (base : Heap) (c fld : Str) (k : Nat) : Prop where
  ex : ∃ (f : Addr) (fd : FuncData) (p : Str), FnIt P w K mg base k (ca K c) f fd p fld ∧ Meth K (ca K c) "__iter__" f ∧ Binds K fd [p] []
variable {W : WX} {δ : DE} {c : Str}
def iMixO (cs : List (Str × Str)) (δ : DE) : DI := fun x ρ n q => δ x ρ n fun d n1 => match d with
  | .obj c fs => ∃ f, (c, f) ∈ cs ∧ (match fs.lookup f with
    | some (.tup ds) => q ds n1
    | some (.lst ds) => q ds n1
    | _ => False)
  | .lst ds => q ds n1
  | .tup ds => q ds n1
  | .rol ds => q ds n1
  | _ => False
end
end DL

end

section
set_option autoImplicit false
namespace DL
open PySem PySem.Spec PyProof PyProof.Rows L2
def dPut2 (i : Nat) (key : Str) (δl δe δk : DE) (r : DS) : DS := fun E ρ n => match ρ[i]? with
  | some (some (.own (.dct kvs))) => δl (E.xx ρ) ρ n fun l n1 => (match l with
    | .lst ds => kvs.length < 16777216 ∧ δe (E.xx (ρ.set i none)) (ρ.set i none) n1 fun d n2 => δk (E.xx (ρ.set i none)) (ρ.set i none) n2 fun k n3 => (match k with
      | .int z => opt (ixN ds.length z) fun j => r E (ρ.set i (some (.own (.dct (putD kvs (.inr key) (.lst (ds.set j d))))))) n3
      | _ => False)
    | _ => False)
  | _ => False
section
variable {X : Cx} {W : WX} {e k el : Expr} {δl δe δk : DE} {δr : DS} {x key : Str} {p1 p2 p3 p4 p5 pc pd pos pos2 : Pos} {rest : List Stmt}
theorem pf_dictP {α' : DA} {p pos : Pos} {e : Expr} (hc : X.calm = true) (hg : Gl X "dict") (hm : X.mg "dict" = none) (ha : PAD X W [e] α') (hst : starEach [e] X.env = (false, eval e X.env) :: starEach [] X.env := by rfl) (hpl : (backTo pos (starEach [] X.env)).any (·.1) = false := by rfl) :
    PF X W (.Call (.Name "dict" p) [e] [] pos) (dCB fDict α') := by
  obtain ⟨t, pa, ea⟩ := ha
  refine ⟨_, pe_callTy (call_dictP hc) hg hm (by decide +kernel) pa (by decide) (by decide) hst hpl, fun B σ H ρ n G α Q x q hK R hx hd k => ?_⟩
  refine ea B σ H ρ n G α _ x _ hK R hx hd fun vs H1 G1 ds n1 s1 j1 r hf => ?_
  unfold fDict f1 at hf
  split at hf
  · rename_i d
    obtain ⟨v, rfl, r0⟩ : ∃ v, vs = [v] ∧ Rep X.K G1 d v := by
      cases r with
      | cons r0 rn => cases rn; exact ⟨_, rfl, r0⟩
    cases d with
    | lst es =>
      obtain ⟨kvs, ek, hf⟩ := opt_some hf
      obtain ⟨a, us, e1, h1, rl⟩ : ∃ a us, v = .ref a ∧ H1 a = some (.lst us) ∧ RepL X.K G1 es us := by
        cases r0 with
        | lst e1 rl => exact ⟨_, _, rfl, s1.hh.get e1, rl⟩
      obtain ⟨ps, ws, e2, e3, e4⟩ := pairs_rep rl ek
      subst e1
      subst e2
      refine ⟨a, ps, ws, rfl, SqL.of h1, paired_mono (fun _ _ h => s1.hh.sqT h) e3, fun l np => ?_⟩
      have s := StepP.laid (o := .dK (mergeK [] ws)) s1.hh np
      have nr : ¬ B.W.rg l := fun z => B.W.there n1 H1 l j1 z np
      have h0 : H l = none := by
        cases q : H l with
        | none => rfl
        | some o => rw [s1.fr l o q nr] at np; cases np
      have g0 : G1 l = none := by
        cases q : G1 l with
        | none => rfl
        | some o =>
          obtain ⟨o', q', _⟩ := s1.hh l o q
          rw [np] at q'; cases q'
      exact k l _ _ (.dct (mergeD [] kvs)) n1 (s1.trans (s.step j1)) (s.J j1) h0 g0 nr ⟨mergeK [] ws, upd_same, e4.merge .nil⟩ hf
    | _ => exact hf.elim
  · exact hf.elim
end
end DL

end

section
set_option autoImplicit false
namespace DL
open PySem PySem.Spec PyProof PyProof.Rows L2 LamX
theorem Takes.len {X : Cx} {W : WX} (t : Takes X W) : Takes X (fun c d σ H => σ.length = X.N.length → W c d σ H) := fun u s' ⟨a, B, sI, pins, σ, H, cls, d, e, I, nb, up, sky, na, os, ag, w⟩ =>
  t u s' ⟨a, B, sI, pins, σ, H, cls, d, e, I, nb, up, sky, na, os, ag, w I.len⟩
inductive HdsA (z : Str) : List ExceptHandler → List (Str × V) → Prop
  | nil : HdsA z [] []
  | cons {c : Str} {e : Expr} {v : V} {np p5 p6 p7 : Pos} {hds : List ExceptHandler} {l : List (Str × V)} (he : ∀ Y : Cx, PE Y e (tC v)) (hs : ∀ Y : Cx, swapsWith e (some (.Name z p5)) p6.line Y.env = pure false) (r : HdsA z hds l) : HdsA z (.ExceptHandler (some (.Name c np)) none [.Assign [.Name z p5] e p6] p7 :: hds) ((c, v) :: l)
theorem HdsA.ok {X : Cx} {z : Str} {i : Nat} {hds : List ExceptHandler} {l : List (Str × V)} (h : HdsA z hds l) (hN : X.N.Nodup) (hi : X.N[i]? = some z) (hx : X.env.scope.names.lookup z = some .local) (hn : ∀ q ∈ l, Names X q.1 (.ref (ca X.K q.1))) : HdsOk X hds (l.map fun q => (.ref (ca X.K q.1), fun _ _ _ => tAsg (tC q.2) (gName i))) := by
  induction h with
  | nil => exact .nil
  | cons he hs r ih => exact .cons (hn _ List.mem_cons_self) (fun a oe cls d pn _ _ => pss_one (ps_set hN hi (.inl hx) (he _) (hs _) (.inr hx))) (ih fun q hq => hn q (List.mem_cons_of_mem _ hq))
theorem CatchV.imp {K : PySem.W.Frag} {cls : Value} {k k' : V → Prop} (h : ∀ v, k v → k' v) : ∀ {l : List (Str × V)}, CatchV K cls l k → CatchV K cls l k'
  | [], z => z.elim
  | (c, v) :: l, ⟨b, e, h1, h2⟩ => ⟨b, e, fun hb => h _ (h1 hb), fun hb => CatchV.imp h (h2 hb)⟩
end DL

end

section
set_option autoImplicit false
namespace DL
open PySem PySem.Spec PyProof PyProof.Rows L2
structure FnLn (P : Program) (w : World) (K : PySem.W.Frag) (mg : Str → Option Value) (base : Heap) (k : Nat) (C f : Addr) (fd : FuncData) (p : Str) (fld : Str) : Prop where
  run : ∀ (A : Around) (outer : List PySem.Env) (s : Shared) (H : Hp) (args : Args) (a t dx : Addr) (fs : List (Str × V)) (zs : List V), Room k A → Env0 P w K mg base A outer s H → BindsTo s fd args ([p].zip [Value.ref a]) → H a = some (.ins C dx fs) → fs.lookup fld = some (.ref t) → (SqL K H t zs ∨ SqT K H t zs) →
    codeAny (model P w) A (.call (.ref f) args) (CR (L2.CX P w) outer P w H s (fun v H1 => v = .int zs.length ∧ H1 = H) fun _ _ _ => False) s
section
variable {X : Cx} {k : Nat} {C f f2 : Addr} {fd fd2 : FuncData} {p p2 fld : Str}
def dListO (c fld : Str) (δ : DE) : DE := fun x ρ n q => δ x ρ n fun d n1 => match d with
  | .obj c' fs => c' = c ∧ (match fs.lookup fld with
    | some (.tup ds) => q (.lst ds) n1
    | _ => False)
  | _ => False
structure MgLs (P : Program) (w : World) (K : PySem.W.Frag) (mg : Str → Option Value) (base : Heap) (c fld : Str) (k : Nat) : Prop where
  it : MgIt P w K mg base c fld k
  ln : ∃ (f : Addr) (fd : FuncData) (p : Str), FnLn P w K mg base k (ca K c) f fd p fld ∧ Meth K (ca K c) "__len__" f ∧ Binds K fd [p] []
variable {W : WX} {δ : DE} {c : Str} {e : Expr} {pos p0 : Pos}
end
end DL

end

section
set_option autoImplicit false
namespace DL
open PySem PySem.Spec L2
def dLend (i : Nat) (δ : DE) : DE := fun x ρ n q => match ρ[i]? with
  | some (some (.own (.lst ds))) => δ (x0 x.w) (ρ.set i (some (.val (.rol ds)))) n fun d n1 => nrD d = true ∧ q d n1
  | _ => False
section
variable {X : Cx} {W : WX} {e : Expr} {δ : DE}
end
def dClr (i : Nat) : DS := fun E ρ n => match ρ[i]? with
  | some (some (.own (.lst ds))) => E.nx (ρ.set i (some (.own (.lst [])))) n
  | _ => False
def dAppT (δ δa : DE) : DS := fun E ρ n => δ (E.xx ρ) ρ n fun d n1 => match d with
  | .lst ds => ds.length < 16777216 ∧ δa (E.xx ρ) ρ n1 fun _ n2 => E.nx ρ n2
  | _ => False
section
variable {X : Cx} {W : WX} {o e : Expr} {δ δa : DE} {pos pos' apos cpos : Pos} {x : Str}
end
section
variable {X : Cx} {W : WX} {k m : Nat} {F : DF} {dvd : List D} {c y : Str} {pos apos : Pos} {o : Expr} {δ : DE}
theorem pf_meth0 {pl : Sem Bool} (S : MgF X.prog X.w X.K X.mg X.base c y k m F dvd) (hr : Room k X.A) (tk : Takes X W) (ho : PD X W o δ)
    (ht : eval (.Call (.Attribute o y apos) [] [] pos) X.env = (do
      let ov ← eval o X.env
      standAt apos.atName
      let (f, first) ← holding [ov] (getMethod ov y pl)
      callWith pos f first (backTo pos (starEach [] X.env)) (backToKw pos (keywordEach [] X.env))) := by rfl) : PF X W (.Call (.Attribute o y apos) [] [] pos) (dMeth c y m F dvd δ dNil) := by
  obtain ⟨to, po, eo⟩ := ho
  obtain ⟨f, fd, ps, ds, dvs, hF, hm, hb, hd, hdv⟩ := S.ex
  refine ⟨_, pe_methSD0 po S.cl hm hF hr hb hd (fun σ => passAt tk σ) ht, ef_meth hdv eo ?_⟩
  exact fun B σ H ρ n G α Q x q hK R hx hd k => k [] H G [] n (.refl _ R.le) R.J .nil hd
end
section
variable {X : Cx} {W : WX} {k m : Nat} {F : DF} {c fld : Str} {pos apos : Pos} {o e : Expr} {es : List Expr} {a : DA} {δ : DE}
end
end DL

end

section
set_option autoImplicit false
namespace DL
open PySem PySem.Spec PyProof PyProof.Rows L2
def dSlT (δ : DE) (l h : DO) : DE := fun x ρ n q => δ x ρ n fun d n1 => l x ρ n1 fun lo n2 => h x ρ n2 fun hi n3 => match d with
  | .tup ds => q (.tup (cutD ds lo hi)) n3
  | _ => False
section
variable {X : Cx} {W : WX} {e : Expr} {lo hi : Option Expr} {δ : DE} {l h : DO} {p2 pos : Pos}
end
end DL

end

section
set_option autoImplicit false
namespace DL
open PySem PySem.Spec L2
abbrev DFE := Wd → List D → Nat → (Sl → Nat → Prop) → (Xn → Nat → Prop) → Prop
def spWE (K : PySem.W.Frag) (m : Nat) (F : DFE) : Sp := fun vs H Q E => ∃ (W : Wd) (n : Nat) (G : Hp) (ds : List D) (q : Sl → Nat → Prop) (x : Xn → Nat → Prop), Le G H ∧ (∀ a, W.rg a → G a = none) ∧ W.J n H ∧ RepL K G ds vs ∧ ds.length = m ∧ F W ds n q x ∧
  (∀ v H' G' sl n', Step W H G H' G' → W.J n' H' → SlRep K W H G' H' sl v → q sl n' → Q v H') ∧ (∀ c dd H' G' e n', Step W H G H' G' → W.J n' H' → XRep K W H G' H' e c dd → x e n' → E c dd H')
def endsE (W : Wd) (q : Sl → Nat → Prop) (x : Xn → Nat → Prop) : DEnds := ⟨fun _ n => q (.val .non) n, fun d n => q (.val d) n, fun _ _ => False, fun _ _ => False, fun e _ n => x e n, W, q⟩
structure SgE (P : Program) (w : World) (K : PySem.W.Frag) (mg : Str → Option Value) (base : Heap) (x : Str) (k m : Nat) (F : DFE) (dvd : List D) : Prop where
  ex : ∃ (f : Addr) (fd : FuncData) (ps : List Str) (ds : List Value) (dvs : List V), FnOk P w K mg base (L2.CX P w) k f fd ps (spWE K m F) ∧ mg x = some (.ref f) ∧ PySem.W.keepIn K (.ref f) = true ∧ Binds K fd ps ds ∧ Vals dvs ds ∧ ∀ G, RepL K G dvd dvs
def dCallE (m : Nat) (F : DFE) (dvd : List D) (a : DA) : DSl := fun x ρ n q => a x ρ n fun ds n1 => ds.length + dvd.length = m ∧ F x.w (ds ++ dvd) n1 q x.ex
def slD (δ : DSl) : DE := fun x ρ n q => δ x ρ n fun sl n1 => match sl with
  | .val d => q d n1
  | .own d => q d n1
  | .gst _ _ => False
def dSetSl (i : Nat) (δ : DSl) : DS := fun E ρ n => δ (E.xx ρ) ρ n fun sl n1 => E.nx (ρ.set i (some sl)) n1
section
variable {X : Cx} {W : WX} {k m : Nat} {F : DFE} {dvd : List D} {x : Str} {p pos pos' : Pos} {e : Expr} {es : List Expr} {a : DA} {δ : DSl}
theorem PSl.pd (h : PSl X W e δ) : PD X W e (slD δ) := by
  obtain ⟨t, p, h⟩ := h
  refine ⟨_, pe_lk p, fun B σ H ρ n G α Q x q hK R hx hd kk => h B σ H ρ n G α _ x _ hK R hx hd fun v H' G' sl n' s j r hq => ?_⟩
  cases sl with
  | val d => exact .inl (kk v H' G' d n' s j r hq)
  | own d =>
    obtain ⟨a, rfl, np, ng, nr, o⟩ := r
    refine freeze s.hh ng o fun H1 ob e off l1 l2 r => ?_
    exact kk _ H1 (upd G' a ob) d n' (s.frozen np nr off l1 l2) (B.W.stable _ _ _ (fun b hb => off b fun z => nr (z ▸ hb)) (fun b e q => (off b fun z => o.noExt (z ▸ q)).trans q) j) r hq
  | gst _ _ => exact hq.elim
end
def iRevN (δ : DE) : DI := fun x ρ n q => δ x ρ n fun d n1 => match d with
  | .int j => (-(2 ^ 62) ≤ j ∧ j < 2 ^ 62) ∧ q (rngC ((j.toNat : Int) - 1) (-1) j.toNat) n1
  | _ => False
section
variable {X : Cx} {W : WX} {tg e : Expr} {δ : DE} {p p2 pos pos2 : Pos}
end
end DL

end

section
set_option autoImplicit false
namespace DL
open PySem PySem.Spec PySem.W PyProof PyProof.Rows L2
abbrev gzT (h : Heap) (i1 i2 : Value) : Heap := h.push { cls := .type "tuple", data := .seq #[i1, i2] }
abbrev gzO (h : Heap) (i1 i2 : Value) : Heap := (gzT h i1 i2).push { cls := .type "tuple", data := .seq #[.none, .none] }
abbrev gzZ (h : Heap) (i1 i2 : Value) : Heap := (gzO h i1 i2).push { cls := .type "zip", data := .fields #[.none, .bool false, .bool false, .ref h.objs.size, .ref (gzT h i1 i2).objs.size] }
structure Hold (p : Prop) : Prop where
  h : p
section
variable {X : Cx} {k : Nat}
def Src (cs : List (Str × Str)) (K : PySem.W.Frag) (H : Hp) (a : Addr) (t : Bool) (u : Addr) (zs : List V) : Prop := SqK t K H u zs ∧ (a = u ∨ ∃ c fld dx fs, (c, fld) ∈ cs ∧ H a = some (.ins (ca K c) dx fs) ∧ fs.lookup fld = some (.ref u))
theorem Src.lt {cs : List (Str × Str)} {pins : List (Addr × Obj)} {σ : L2.St} {H : Hp} {s : Shared} (I : Inv X pins σ H s) {a u : Addr} {t : Bool} {zs : List V} (h : Src cs X.K H a t u zs) : u < s.heap.objs.size := by
  obtain ⟨its, rv, p, _⟩ := h.1.items I
  exact p.lt
theorem Src.ext {cs : List (Str × Str)} {K : PySem.W.Frag} {H : Hp} {a u b : Addr} {o : HO} {t : Bool} {zs : List V} (h : Src cs K H a t u zs) (n : H b = none) : Src cs K (upd H b o) a t u zs := by
  have e : ∀ c w, H c = some w → upd H b o c = some w := fun c w q => by rw [upd_ne (fun z => by rw [z, n] at q; cases q)]; exact q
  obtain ⟨hz, h⟩ := h
  refine ⟨?_, h.imp (fun z => z) fun ⟨c, fld, dx, fs, h1, h2, h3⟩ => ⟨c, fld, dx, fs, h1, e _ _ h2, h3⟩⟩
  cases t with
  | true => exact SqT.ext hz e
  | false => exact SqL.ext hz e
def srcD (cs : List (Str × Str)) : D → Option (List D)
  | .obj c fs => match cs.find? fun x => decide (x.1 = c) with
    | some x => (match fs.lookup x.2 with
      | some (.lst ds) => some ds
      | some (.tup ds) => some ds
      | _ => none)
    | none => none
  | d => seqD d
def iEnO (cs : List (Str × Str)) (δ : DA) : DI := fun x ρ n q => δ x ρ n fun ds n1 => match ds with
  | [d] => opt (srcD cs d) fun es => q (enumD es) n1
  | _ => False
def iZpO (cs : List (Str × Str)) (δ : DA) : DI := fun x ρ n q => δ x ρ n fun ds n1 => match ds with
  | [d, e] => opt (srcD cs d) fun es => opt (srcD cs e) fun fs => q (zipD es fs) n1
  | _ => False
variable {W : WX} {e a b : Expr} {α' : DA} {p pos tpos : Pos} {elts : List Expr} {kk : Nat} {cs : List (Str × Str)}
end
end DL

end

section
set_option autoImplicit false
namespace DL
open PySem PySem.Spec L2 PyProof.Rows
section
variable {X : Cx} {K : PySem.W.Frag}
end
def fAnyI : FL := f1 fun d k => match d with
  | .lst ds => (match intsD ds with
    | some ns => k (.bl (ns.any (· != 0)))
    | none => False)
  | _ => False
end DL

end

section
set_option autoImplicit false
namespace DL
open PySem PySem.Spec L2
def upG (gs : List (Addr × D)) (b : Addr) (d : D) : List (Addr × D) := gs.map fun g => if g.1 = b then (g.1, d) else g
theorem upG_fst (gs : List (Addr × D)) (b : Addr) (d : D) : (upG gs b d).map (·.1) = gs.map (·.1) := by
  unfold upG
  rw [List.map_map]
  exact List.map_congr_left fun g _ => by
    show (if g.1 = b then (g.1, d) else g).1 = g.1
    split <;> rfl
theorem upG_mem {gs : List (Addr × D)} {b : Addr} {d : D} {g : Addr × D} (h : g ∈ upG gs b d) : (g.1 = b ∧ g.2 = d ∧ b ∈ gs.map (·.1)) ∨ (g.1 ≠ b ∧ g ∈ gs) := by
  obtain ⟨u, hu, rfl⟩ := List.mem_map.mp h
  by_cases e : u.1 = b
  · rw [if_pos e]
    exact .inl ⟨e, rfl, List.mem_map.mpr ⟨u, hu, e⟩⟩
  · rw [if_neg e]
    exact .inr ⟨e, hu⟩
section
variable {B : Bs} {σ : L2.St} {H : Hp} {ρ : DL.Env} {n : Nat} {G : Hp} {α : Nat → Addr}
theorem RelB.hideG (R : RelB B σ H ρ n G α) {i : Nat} {r : D} {gs : List (Addr × D)} {b : Addr} {d : D} {o : HO} (h : ρ[i]? = some (some (.gst r gs))) (hb : (b, d) ∈ gs) : RelB B σ (upd H b o) (ρ.set i none) n G α := by
  obtain ⟨hg, h0, nr, od⟩ := R.gh.at_ i r gs h _ hb
  have il : i < ρ.length := (List.getElem?_eq_some_iff.mp h).1
  have back : ∀ {j : Nat} {s : Sl}, (ρ.set i none)[j]? = some (some s) → j ≠ i ∧ ρ[j]? = some (some s) := fun {j s} hj => by
    rcases get_set_sl hj with ⟨_, z⟩ | ⟨z, e⟩
    · exact nomatch z
    · exact ⟨Ne.symm z, e⟩
  refine ⟨⟨fun a u e r => ?_, R.st.le, fun a u e => ?_, R.st.new⟩, R.rg, B.W.stable n H _ (fun a r => upd_ne (fun z => nr (z ▸ r))) (fun b' e q => (upd_ne fun z => od.noExt (z ▸ q)).trans q) R.J, by rw [List.length_set, R.len], fun j e hj => R.val j e (back hj).2, fun j e hj => ?_, fun j k e f hj hk => R.inj j k e f (back hj).2 (back hk).2, fun c e hc hj => R.p0 c e hc (back hj).2,
    R.gh.of rfl rfl rfl rfl (fun j r gs e => ⟨(back e).2, fun _ q => q⟩) (fun j e q => .inl ⟨e, (back q).2, rfl⟩) (fun j r' gs' e g hm h1 _ _ => ⟨h1, fun u q => ?_⟩) (Le.refl G)⟩
  · rw [upd_ne (fun z => by rw [z, h0] at e; cases e)]
    exact R.st.fr a u e r
  · obtain ⟨o', e', c⟩ := R.le a u e
    exact ⟨o', by rw [upd_ne (fun z => by rw [z, hg] at e; cases e)]; exact e', c⟩
  · obtain ⟨ne, hj⟩ := back hj
    obtain ⟨h1, h2, h3, h4, h5⟩ := R.own j e hj
    exact ⟨h1, h2, h3, h4, h5.mono (Le.refl G) fun u q => by rw [upd_ne (fun z => R.gh.off i j r gs e h hj _ hb z.symm)]; exact q⟩
  · rw [upd_ne (fun z => R.gh.sep j i r' r gs' gs (back e).2 h (back e).1 g hm _ hb z)]; exact q
theorem RelB.putG (R : RelB B σ H ρ n G α) (i : Nat) {r : D} {gs : List (Addr × D)} {v : V} (hv : σ[i]? = some (some v)) (hr : Rep B.K G r v) (nd : (gs.map (·.1)).Nodup) (hg : ∀ g ∈ gs, G g.1 = none ∧ B.H0 g.1 = none ∧ ¬ B.W.rg g.1 ∧ OwnAt B.K G H g.1 g.2)
    (f1 : ∀ (j : Nat) (d : D), j ≠ i → ρ[j]? = some (some (.own d)) → ∀ g ∈ gs, g.1 ≠ α j) (f2 : ∀ (j : Nat) (r' : D) (gs' : List (Addr × D)), j ≠ i → ρ[j]? = some (some (.gst r' gs')) → ∀ g ∈ gs, ∀ g' ∈ gs', g.1 ≠ g'.1)
    (hp : ∀ a, B.self = some a → i = 0 → r = .hnd a) : RelB B σ H (ρ.set i (some (.gst r gs))) n G α := by
  have own : ∀ {j : Nat} {d : D}, (ρ.set i (some (.gst r gs)))[j]? = some (some (.own d)) → i ≠ j ∧ ρ[j]? = some (some (.own d)) := fun {j d} h => by
    rcases get_set_sl h with ⟨_, z⟩ | z
    · exact nomatch z
    · exact z
  have val : ∀ {j : Nat} {d : D}, (ρ.set i (some (.gst r gs)))[j]? = some (some (.val d)) → i ≠ j ∧ ρ[j]? = some (some (.val d)) := fun {j d} h => by
    rcases get_set_sl h with ⟨_, z⟩ | z
    · exact nomatch z
    · exact z
  have gst : ∀ {j : Nat} {r' : D} {gs' : List (Addr × D)}, (ρ.set i (some (.gst r gs)))[j]? = some (some (.gst r' gs')) → (i = j ∧ r' = r ∧ gs' = gs) ∨ (i ≠ j ∧ ρ[j]? = some (some (.gst r' gs'))) := fun {j r' gs'} h => by
    rcases get_set_sl h with ⟨z1, z⟩ | z
    · injection z with z
      injection z with z2 z3
      exact .inl ⟨z1, z2.symm, z3.symm⟩
    · exact .inr z
  refine ⟨R.st, R.rg, R.J, by rw [List.length_set, R.len], fun j e h => R.val j e (val h).2, fun j e h => R.own j e (own h).2, fun j k e f hj hk => R.inj j k e f (own hj).2 (own hk).2, fun b e h h' => R.p0 b e h (own h').2, ⟨fun j r' gs' e => ?_, fun j r' gs' e => ?_, fun j k r1 r2 g1 g2 e1 e2 ne => ?_, fun j k r' gs' d e e' => ?_, fun a r' gs' hs e => ?_⟩⟩
  · rcases gst e with ⟨z, z2, z3⟩ | ⟨_, e⟩
    · subst z z2 z3
      exact ⟨⟨v, hv, hr⟩, nd⟩
    · exact R.gh.gst j r' gs' e
  · rcases gst e with ⟨_, _, z⟩ | ⟨_, e⟩
    · rw [z]; exact hg
    · exact R.gh.at_ j r' gs' e
  · rcases gst e1 with ⟨y, _, y2⟩ | ⟨y, w1⟩
    · rcases gst e2 with ⟨z, _⟩ | ⟨z, w2⟩
      · exact (ne (y.symm.trans z)).elim
      · rw [y2]
        exact f2 k r2 g2 (Ne.symm z) w2
    · rcases gst e2 with ⟨z, _, z2⟩ | ⟨z, w2⟩
      · rw [z2]
        exact fun g hm g' hm' q => f2 j r1 g1 (Ne.symm y) w1 g' hm' g hm q.symm
      · exact R.gh.sep j k r1 r2 g1 g2 w1 w2 ne
  · obtain ⟨z', w'⟩ := own e'
    rcases gst e with ⟨z, _, z2⟩ | ⟨z, w⟩
    · rw [z2]
      exact f1 k d (Ne.symm z') w'
    · exact R.gh.off j k r' gs' d w w'
  · rcases gst e with ⟨z, z2, _⟩ | ⟨_, e⟩
    · rw [z2]
      exact hp a hs z
    · exact R.gh.p1 a r' gs' hs e
theorem RelB.writeG (R : RelB B σ H ρ n G α) {i : Nat} {r : D} {gs : List (Addr × D)} {b : Addr} {d d' : D} {o : HO} (h : ρ[i]? = some (some (.gst r gs))) (hb : (b, d) ∈ gs) (ho : OwnAt B.K G (upd H b o) b d') :
    RelB B σ (upd H b o) (ρ.set i (some (.gst r (upG gs b d')))) n G α := by
  have R1 := R.hideG (o := o) h hb
  obtain ⟨⟨v, hv, hr⟩, nd⟩ := R.gh.gst i r gs h
  have back : ∀ {j : Nat} {s : Sl}, (ρ.set i none)[j]? = some (some s) → j ≠ i ∧ ρ[j]? = some (some s) := fun {j s} hj => by
    rcases get_set_sl hj with ⟨_, z⟩ | ⟨z, e⟩
    · exact nomatch z
    · exact ⟨Ne.symm z, e⟩
  have fst : ∀ {g : Addr × D}, g ∈ upG gs b d' → ∃ u ∈ gs, u.1 = g.1 := fun {g} hm => by
    rcases upG_mem hm with ⟨e1, _, _⟩ | ⟨_, e⟩
    · exact ⟨_, hb, e1.symm⟩
    · exact ⟨g, e, rfl⟩
  have := R1.putG i (r := r) (gs := upG gs b d') hv hr (by rw [upG_fst]; exact nd) (fun g hm => ?_) (fun j e _ hj g hm => ?_) (fun j r1 g1 _ hj g hm g' hm' => ?_) (fun a hs i0 => ?_)
  · rwa [List.set_set] at this
  · obtain ⟨u, hu, e⟩ := fst hm
    obtain ⟨h1, h2, h3, h4⟩ := R.gh.at_ i r gs h u hu
    rw [e] at h1 h2 h3 h4
    refine ⟨h1, h2, h3, ?_⟩
    rcases upG_mem hm with ⟨e1, e2, _⟩ | ⟨ne, hm⟩
    · rw [e1, e2]; exact ho
    · exact (R.gh.at_ i r gs h g hm).2.2.2.mono (Le.refl G) fun u q => by rw [upd_ne ne]; exact q
  · obtain ⟨u, hu, e1⟩ := fst hm
    rw [← e1]
    exact R.gh.off i j r gs e h (back hj).2 u hu
  · obtain ⟨u, hu, e1⟩ := fst hm
    rw [← e1]
    exact R.gh.sep i j r r1 gs g1 h (back hj).2 (Ne.symm (back hj).1) u hu g' hm'
  · subst i0
    exact R.gh.p1 a r gs hs h
end

def dLcF (ι : DI) (γ : DG) (tt : DT) (te : DE) (vs : List Nat) : DSl := fun x ρ n q => ι x ρ n fun ds n1 => lcD x.w γ tt te ds (wipeD ρ vs) n1 [] fun es n2 => ∀ (a : Addr) (bs : List Addr), bs.length = es.length → (a :: bs).Nodup → q (.gst (.hnd a) ((a, .lst (bs.map D.hnd)) :: bs.zip es)) n2
theorem rep_hnds {K : PySem.W.Frag} {G : Hp} : ∀ bs : List Addr, RepL K G (bs.map D.hnd) (bs.map V.ref)
  | [] => .nil
  | b :: bs => .cons (.hnd b) (rep_hnds bs)
structure News (K : PySem.W.Frag) (W : Wd) (H0 G H : Hp) (D : Addr) (bs : List Addr) (es : List DL.D) : Prop where
  len : bs.length = es.length
  nd : (D :: bs).Nodup
  at_ : ∀ g ∈ bs.zip es, H0 g.1 = none ∧ G g.1 = none ∧ ¬ W.rg g.1 ∧ OwnAt K G H g.1 g.2
theorem News.step {K : PySem.W.Frag} {W : Wd} {H0 G H G' H' : Hp} {D : Addr} {bs : List Addr} {es : List DL.D} (h : News K W H0 G H D bs es) (s : Step W H G H' G') : News K W H0 G' H' D bs es := by
  refine ⟨h.len, h.nd, fun g hm => ?_⟩
  obtain ⟨h0, g0, nr, o⟩ := h.at_ g hm
  obtain ⟨u, q⟩ := o.there
  exact ⟨h0, s.keepD q g0, nr, o.mono s.le fun o q => s.fr _ o q nr⟩
theorem News.off {K : PySem.W.Frag} {W : Wd} {H0 G H : Hp} {D : Addr} {bs : List Addr} {es : List DL.D} (h : News K W H0 G H D bs es) {o : HO} : News K W H0 G (upd H D o) D bs es := by
  refine ⟨h.len, h.nd, fun g hm => ?_⟩
  obtain ⟨h0, g0, nr, ow⟩ := h.at_ g hm
  have ne : g.1 ≠ D := fun z => (List.nodup_cons.mp h.nd).1 (z ▸ (List.of_mem_zip (a := g.1) (b := g.2) hm).1)
  exact ⟨h0, g0, nr, ow.mono (Le.refl G) fun u q => by rw [upd_ne ne]; exact q⟩
theorem News.snoc {K : PySem.W.Frag} {W : Wd} {H0 G H : Hp} {D : Addr} {bs : List Addr} {es : List DL.D} (h : News K W H0 G H D bs es) {b : Addr} {d : DL.D} (ne : b ≠ D) (nb : b ∉ bs) (h0 : H0 b = none) (g0 : G b = none) (nr : ¬ W.rg b) (o : OwnAt K G H b d) : News K W H0 G H D (bs ++ [b]) (es ++ [d]) := by
  refine ⟨by rw [List.length_append, List.length_append, h.len]; rfl, ?_, fun g hm => ?_⟩
  · have h1 := List.nodup_cons.mp h.nd
    refine List.nodup_cons.mpr ⟨fun z => ?_, ?_⟩
    · rcases List.mem_append.mp z with z | z
      · exact h1.1 z
      · exact ne (List.mem_singleton.mp z).symm
    · refine List.nodup_append.mpr ⟨h1.2, by simp, fun a ha c hc z => ?_⟩
      rw [List.mem_singleton.mp hc] at z
      exact nb (z ▸ ha)
  · rw [List.zip_append h.len] at hm
    rcases List.mem_append.mp hm with hm | hm
    · exact h.at_ g hm
    · rw [show [b].zip [d] = [(b, d)] from rfl] at hm
      rw [List.mem_singleton.mp hm]
      exact ⟨h0, g0, nr, o⟩
theorem News.there {K : PySem.W.Frag} {W : Wd} {H0 G H : Hp} {D : Addr} {bs : List Addr} {es : List DL.D} (h : News K W H0 G H D bs es) {b : Addr} (hb : b ∈ bs) : ∃ o, H b = some o := by
  obtain ⟨i, hi, rfl⟩ := List.mem_iff_getElem.mp hb
  have hl := h.len
  have hm : (bs[i], es[i]'(by omega)) ∈ bs.zip es := List.mem_iff_getElem.mpr ⟨i, by rw [List.length_zip]; omega, by rw [List.getElem_zip]⟩
  exact (h.at_ _ hm).2.2.2.there
theorem es_lcF {K : PySem.W.Frag} {W : WX} {wi : TI} {g : TG} {tt : TT} {te : TE} {vs : List Nat} {ι : DI} {γ : DG} {τ : DT} {δ : DE} {sl : List Nat} (hsl : ∀ i ∈ sl, i ∈ vs) (hi : EI K W wi ι) (hg : GD K sl g γ) (ht : ET K W0 tt τ) (he : EF K W0 te δ) : ES K W (tLc wi g tt te vs) (dLcF ι γ τ δ vs) := by
  intro B σ H ρ n G α Q x q hK R hx hd k
  refine hi B σ H ρ n G α _ x _ hK R hx hd fun J H1 G1 ds n1 s1 j1 wk h1 => ?_
  have R1 := R.step s1 j1
  intro D hD
  have nr : ¬ B.W.rg D := fun r => B.W.there n1 H1 D j1 r hD
  have g1 : G1 D = none := by
    cases q : G1 D with
    | none => rfl
    | some u =>
      obtain ⟨o', e', _⟩ := s1.hh D u q
      rw [hD] at e'; cases e'
  have back : ∀ {a : Addr}, H1 a = none → ¬ B.W.rg a → H a = none := fun {a} hD nr => by
    cases e : H a with
    | none => rfl
    | some o => rw [s1.fr a o e nr] at hD; cases hD
  have h0 : H D = none := back hD nr
  have s0 := StepP.laid (o := .lst []) s1.hh hD
  let q' : List DL.D → Nat → Prop := fun es n2 => ∀ (a : Addr) (bs : List Addr), bs.length = es.length → (a :: bs).Nodup → q (.gst (.hnd a) ((a, .lst (bs.map DL.D.hnd)) :: bs.zip es)) n2
  refine ⟨fun i m H' => m = ds.length - i ∧ i ≤ ds.length ∧ ∃ n G acc bs, Step B.W H1 G1 H' G ∧ B.W.J n H' ∧ H' D = some (.lst (bs.map V.ref)) ∧ G D = none ∧ News K B.W H1 G H' D bs acc ∧ lcD B.W γ τ δ (ds.drop i) (wipeD ρ vs) n acc q',
    ⟨ds.length, by simp, Nat.zero_le _, n1, G1, [], [], s0.step j1, s0.J j1, upd_same, g1, ⟨rfl, by simp, fun _ h => nomatch h⟩, by rw [hx.1] at h1; rw [List.drop_zero]; exact h1⟩, ?_⟩
  rintro i m H2 ⟨rfl, hil, n2, G2, acc, bs, s2, j2, hD2, gD2, ra, h2⟩
  by_cases hlt : i < ds.length
  · refine .inr ⟨wk.goes i H2 G2 hlt s2.le s2.hh, fun H' => ∃ n G acc bs, Step B.W H1 G1 H' G ∧ B.W.J n H' ∧ H' D = some (.lst (bs.map V.ref)) ∧ G D = none ∧ News K B.W H1 G H' D bs acc ∧ lcD B.W γ τ δ (ds.drop (i + 1)) (wipeD ρ vs) n acc q', fun H' p => ⟨ds.length - (i + 1), by omega, rfl, hlt, p⟩, fun y H' yl => ?_⟩
    obtain ⟨d, G3, ed, s3, r3⟩ := wk.yields i H2 G2 y H' hlt s2.le s2.hh yl
    have ed' : ds.drop i = d :: ds.drop (i + 1) := by
      rw [List.drop_eq_getElem_cons hlt]
      have : ds[i] = d := by
        rw [List.getElem?_eq_getElem hlt] at ed
        exact Option.some.inj ed
      rw [this]
    rw [ed'] at h2
    have t3 := s3.step j2
    have R3 := ((R1.step s2 j2).step t3 (s3.J j2)).wipe vs
    have hD3 := s3.fr D _ hD2
    have gD3 := t3.keepD hD2 gD2
    refine hg B (wipe σ vs) H' (wipeD ρ vs) n2 G3 α y d _ _ hK R3 r3 h2 fun σ4 ρ4 R4 f4 l4 h4 => ⟨?_, ?_⟩
    · refine List.ext_getElem? fun j => ?_
      rw [wipe_get, wipe_get, l4, wipe_length]
      by_cases hj : j ∈ vs
      · rw [if_pos hj, if_pos hj]
      · rw [if_neg hj, if_neg hj, f4 j (fun z => hj (hsl j z)), wipe_out hj]
    · refine ht B σ4 H' ρ4 n2 G3 α _ (x0 B.W) _ hK R4 xl0 h4 fun b H5 G5 n5 s5 j5 h5 => ?_
      have hD5 := s5.fr D _ hD3 nr
      have gD5 := s5.keepD hD3 gD3
      cases b with
      | true =>
        rw [if_pos rfl] at h5 ⊢
        refine he B σ4 H5 ρ4 n5 G5 α _ (x0 B.W) _ hK (R4.step s5 j5) xl0 h5 fun v H6 G6 dy n6 s6 j6 np6 ng6 nr6 o6 h6 => ?_
        have hD6 := s6.fr D _ hD5 nr
        have gD6 := s6.keepD hD5 gD5
        have t6 : Step B.W H1 G1 H6 G6 := s2.trans (t3.trans (s5.trans s6))
        have rb := (ra.step (t3.trans s5))
        have nv : v ∉ bs := fun hm => by
          obtain ⟨o, e⟩ := rb.there hm
          rw [np6] at e; cases e
        have nD : v ≠ D := fun z => by rw [z, hD5] at np6; cases np6
        have h1v : H1 v = none := by
          cases e : H1 v with
          | none => rfl
          | some o => rw [(s2.trans (t3.trans s5)).fr v o e nr6] at np6; cases np6
        have ra6 := (rb.step s6).snoc nD nv h1v ng6 nr6 o6
        refine ⟨bs.map V.ref, hD6, by rw [sizeLine_eq, List.length_map, ra.len]; exact h6.1, n6, G6, acc ++ [dy], bs ++ [v], ?_, B.W.stable _ _ _ (fun a r => upd_ne (fun z : a = D => nr (z ▸ r))) (fun a e q => (upd_ne fun z : a = D => by rw [z, hD6] at q; cases q).trans q) j6, by rw [upd_same, List.map_append]; rfl, gD6, ra6.off, h6.2⟩
        exact t6.updD hD gD6
      | false =>
        rw [if_neg Bool.false_ne_true] at h5 ⊢
        exact ⟨n5, G5, acc, bs, s2.trans (t3.trans s5), j5, hD5, gD5, ra.step (t3.trans s5), h5⟩
  · have e : i = ds.length := by omega
    subst e
    refine .inl ⟨wk.stops H2 G2 s2.le s2.hh, ?_⟩
    rw [List.drop_length] at h2
    have h2' : q' acc n2 := h2
    refine k (.ref D) H2 G2 (.gst (.hnd D) ((D, .lst (bs.map DL.D.hnd)) :: bs.zip acc)) n2 (s1.trans s2) j2 (show _ ∧ _ ∧ _ from ⟨.hnd D, ?_, fun g hm => ?_⟩) (h2' D bs ra.len ra.nd)
    · rw [List.map_cons, List.map_fst_zip (by rw [ra.len]; exact Nat.le_refl _)]
      exact ra.nd
    · rcases List.mem_cons.mp hm with rfl | hm
      · exact ⟨h0, gD2, nr, _, hD2, rep_hnds bs⟩
      · obtain ⟨z0, z1, z2, z3⟩ := ra.at_ g hm
        exact ⟨back z0 z2, z1, z2, z3⟩
section
variable {X : Cx} {W : WX} {elt tg iter : Expr} {ifs : List Expr} {scope : Scope} {own : List (Str × Nat)} {pos spos py : Pos} {ι : DI} {γ : DG} {τ : DT} {δ : DE} {sl : List Nat} {y : Str}
def fOf (K : PySem.W.Frag) (W : WX) (δ : DE) : TE := fun σ H Q => ∃ (B : Bs) (ρ : Env) (n : Nat) (G : Hp) (α : Nat → Addr) (x : DX) (q : DQ), B.K = K ∧ RelB B σ H ρ n G α ∧ XL B W σ H G x ∧ δ x ρ n q ∧
  (∀ a H' G' d n', Step B.W H G H' G' → B.W.J n' H' → H a = none → G' a = none → ¬ B.W.rg a → OwnAt K G' H' a d → q d n' → Q (.ref a) H')
theorem ef_fOf {K : PySem.W.Frag} {W : WX} {δ : DE} : EF K W (fOf K W δ) δ := fun B σ H ρ n G α Q x q hK R hx hd k => ⟨B, ρ, n, G, α, x, q, hK, R, hx, hd, k⟩
theorem PF.pe {e : Expr} {δ : DE} (h : PF X W e δ) : PE X e (fOf X.K W δ) := by
  obtain ⟨t, p, h⟩ := h
  refine ⟨fun pins s σ H Q I hw => ?_⟩
  obtain ⟨B, ρ, n, G, α, x, q, hK, R, hx, hd, k⟩ := hw
  exact p.run pins s σ H Q I (h B σ H ρ n G α Q x q hK R hx hd k)
theorem psl_lcF (own : List (Str × Nat)) (hc : X.calm = true) (hN : X.N.Nodup) (hi : PID X W tg iter ι) (ok : BlkOk X.N X.env.scope scope own)
    (hg : ∀ (s : Shared) (H : Hp) (C : Addr) (cl : List (Str × Addr)) (fp : List Addr), PGD (X.blk s H scope (compEnvC scope cl C X.env) fp) sl tg γ)
    (ht : ∀ (s : Shared) (H : Hp) (C : Addr) (cl : List (Str × Addr)) (fp : List Addr), PTsD (X.blk s H scope (compEnvC scope cl C X.env) fp) ifs τ)
    (he : ∀ (s : Shared) (H : Hp) (C : Addr) (cl : List (Str × Addr)) (fp : List Addr), PF (X.blk s H scope (compEnvC scope cl C X.env) fp) W0 elt δ) (hsl : ∀ i ∈ sl, i ∈ own.map (·.2) := by decide)
    (hs : ∀ x, foldedSetIterable iter X.env x = pure x := by intro _; rfl) : PSl X W (.ListComp elt [⟨tg, iter, ifs, 0⟩] scope pos) (dLcF ι γ τ δ (own.map (·.2))) := by
  obtain ⟨wi, pi, ei⟩ := hi
  exact ⟨_, pe_lc hc hN pi ok (fun s H C cl fp => (show PG _ _ (gOf X.K sl γ) from (hg s H C cl fp).pg)) (fun s H C cl fp => (show PTs _ _ (tOfT X.K W0 τ) from (ht s H C cl fp).pts)) (fun s H C cl fp => (show PE _ _ (fOf X.K W0 δ) from (he s H C cl fp).pe)) hs, es_lcF hsl ei gd_gOf et_tOf ef_fOf⟩
def dRetSl (δ : DSl) : DS := fun E ρ n => δ (E.xx ρ) ρ n E.ro
end
end DL

end

section
set_option autoImplicit false
namespace DL
open PySem PySem.Spec L2
def dRes (i : Nat) (δ : DE) : DE := fun x ρ n q => δ x ρ n fun d n1 => match ρ[i]? with
  | some (some (.gst _ gs)) => q (resG gs d) n1
  | _ => False
section
variable {X : Cx} {W : WX} {e : Expr} {δ : DE}
theorem pb_res (i : Nat) (he : PD X W e δ) : PB X W e (dRes i δ) := by
  obtain ⟨t, p, h⟩ := he
  refine ⟨t, p, fun B σ H ρ n G α Q x q hK R hx hd k => h B σ H ρ n G α Q x _ hK R hx hd fun v H1 G1 d n1 s1 j1 r1 h1 => ?_⟩
  have R1 := R.step s1 j1
  split at h1
  · rename_i r gs eo
    refine k v H1 G1 _ n1 s1 j1 ?_ h1
    cases d with
    | hnd a =>
      cases r1
      show RepB X.K B.W G1 H1 ((lkG gs a).getD (.hnd a)) _
      cases q : lkG gs a with
      | none => exact .inl (.hnd a)
      | some d =>
        obtain ⟨g1, _, g3, g4⟩ := R1.gh.at_ i _ gs eo _ (lkG_mem q)
        exact .inr ⟨a, rfl, g1, g3, hK ▸ g4⟩
    | _ => exact .inl r1
  · exact h1.elim
end
def withG (i : Nat) (ρ : DL.Env) (o : D) (k : Addr → D → List (Addr × D) → D → Prop) : Prop := match o, ρ[i]? with
  | .hnd b, some (some (.gst r gs)) => opt (lkG gs b) fun c => k b r gs c
  | _, _ => False
theorem withG_some {i : Nat} {ρ : DL.Env} {o : D} {k : Addr → D → List (Addr × D) → D → Prop} (h : withG i ρ o k) : ∃ b r gs c, o = .hnd b ∧ ρ[i]? = some (some (.gst r gs)) ∧ lkG gs b = some c ∧ k b r gs c := by
  unfold withG at h
  split at h
  · rename_i b r gs e
    obtain ⟨c, e1, h1⟩ := opt_some h
    exact ⟨b, r, gs, c, rfl, e, e1, h1⟩
  · exact h.elim
def dAppG (i : Nat) (δo δ : DE) : DS := fun E ρ n => δo (E.xx ρ) ρ n fun o n1 => withG i ρ o fun b r gs c => match c with
  | .lst ds => δ (E.xx ρ) ρ n1 fun d n2 => ds.length < 16777216 ∧ E.nx (ρ.set i (some (.gst r (upG gs b (.lst (ds ++ [d])))))) n2
  | _ => False
def dAppGF (i : Nat) (δo δ : DE) : DS := fun E ρ n => δo (E.xx ρ) ρ n fun o n1 => withG i ρ o fun b r gs c => match c with
  | .lst ds => δ (E.xx ρ) ρ n1 fun d n2 => ds.length < 16777216 ∧ ∀ b', (∀ g ∈ gs, g.1 ≠ b') → E.nx (ρ.set i (some (.gst r (upG (gs ++ [(b', d)]) b (.lst (ds ++ [.hnd b'])))))) n2
  | _ => False
def dExtG (i : Nat) (δo δ : DE) : DS := fun E ρ n => δo (E.xx ρ) ρ n fun o n1 => withG i ρ o fun b r gs c => match c with
  | .lst ds => δ (E.xx ρ) ρ n1 fun d n2 => (match d with
    | .lst es => ds.length + es.length ≤ 16777216 ∧ E.nx (ρ.set i (some (.gst r (upG gs b (.lst (ds ++ es)))))) n2
    | _ => False)
  | _ => False
def dPutG (i : Nat) (δo δk δv : DE) : DS := fun E ρ n => δv (E.xx ρ) ρ n fun d n1 => δo (E.xx ρ) ρ n1 fun o n2 => δk (E.xx ρ) ρ n2 fun k n3 => withG i ρ o fun b r gs c => match c with
  | .dct kvs => opt (keyD k) fun j => kvs.length < 16777216 ∧ E.nx (ρ.set i (some (.gst r (upG gs b (.dct (putD kvs j d)))))) n3
  | _ => False
def dSetIxG (i : Nat) (δo δk δv : DE) : DS := fun E ρ n => δv (E.xx ρ) ρ n fun d n1 => δo (E.xx ρ) ρ n1 fun o n2 => δk (E.xx ρ) ρ n2 fun k n3 => withG i ρ o fun b r gs c => match c, k with
  | .lst ds, .int z => opt (ixN ds.length z) fun j => E.nx (ρ.set i (some (.gst r (upG gs b (.lst (ds.set j d)))))) n3
  | _, _ => False
def dFldG (i : Nat) (c f : Str) (δ : DE) : DS := fun E ρ n => δ (E.xx ρ) ρ n fun d n1 => match ρ[i]? with
  | some (some (.gst r gs)) => withG i ρ r fun b _ _ o => (match o with
    | .obj c' fs => c' = c ∧ fs.length < 1000 ∧ E.nx (ρ.set i (some (.gst r (upG gs b (.obj c (setF f d fs)))))) n1
    | _ => False)
  | _ => False
def dFldGF (i : Nat) (c f : Str) (δ : DE) : DS := fun E ρ n => δ (E.xx ρ) ρ n fun d n1 => match ρ[i]? with
  | some (some (.gst r gs)) => withG i ρ r fun b _ _ o => (match o with
    | .obj c' fs => c' = c ∧ fs.length < 1000 ∧ ∀ b', (∀ g ∈ gs, g.1 ≠ b') → E.nx (ρ.set i (some (.gst r (upG (gs ++ [(b', d)]) b (.obj c (setF f (.hnd b') fs)))))) n1
    | _ => False)
  | _ => False
section
variable {X : Cx} {W : WX} {o e k : Expr} {δ δo δk δv : DE} {pos pos' apos cpos : Pos} {x : Str}
theorem ps_appG (i : Nat) (ho : PD X W o δo) (he : PD X W e δ) (hst : starEach [e] X.env = [(false, eval e X.env)] := by rfl)
    (hbase : attributeBase o "append" X.env (eval o X.env) = eval o X.env := by rfl)
    (hfew : ((backTo cpos (starEach [e] X.env)).all (fun x => !x.1) && (backToKw cpos (keywordEach [] X.env)).all (fun x => x.1.isSome)
      && decide ([e].length + ([] : List Keyword).length + (if ([] : List Keyword).isEmpty then 0 else 1) < 30)) = true := by rfl)
    (hline : (apos.endLine == cpos.line) = true := by rfl) (hplain : (backTo cpos (starEach [] X.env)).any (·.1) = false := by rfl)
    (hsw : swapsWith (.Call (.Attribute o "append" apos) [e] [] cpos) none pos.line X.env = pure false := by rfl) : PSD X W (.Expr (.Call (.Attribute o "append" apos) [e] [] cpos) pos) (dAppG i δo δ) := by
  obtain ⟨to, po, eo⟩ := ho
  obtain ⟨t, p, h⟩ := he
  refine ⟨_, ps_expr (pe_bm PySem.F.plainAttrs_list PySem.F.slot_list_append PySem.F.type_list_append mt_append po (pa_cons p pa_nil hst) hbase hfew hline hst hplain) hsw, fun B σ H ρ n G α D E hK R L hd => ?_⟩
  refine eo B σ H ρ n G α _ _ _ hK R (L.xl R) hd fun v H1 G1 d n1 s1 j1 r1 h1 => ?_
  have R1 := R.step s1 j1
  obtain ⟨b, r, gs, c, rfl, eg, el, h1⟩ := withG_some h1
  cases r1
  cases c with
  | lst ds =>
    obtain ⟨_, _, _, vs, hH, rl⟩ := R1.gh.at_ i r gs eg _ (lkG_mem el)
    refine ⟨.inl ⟨rfl, _, SqL.of hH⟩, ?_⟩
    refine h B σ H1 ρ n1 G1 α _ _ _ hK R1 (L.xl R1) h1 fun v H2 G2 d n2 s2 j2 r2 hq => ?_
    have R2 := R1.step s2 j2
    obtain ⟨_, _, _, vs', hH', rl'⟩ := R2.gh.at_ i r gs eg _ (lkG_mem el)
    refine ⟨b, vs', v, rfl, rfl, hH', by rw [sizeLine_eq, ← rl'.length]; exact hq.1, ?_⟩
    exact L.nx σ _ _ n2 G2 α (R2.writeG (d' := .lst (ds ++ [d])) (o := .lst (vs' ++ [v])) eg (lkG_mem el) ⟨_, upd_same, rl'.snoc (hK ▸ r2)⟩) hq.2
  | _ => exact h1.elim
theorem ps_setIxG (i : Nat) (ho : PD X W o δo) (hk : PB X W k δk) (he : PD X W e δv) (ha : ∀ v, assign (.Subscript o k apos) X.env v = (do
      let ov ← holding [v] (eval o X.env)
      let iv ← holding [v, ov] (eval k X.env)
      standAt apos
      holding [v, ov, iv] (setItem ov iv v)
      release [v, ov, iv] []) := by intro _; rfl)
    (hs : swapsWithSole [.Subscript o k apos] e pos.line X.env = pure false := by rfl) (hw : swappedStores [.Subscript o k apos] e X.env = pure none := by rfl)
    (h1 : (assignEach [.Subscript o k apos] X.env).map (·.2) = [assign (.Subscript o k apos) X.env] := by rfl) : PSD X W (.Assign [.Subscript o k apos] e pos) (dSetIxG i δo δk δv) := by
  obtain ⟨to, po, eo⟩ := ho
  obtain ⟨tk, pk, ek⟩ := hk
  obtain ⟨tv, pv, ev⟩ := he
  refine ⟨_, ps_asg pv (pg_sub po pk set_list ha) hs hw h1, fun B σ H ρ n G α D E hK R L hd => ?_⟩
  refine ev B σ H ρ n G α _ _ _ hK R (L.xl R) hd fun v H1 G1 d n1 s1 j1 r1 h1 => ?_
  have R1 := R.step s1 j1
  refine eo B σ H1 ρ n1 G1 α _ _ _ hK R1 (L.xl R1) h1 fun vo H2 G2 dq n2 s2 j2 r2 h2 => ?_
  have R2 := R1.step s2 j2
  refine ek B σ H2 ρ n2 G2 α _ _ _ hK R2 (L.xl R2) h2 fun y H3 G3 dk n3 s3 j3 r3 h3 => ?_
  have R3 := R2.step s3 j3
  obtain ⟨b, r, gs, c, rfl, eg, el, h3⟩ := withG_some h3
  cases r2
  cases c with
  | lst ds =>
    cases dk with
    | int z =>
      obtain ⟨j, ez, h4⟩ := opt_some h3
      obtain ⟨_, _, _, vs, hH, rk⟩ := R3.gh.at_ i r gs eg _ (lkG_mem el)
      refine ⟨b, vs, z, j, rfl, r3.int, hH, by rw [← rk.length]; exact ez, ?_⟩
      exact L.nx σ _ _ n3 G3 α (R3.writeG (d' := .lst (ds.set j d)) (o := .lst (vs.set j v)) eg (lkG_mem el) ⟨_, upd_same, RepL.set (hK ▸ r1.mono (s2.le.trans s3.le)) j rk⟩) h4
    | _ => exact h3.elim
  | _ => exact h3.elim
end
def dOG (i : Nat) (a : DS) : DS := fun E ρ n => match ρ[i]? with
  | some (some (.own d)) => ∀ b, a E (ρ.set i (some (.gst (.hnd b) [(b, d)]))) n
  | _ => False
def dGO (i : Nat) (a : DS) : DS := fun E ρ n => match ρ[i]? with
  | some (some (.gst (.hnd b) [(b', d)])) => b = b' ∧ a E (ρ.set i (some (.own d))) n
  | _ => False
section
variable {B : Bs} {σ : L2.St} {H : Hp} {ρ : DL.Env} {n : Nat} {G : Hp} {α : Nat → Addr}
theorem set_same {σ : L2.St} {i : Nat} {v : V} (h : σ[i]? = some (some v)) : σ.set i (some v) = σ := by
  refine List.ext_getElem? fun j => ?_
  rw [List.getElem?_set]
  by_cases z : i = j
  · subst z
    rw [if_pos rfl, if_pos (List.getElem?_eq_some_iff.mp h).1, h]
  · rw [if_neg z]
theorem RelB.growG (R : RelB B σ H ρ n G α) {i : Nat} {r : D} {gs : List (Addr × D)} (h : ρ[i]? = some (some (.gst r gs))) {H1 G' : Hp} (le : Le G G') (leH : Le G' H1) (off : ∀ b, b ∉ gs.map (·.1) → G' b = G b) (offH : ∀ b, b ∉ gs.map (·.1) → H1 b = H b) : RelB B σ H1 (ρ.set i none) n G' α := by
  have mem : ∀ {b : Addr}, b ∈ gs.map (·.1) → B.H0 b = none ∧ ¬ B.W.rg b ∧ ∀ e, H b ≠ some (.ext e) := fun {b} hb => by
    obtain ⟨g, hm, rfl⟩ := List.mem_map.mp hb
    obtain ⟨_, h2, h3, h4⟩ := R.gh.at_ i r gs h g hm
    exact ⟨h2, h3, fun e z => h4.noExt z⟩
  have back : ∀ {j : Nat} {s : Sl}, (ρ.set i none)[j]? = some (some s) → j ≠ i ∧ ρ[j]? = some (some s) := fun {j s} hj => by
    rcases get_set_sl hj with ⟨_, z⟩ | ⟨z, e⟩
    · exact nomatch z
    · exact ⟨Ne.symm z, e⟩
  refine ⟨⟨fun a o e nr => ?_, R.st.le.trans le, leH, fun a e => ?_⟩, fun a hr => ?_, B.W.stable n H _ (fun a hr => offH a fun z => (mem z).2.1 hr) (fun b e q => (offH b fun z => (mem z).2.2 e q).trans q) R.J, by rw [List.length_set, R.len], fun j e hj => ?_, fun j e hj => ?_, fun j k e f hj hk => R.inj j k e f (back hj).2 (back hk).2, fun a e hs hj => R.p0 a e hs (back hj).2,
    R.gh.of rfl rfl rfl rfl (fun j r gs e => ⟨(back e).2, fun _ q => q⟩) (fun j e q => .inl ⟨e, (back q).2, rfl⟩) (fun j r' gs' e g hm h1 _ _ => ?_) le⟩
  · rw [offH a fun z => by rw [(mem z).1] at e; cases e]
    exact R.st.fr a o e nr
  · by_cases z : a ∈ gs.map (·.1)
    · exact .inr ⟨(mem z).1, (mem z).2.1⟩
    · rw [off a z] at e
      exact R.st.new a e
  · rw [off a fun z => (mem z).2.1 hr]
    exact R.rg a hr
  · obtain ⟨v, h1, h2⟩ := R.val j e (back hj).2
    exact ⟨v, h1, h2.mono le⟩
  · obtain ⟨h1, h2, h3, h4, h5⟩ := R.own j e (back hj).2
    have ni : α j ∉ gs.map (·.1) := fun z => by
      obtain ⟨g, hm, eq⟩ := List.mem_map.mp z
      exact R.gh.off i j r gs e h (back hj).2 g hm eq
    exact ⟨h1, (off _ ni).trans h2, h3, h4, h5.mono le fun o q => (offH _ ni).trans q⟩
  · have ni : g.1 ∉ gs.map (·.1) := fun z => by
      obtain ⟨u, hu, eq⟩ := List.mem_map.mp z
      exact R.gh.sep i j r r' gs gs' h (back e).2 (Ne.symm (back e).1) u hu g hm eq
    exact ⟨(off _ ni).trans h1, fun o q => (offH _ ni).trans q⟩
end
section
variable {X : Cx} {W : WX} {sts : List Stmt} {a : DS}
end
mutual
inductive Up (m : List (Addr × D)) : D → D → Prop where
  | refl (d : D) : Up m d d
  | hnd {b : Addr} {c : D} : (b, c) ∈ m → Up m (.hnd b) c
  | lst {ds es : List D} : UpL m ds es → Up m (.lst ds) (.lst es)
  | tup {ds es : List D} : UpL m ds es → Up m (.tup ds) (.tup es)
  | obj {c : Str} {fs gs : List (Str × D)} : UpF m fs gs → Up m (.obj c fs) (.obj c gs)
  | dct {fs gs : List (Key × D)} : UpK m fs gs → Up m (.dct fs) (.dct gs)
inductive UpL (m : List (Addr × D)) : List D → List D → Prop where
  | nil : UpL m [] []
  | cons {d e : D} {ds es : List D} : Up m d e → UpL m ds es → UpL m (d :: ds) (e :: es)
inductive UpF (m : List (Addr × D)) : List (Str × D) → List (Str × D) → Prop where
  | nil : UpF m [] []
  | cons {k : Str} {d e : D} {ds es : List (Str × D)} : Up m d e → UpF m ds es → UpF m ((k, d) :: ds) ((k, e) :: es)
inductive UpK (m : List (Addr × D)) : List (Key × D) → List (Key × D) → Prop where
  | nil : UpK m [] []
  | cons {k : Key} {d e : D} {ds es : List (Key × D)} : Up m d e → UpK m ds es → UpK m ((k, d) :: ds) ((k, e) :: es)
end
section
variable {K : PySem.W.Frag} {G H : Hp} {m : List (Addr × D)}
mutual
theorem Rep.up (hm : ∀ p ∈ m, Rep K G p.2 (.ref p.1)) : ∀ {d e : D} {v : V}, Up m d e → Rep K G d v → Rep K G e v
  | _, _, _, .refl _, r => r
  | _, _, _, .hnd h, .hnd _ => hm _ h
  | _, _, _, .lst h, .lst q r => .lst q (RepL.up hm h r)
  | _, _, _, .tup h, .tup q r => .tup q (RepL.up hm h r)
  | _, _, _, .obj h, .obj q r => .obj q (RepF.up hm h r)
  | _, _, _, .dct h, .dct q r => .dct q (RepK.up hm h r)
theorem RepL.up (hm : ∀ p ∈ m, Rep K G p.2 (.ref p.1)) : ∀ {d e : List D} {v : List V}, UpL m d e → RepL K G d v → RepL K G e v
  | _, _, _, .nil, .nil => .nil
  | _, _, _, .cons h t, .cons r s => .cons (Rep.up hm h r) (RepL.up hm t s)
theorem RepF.up (hm : ∀ p ∈ m, Rep K G p.2 (.ref p.1)) : ∀ {d e : List (Str × D)} {v : List (Str × V)}, UpF m d e → RepF K G d v → RepF K G e v
  | _, _, _, .nil, .nil => .nil
  | _, _, _, .cons h t, .cons r s => .cons (Rep.up hm h r) (RepF.up hm t s)
theorem RepK.up (hm : ∀ p ∈ m, Rep K G p.2 (.ref p.1)) : ∀ {d e : List (Key × D)} {v : List (Key × V)}, UpK m d e → RepK K G d v → RepK K G e v
  | _, _, _, .nil, .nil => .nil
  | _, _, _, .cons h t, .cons r s => .cons (Rep.up hm h r) (RepK.up hm t s)
end
theorem OwnAt.up (hm : ∀ p ∈ m, Rep K G p.2 (.ref p.1)) {a : Addr} {d e : D} (h : Up m d e) (o : OwnAt K G H a d) : OwnAt K G H a e := by
  cases h with
  | refl => exact o
  | hnd _ => exact o.elim
  | lst h => obtain ⟨vs, q, r⟩ := o; exact ⟨vs, q, r.up hm h⟩
  | tup h => exact o.elim
  | obj h => obtain ⟨dx, ws, q, r⟩ := o; exact ⟨dx, ws, q, r.up hm h⟩
  | dct h => obtain ⟨ws, q, r⟩ := o; exact ⟨ws, q, r.up hm h⟩
end
inductive FzA : List (Addr × D) → List D → Prop where
  | nil : FzA [] []
  | cons {b : Addr} {c e : D} {gs : List (Addr × D)} {cs : List D} : FzA gs cs → Up ((gs.map (·.1)).zip cs) c e → (∀ kvs, e ≠ .dct kvs) → FzA ((b, c) :: gs) (e :: cs)
def dFrzR (i : Nat) (a : DS) : DS := fun E ρ n => match ρ[i]? with
  | some (some (.gst (.hnd b) ((b', c) :: gs))) => b = b' ∧ (∀ kvs, c ≠ .dct kvs) ∧ a E (ρ.set i (some (.gst c gs))) n
  | _ => False
inductive UpG (m : List (Addr × D)) : List (Addr × D) → List (Addr × D) → Prop where
  | nil : UpG m [] []
  | cons {b : Addr} {c e : D} {gs hs : List (Addr × D)} : Up m c e → UpG m gs hs → UpG m ((b, c) :: gs) ((b, e) :: hs)
theorem UpG.fst {m : List (Addr × D)} : ∀ {gs hs : List (Addr × D)}, UpG m gs hs → hs.map (·.1) = gs.map (·.1)
  | _, _, .nil => rfl
  | _, _, .cons _ t => by rw [List.map_cons, List.map_cons, t.fst]
theorem UpG.mem {m : List (Addr × D)} : ∀ {gs hs : List (Addr × D)}, UpG m gs hs → ∀ g ∈ hs, ∃ c, (g.1, c) ∈ gs ∧ Up m c g.2
  | _, _, .nil, _, h => nomatch h
  | _, _, .cons (b := b) (c := c) u t, g, h => by
    rcases List.mem_cons.mp h with rfl | h
    · exact ⟨c, List.mem_cons_self .., u⟩
    · obtain ⟨c', h1, h2⟩ := t.mem g h
      exact ⟨c', List.mem_cons_of_mem _ h1, h2⟩
section
variable {X : Cx} {W : WX} {sts : List Stmt} {a : DS}
end
end DL

end

section
set_option autoImplicit false
namespace DL
open PySem PySem.Spec PyProof PyProof.Rows L2
def fDivmod : FL := fun ds k => match ds with
  | [.int i, .int j] => CDiv i j ∧ k (.tup [.int (i / j), .int (i % j)])
  | _ => False
def pickI (n : Nat) (z : Int) : List Nat := sliceRange 0 (n : Int) z
def pickX {α : Type} (xs : List α) (z : Int) : List α := (pickI xs.length z).filterMap (xs[·]?)
def dStep (δ δk : DE) : DE := fun x ρ n q => δ x ρ n fun d n1 => match d with
  | .lst ds => δk x ρ n1 fun k n2 => (match k with
    | .int z => 0 < z ∧ q (.lst (pickX ds z)) n2
    | _ => False)
  | _ => False
end DL

end

section
set_option autoImplicit false
namespace DL
open PySem PySem.Spec L2
def tLockK : Nat → TE → TE
  | 0, t => t
  | k + 1, t => tLockK k (tLockE t)
def tLockN (t : TE) : TE := fun σ H Q => ∃ k : Nat, tLockK k t σ H Q
theorem pe_lockN {X : Cx} {e : Expr} {t : TE} (h : PE X e t) : PE X e (tLockN t) := by
  have go : ∀ (k : Nat) (t : TE), PE X e t → PE X e (tLockK k t) := fun k => by
    induction k with
    | zero => exact fun _ h => h
    | succ k ih => exact fun _ h => ih _ (pe_lock h)
  exact ⟨fun pins s σ H Q I ⟨k, hk⟩ => (go k t h).run pins s σ H Q I hk⟩
inductive RoA : List (Addr × D) → List D → Prop where
  | nil : RoA [] []
  | cons {b : Addr} {ds es : List D} {gs : List (Addr × D)} {cs : List D} : RoA gs cs → UpL ((gs.map (·.1)).zip cs) ds es → RoA ((b, .lst ds) :: gs) (.rol es :: cs)
def delL (G : Hp) : List Addr → Hp
  | [] => G
  | b :: bs => delG (delL G bs) b
theorem delL_mem {G : Hp} : ∀ {bs : List Addr} {b : Addr}, b ∈ bs → delL G bs b = none
  | c :: bs, b, h => by
    show delG (delL G bs) c b = none
    by_cases z : b = c
    · rw [z, delG_same]
    · rw [delG_ne z]
      rcases List.mem_cons.mp h with q | q
      · exact (z q).elim
      · exact delL_mem q
theorem delL_off {G : Hp} : ∀ {bs : List Addr} {b : Addr}, b ∉ bs → delL G bs b = G b
  | [], _, _ => rfl
  | c :: bs, b, h => by
    rw [List.mem_cons, not_or] at h
    show delG (delL G bs) c b = G b
    rw [delG_ne h.1]
    exact delL_off h.2
theorem rep_delL {K : PySem.W.Frag} {G : Hp} {d : D} {v : V} (hd : nrD d = true) (r : Rep K G d v) : ∀ {bs : List Addr}, bs.Nodup → (∀ b ∈ bs, ∃ od vs, G b = some (.frz od (.lst vs))) → Rep K (delL G bs) d v
  | [], _, _ => r
  | b :: bs, hn, h => by
    rw [List.nodup_cons] at hn
    obtain ⟨od, vs, e⟩ := h b (List.mem_cons_self ..)
    exact Rep.nr ((delL_off hn.1).trans e) hd (rep_delL hd r hn.2 fun c hc => h c (List.mem_cons_of_mem _ hc))
theorem lockN_go {K : PySem.W.Frag} {σ : L2.St} {H : Hp} : ∀ {gs : List (Addr × D)} {cs : List D}, RoA gs cs → ∀ {G : Hp} {t : TE} {Q : VK}, Le G H → (gs.map (·.1)).Nodup → (∀ g ∈ gs, G g.1 = none ∧ OwnAt K G H g.1 g.2) →
    (∀ H1 G', Le G G' → Le G' H1 → (∀ b, b ∉ gs.map (·.1) → G' b = G b) → (∀ b, b ∉ gs.map (·.1) → H1 b = H b) → (∀ p ∈ (gs.map (·.1)).zip cs, Rep K G' p.2 (.ref p.1)) → (∀ b ∈ gs.map (·.1), ∃ od vs, G' b = some (.frz od (.lst vs)) ∧ H b = some (.lst vs)) →
      ∀ Q' : VK, (∀ v H', (∀ b ∈ gs.map (·.1), H' b = H1 b) → (∀ H'', (∀ b, b ∉ gs.map (·.1) → H'' b = H' b) → (∀ b ∈ gs.map (·.1), H'' b = H b) → Q v H'') → Q' v H') → t σ H1 Q') →
    tLockK gs.length t σ H Q
  | _, _, .nil, G, t, Q, le, _, _, k => by
    refine k H G (Le.refl G) le (fun _ _ => rfl) (fun _ _ => rfl) (fun _ h => nomatch h) (fun _ h => nomatch h) Q fun v H' _ h => ?_
    exact h H' (fun _ _ => rfl) fun _ h => nomatch h
  | _, _, .cons (b := b) (ds := ds) (es := es) (gs := gs) (cs := cs) h u, G, t, Q, le, hn, hg, k => by
    rw [List.map_cons, List.nodup_cons] at hn
    refine lockN_go h (G := G) (t := tLockE t) (Q := Q) le hn.2 (fun g hm => hg g (List.mem_cons_of_mem _ hm)) fun H1 G1 l1 l2 off offH rp fz Q1 hQ1 => ?_
    obtain ⟨g0, vs, hH, rl⟩ := hg (b, .lst ds) (List.mem_cons_self ..)
    have hH1 : H1 b = some (.lst vs) := (offH b hn.1).trans hH
    have g1 : G1 b = none := (off b hn.1).trans g0
    refine ⟨b, .lst vs, hH1, trivial, fun od => ?_⟩
    have le1 : Le G1 (upd G1 b (.frz od (.lst vs))) := .of_same fun c o q => by rw [upd_ne (ne_of_none q g1)]; exact q
    refine k _ (upd G1 b (.frz od (.lst vs))) (l1.trans le1) (fun c o q => ?_) (fun c hc => ?_) (fun c hc => ?_) (fun p hp => ?_) (fun c hc => ?_) _ fun v H' h1 h2 => ?_
    · by_cases z : c = b
      · subst z
        rw [upd_same] at q ⊢
        exact ⟨_, q, rfl⟩
      · rw [upd_ne z] at q ⊢
        exact l2 c o q
    · rw [List.map_cons, List.mem_cons, not_or] at hc
      rw [upd_ne hc.1]
      exact off c hc.2
    · rw [List.map_cons, List.mem_cons, not_or] at hc
      rw [upd_ne hc.1]
      exact offH c hc.2
    · rw [List.map_cons, List.zip_cons_cons] at hp
      rcases List.mem_cons.mp hp with rfl | hp
      · exact .rol upd_same ((rl.mono (l1.trans le1)).up (fun p hp => (rp p hp).mono le1) u)
      · exact (rp p hp).mono le1
    · by_cases z : c = b
      · subst z
        exact ⟨od, vs, upd_same, hH⟩
      · rw [List.map_cons, List.mem_cons] at hc
        obtain ⟨o2, v2, e1, e2⟩ := fz c (hc.resolve_left z)
        exact ⟨o2, v2, by rw [upd_ne z]; exact e1, e2⟩
    · have hb : H' b = some (.frz od (.lst vs)) := by rw [h1 b (List.mem_cons_self ..), upd_same]
      refine ⟨hb, hQ1 v _ (fun c hc => ?_) fun H'' k1 k2 => ?_⟩
      · have z : c ≠ b := fun z => hn.1 (z ▸ hc)
        rw [upd_ne z, h1 c (List.mem_cons_of_mem _ hc), upd_ne z]
      · refine h2 H'' (fun c hc => ?_) fun c hc => ?_
        · rw [List.map_cons, List.mem_cons, not_or] at hc
          rw [k1 c hc.2, upd_ne hc.1]
        · rw [List.map_cons, List.mem_cons] at hc
          rcases hc with z | hc
          · rw [z, k1 b hn.1, upd_same, hH]
          · exact k2 c hc
def dLendG (i : Nat) (δ : DE) : DE := fun x ρ n q => ∃ r gs cs r', ρ[i]? = some (some (.gst r gs)) ∧ RoA gs cs ∧ Up ((gs.map (·.1)).zip cs) r r' ∧ δ (x0 x.w) (ρ.set i (some (.val r'))) n fun d n1 => nrD d = true ∧ q d n1
theorem ed_lendG {K : PySem.W.Frag} {W : WX} {t : TE} {δ : DE} (h : ED K W t δ) (i : Nat) : ED K W (tLockN t) (dLendG i δ) := by
  intro B σ H ρ n G α Q x q hK R hx hd k
  obtain ⟨r, gs, cs, r', eg, ro, up, hd⟩ := hd
  obtain ⟨⟨v0, hv0, hr⟩, nd⟩ := R.gh.gst i r gs eg
  have at_ := R.gh.at_ i r gs eg
  refine ⟨gs.length, lockN_go (K := B.K) (G := G) ro R.le nd (fun g hm => ⟨(at_ g hm).1, (at_ g hm).2.2.2⟩) fun H1 G' le leH off offH rp fz Q' hQ' => ?_⟩
  have R1 := (R.growG eg le leH off offH).set i (Rep.up rp up (hr.mono le))
  rw [set_same hv0, List.set_set] at R1
  refine h B σ H1 _ n G' α _ _ _ hK R1 (by rw [hx.1]; exact xl0) hd fun v H2 G2 d n1 s1 j1 r1 h1 => ?_
  obtain ⟨hnr, h1⟩ := h1
  have fz2 : ∀ b ∈ gs.map (·.1), ∃ od vs, G2 b = some (.frz od (.lst vs)) := fun b hb => by
    obtain ⟨od, vs, e, _⟩ := fz b hb
    exact ⟨od, vs, s1.le.get e⟩
  have g0 : ∀ b ∈ gs.map (·.1), G b = none ∧ ¬ B.W.rg b := fun b hb => by
    obtain ⟨g, hm, rfl⟩ := List.mem_map.mp hb
    exact ⟨(at_ g hm).1, (at_ g hm).2.2.1⟩
  refine hQ' v H2 (fun b hb => ?_) fun H3 e1 e2 => ?_
  · obtain ⟨od, vs, e, _⟩ := fz b hb
    rw [s1.hh.get (s1.le.get e), leH.get e]
  · have s2 : Step B.W H G H3 (delL G2 (gs.map (·.1))) := by
      refine ⟨fun b o e r => ?_, fun b o e => ?_, fun b o e => ?_, fun b e => ?_⟩
      · by_cases z : b ∈ gs.map (·.1)
        · rw [e2 b z]; exact e
        · rw [e1 b z]
          exact s1.fr b o (by rw [offH b z]; exact e) r
      · have z : b ∉ gs.map (·.1) := fun z => by rw [(g0 b z).1] at e; cases e
        obtain ⟨o', e', c⟩ := (le.trans s1.le) b o e
        exact ⟨o', (delL_off z).trans e', c⟩
      · by_cases z : b ∈ gs.map (·.1)
        · rw [delL_mem z] at e; cases e
        · rw [delL_off z] at e
          obtain ⟨o', e', c⟩ := s1.hh b o e
          exact ⟨o', (e1 b z).trans e', c⟩
      · by_cases z : b ∈ gs.map (·.1)
        · rw [delL_mem z] at e; exact (e rfl).elim
        · rw [delL_off z] at e
          rcases s1.new b e with q | ⟨q, r⟩
          · rw [off b z] at q; exact .inl q
          · rw [offH b z] at q; exact .inr ⟨q, r⟩
    have j2 : B.W.J n1 H3 := B.W.stable n1 H2 _ (fun b hb => e1 b fun z => (g0 b z).2 hb) (fun b e q => (e1 b fun z => by
      obtain ⟨od, vs, f⟩ := fz2 b z
      rw [s1.hh.get f] at q; cases q).trans q) j1
    exact k v _ _ d n1 s2 j2 (hK ▸ rep_delL hnr (hK ▸ r1) nd fz2) h1
section
variable {X : Cx} {W : WX} {e : Expr} {δ : DE}
theorem pd_lendG (i : Nat) (he : PD X W e δ) : PD X W e (dLendG i δ) := by
  obtain ⟨t, p, h⟩ := he
  exact ⟨_, pe_lockN p, ed_lendG h i⟩
end
section
variable {X : Cx} {W : WX} {e : Expr} {δ : DSl}
end
theorem ro_list {a : Addr} {bs : List Addr} {cs : List (List D)} (hl : bs.length = cs.length) : RoA ((a, .lst (bs.map D.hnd)) :: bs.zip (cs.map D.lst)) (.rol (cs.map D.rol) :: cs.map D.rol) ∧ Up ((((a, D.lst (bs.map D.hnd)) :: bs.zip (cs.map D.lst)).map (·.1)).zip (.rol (cs.map D.rol) :: cs.map D.rol)) (.hnd a) (.rol (cs.map D.rol)) := by
  have rfl1 : ∀ {m : List (Addr × D)} (c : List D), UpL m c c := fun {m} c => by
    induction c with
    | nil => exact .nil
    | cons d c ih => exact .cons (.refl d) ih
  have f1 : ∀ {bs : List Addr} {cs : List (List D)}, bs.length = cs.length → RoA (bs.zip (cs.map D.lst)) (cs.map D.rol) := fun {bs} => by
    induction bs with
    | nil => intro cs h; rw [List.length_eq_zero_iff.mp h.symm]; exact .nil
    | cons b bs ih =>
      intro cs h
      cases cs with
      | nil => simp at h
      | cons c cs => exact .cons (ih (by simpa using h)) (rfl1 c)
  have e1 : (bs.zip (cs.map D.lst)).map (·.1) = bs := List.map_fst_zip (by rw [List.length_map]; omega)
  have f2 : ∀ {m : List (Addr × D)} {bs : List Addr} {cs : List (List D)}, bs.length = cs.length → (∀ x ∈ bs.zip (cs.map D.rol), x ∈ m) → UpL m (bs.map D.hnd) (cs.map D.rol) := fun {m bs} => by
    induction bs with
    | nil => intro cs h _; rw [List.length_eq_zero_iff.mp h.symm]; exact .nil
    | cons b bs ih =>
      intro cs h hm
      cases cs with
      | nil => simp at h
      | cons c cs => exact .cons (.hnd (hm _ (List.mem_cons_self ..))) (ih (by simpa using h) fun x hx => hm x (List.mem_cons_of_mem _ hx))
  refine ⟨.cons (f1 hl) (f2 hl fun x hx => by rw [e1]; exact hx), .hnd ?_⟩
  rw [List.map_cons, List.zip_cons_cons]
  exact List.mem_cons_self ..
theorem dLendG_at {i : Nat} {δ : DE} {x : DX} {ρ : DL.Env} {n : Nat} {q : DQ} {r r' : D} {gs : List (Addr × D)} {cs : List D} (h : ρ[i]? = some (some (.gst r gs))) (ro : RoA gs cs) (up : Up ((gs.map (·.1)).zip cs) r r') (k : δ (x0 x.w) (ρ.set i (some (.val r'))) n fun d n1 => nrD d = true ∧ q d n1) : dLendG i δ x ρ n q := ⟨r, gs, cs, r', h, ro, up, k⟩
section
variable {X : Cx} {W : WX} {elt tg iter : Expr} {ifs : List Expr} {scope : Scope} {pos spos py : Pos} {ι : DI} {γ : DG} {τ : DT} {δ : DE} {sl : List Nat} {y : Str}
end
end DL

end

section
set_option autoImplicit false
namespace DL
open PySem PySem.Spec PyProof.Rows L2 LamX
inductive HV where
  | con (v : V)
  | fld (f : Str)
def valT (K : PySem.W.Frag) (c : Str) (cls : Value) (dd : Option Addr) (H : Hp) : HV → V → Prop
  | .con v0, v => v = v0
  | .fld f, v => cls = .ref (ca K c) ∧ ∃ (d0 : Addr) (ws : List (Str × V)), dd = some d0 ∧ H d0 = some (.xd ws) ∧ ws.lookup f = some v
def CatchT (K : PySem.W.Frag) (cls : Value) (dd : Option Addr) (H : Hp) : List (Str × Str × HV) → VK → Prop
  | [], _ => False
  | (c, s, p) :: l, k => ∃ b, PySem.W.exmOne K cls (.ref (ca K c)) = some b ∧ (b = true → ∃ v, valT K c cls dd H p v ∧ ∀ q, H q = none → k (.ref q) (upd H q (.tup [.str s, v]))) ∧ (b = false → CatchT K cls dd H l k)
theorem CatchT.imp {K : PySem.W.Frag} {cls : Value} {dd : Option Addr} {H : Hp} {k k' : VK} (h : ∀ v H', k v H' → k' v H') : ∀ {l : List (Str × Str × HV)}, CatchT K cls dd H l k → CatchT K cls dd H l k'
  | [], z => z.elim
  | (c, s, p) :: l, ⟨b, e, h1, h2⟩ => ⟨b, e, fun hb => (h1 hb).imp fun v z => ⟨z.1, fun q nq => h _ _ (z.2 q nq)⟩, fun hb => CatchT.imp h (h2 hb)⟩
def tPair (a b : TE) : TE := tTup (tCons a (tCons b tNil))
inductive HdsT (K : PySem.W.Frag) (z : Str) (j : Nat) (y : Str) : List ExceptHandler → List (Str × Str × HV) → Prop
  | nil : HdsT K z j y [] []
  | con {c s : Str} {e : Expr} {v : V} {k0 x1 : Nat} {np p1 p2 p3 p5 p6 : Pos} {hds : List ExceptHandler} {l : List (Str × Str × HV)} (he : ∀ Y : Cx, PE Y e (tC v)) (hst : ∀ Y : Cx, starEach [e] Y.env = (false, eval e Y.env) :: starEach [] Y.env) (r : HdsT K z j y hds l) :
      HdsT K z j y (.ExceptHandler (some (.Name c np)) none [.Assign [.Name z p1] (.Tuple [.Constant (.str s) k0 p2, e] x1 p3) p5] p6 :: hds) ((c, s, .con v) :: l)
  | fld {c s f : Str} {k0 x1 : Nat} {np p1 p2 p3 p4 p5 p6 p7 : Pos} {hds : List ExceptHandler} {l : List (Str × Str × HV)} (T : XfC K (ca K c)) (hno : PySem.W.findIn K (.ref (ca K c)) f = some none) (r : HdsT K z j y hds l) :
      HdsT K z j y (.ExceptHandler (some (.Name c np)) (some y) [.Assign [.Name z p1] (.Tuple [.Constant (.str s) k0 p2, .Attribute (.Name y p3) f p4] x1 p7) p5] p6 :: hds) ((c, s, .fld f) :: l)
def clT (K : PySem.W.Frag) (i j : Nat) : Str × Str × HV → Cl3
  | (c, s, .con v) => (.ref (ca K c), none, fun _ _ _ => tAsg (tPair (tC (.str s)) (tC v)) (gName i))
  | (c, s, .fld f) => (.ref (ca K c), some j, fun a cl d => tAsg (tPair (tC (.str s)) (tXf a cl d (ca K c) f (tVar j))) (gName i))
section
variable {X : Cx}
theorem HdsT.ok {z y : Str} {i j : Nat} {hds : List ExceptHandler} {l : List (Str × Str × HV)} (h : HdsT X.K z j y hds l) (hN : X.N.Nodup) (hi : X.N[i]? = some z) (hx : X.env.scope.names.lookup z = some .local) (hj : X.env.kindOf y = some .local ∨ ∀ q ∈ l, ∀ f, q.2.2 ≠ .fld f) (hjN : X.N[j]? = some y ∨ ∀ q ∈ l, ∀ f, q.2.2 ≠ .fld f) (hjv : X.env.scope.names.lookup y = some .local ∨ ∀ q ∈ l, ∀ f, q.2.2 ≠ .fld f) (hyd : (y == ("__debug__" : Str)) = false) (hyc : (y == ("__classdict__" : Str)) = false)
    (hn : ∀ q ∈ l, Names X q.1 (.ref (ca X.K q.1))) : ClsA X hds (l.map (clT X.K i j)) := by
  induction h with
  | nil => exact .nil
  | @con c s e v k0 x1 np p1 p2 p3 p5 p6 hds l he hst r ih =>
    have nx : ∀ {A : Prop}, (A ∨ ∀ q ∈ (c, s, HV.con v) :: l, ∀ f, q.2.2 ≠ HV.fld f) → A ∨ ∀ q ∈ l, ∀ f, q.2.2 ≠ HV.fld f := fun {A} h => h.imp_right fun h q hq => h q (List.mem_cons_of_mem _ hq)
    exact .plain (hn _ List.mem_cons_self) (fun a ob cl d pn _ _ => pss_one (ps_set hN hi (.inl hx) (pe_tup (pa_cons pe_str (pa_cons (he _) pa_nil (hst _)))) (hf := .inr hx))) (ih (nx hj) (nx hjN) (nx hjv) fun q hq => hn q (List.mem_cons_of_mem _ hq))
  | @fld c s f k0 x1 np p1 p2 p3 p4 p5 p6 p7 hds l T hno r ih =>
    have nx : ∀ {A : Prop}, (A ∨ ∀ q ∈ (c, s, HV.fld f) :: l, ∀ f, q.2.2 ≠ HV.fld f) → A ∨ ∀ q ∈ l, ∀ f, q.2.2 ≠ HV.fld f := fun {A} h => h.imp_right fun h q hq => h q (List.mem_cons_of_mem _ hq)
    have at_ : ∀ {A : Prop}, (A ∨ ∀ q ∈ (c, s, HV.fld f) :: l, ∀ f, q.2.2 ≠ HV.fld f) → A := fun {A} h => h.elim id fun h => absurd rfl (h _ List.mem_cons_self f)
    exact .named hN (at_ hjN) (at_ hj) (hn _ List.mem_cons_self) (fun a ob cl d pn hz hf => pss_one (ps_set hN hi (.inl hx) (pe_tup (pa_cons pe_str (pa_cons (pe_xf (X := X) T hno hz hf (pe_var (at_ hjN) (.inl (at_ hjv)) hyd hyc)) pa_nil))) (hf := .inr hx))) (ih (nx hj) (nx hjN) (nx hjv) fun q hq => hn q (List.mem_cons_of_mem _ hq))
end
inductive HD where
  | con (d : D)
  | fld (f : Str)
def catchT (sub : Str → Str → Bool) (c : Str) (fs : List (Str × D)) : List (Str × Str × HD) → (D → Prop) → Prop
  | [], _ => False
  | (c', s, .con d) :: l, k => if sub c c' = true then k (.tup [.str s, d]) else catchT sub c fs l k
  | (c', s, .fld f) :: l, k => if sub c c' = true then c = c' ∧ opt (fs.lookup f) fun d => k (.tup [.str s, d]) else catchT sub c fs l k
def dLamT (LW : Wd → Prop) (XS : List Str) (sub : Str → Str → Bool) (hs : List (Str × Str × HD)) (s0 : Str) (δ : DE) : DE := fun x ρ n q => LW x.w ∧ δ { x with ex := fun e n' => e.1 ∈ XS ∧ catchT sub e.1 e.2 hs fun d => q d n' } ρ n fun d n' => q (.tup [.str s0, d]) n'
section
variable {X : Cx} {W : WX}
end
section
variable {X : Cx} {W : WX}
def dEither (a b : DE) : DE := fun x ρ n q => a x ρ n q ∨ b x ρ n q
def dHeld (i : Nat) (f : Addr) (δ : DE) : DE := fun x ρ n q => ρ[i]? = some (some (.val (.hnd f))) ∧ δ x ρ n q
end
structure XfD (K : PySem.W.Frag) (c f : Str) : Prop where
  t : XfC K (ca K c)
  no : PySem.W.findIn K (.ref (ca K c)) f = some none
def xfdB (c f : Str) (K : PySem.W.Frag) : Bool := xfB K (ca K c) && decide (PySem.W.findIn K (.ref (ca K c)) f = some none)
theorem xfdB_ok {c f : Str} {K : PySem.W.Frag} (h : xfdB c f K = true) : XfD K c f := by
  have h' := Bool.and_eq_true_iff.mp h
  exact ⟨xfB_ok h'.1, of_decide_eq_true h'.2⟩
end DL

end

section
set_option autoImplicit false
namespace DL
open PySem PySem.Spec PySem.SeqAt L2
open AutoSeq1 (wpAny_loadPart')
open MeetsSeq MeetsSeq2 MeetsSeq3 SeqRoads2
section
variable {prog : Program} {w : World} {A : Around} {R : Result → Shared → Prop}
end
section
variable {prog : Program} {w : World} {A : Around} {E : Value → Shared → Prop} {s : Shared} {l m : Addr} {b : Nat → Bool} {Q : Value → Shared → Prop} {xs ys : Array Value}
end
section
variable {X : Cx} {W : WX} {Q : Str → D → D → Bool → Prop} {n0 : Nat}
variable {a b : Expr} {δa δb : DE} {pos : Pos}
def TpX (Q : Str → D → D → Bool → Prop) (us vs : List D) (r : Bool) : Prop := us.length = vs.length ∧ ∃ b : Nat → Bool, r = allB b 0 us.length ∧ ∀ i x y, us[i]? = some x → vs[i]? = some y → EqX Q 3 x y (b i)
def dEqXT (Q : Str → D → D → Bool → Prop) (neg : Bool) (a b : DE) : DE := fun x ρ n q => a x ρ n fun u n1 => b x ρ n1 fun v n2 => ∃ us vs r, u = .tup us ∧ v = .tup vs ∧ TpX Q us vs r ∧ q (.bl (r != neg)) n2
end
end DL

end

section
set_option autoImplicit false
namespace DL
open PySem PySem.Spec PyProof.Rows L2 LamX
structure FnG (P : Program) (w : World) (K : PySem.W.Frag) (mg : Str → Option Value) (base : Heap) (CX : CXT) (k : Nat) (f : Addr) (fd : FuncData) (ps : List Str) (sp : Sp) : Prop where
  many : ∀ {xs H Q E}, sp xs H Q E → xs.length = ps.length
  go : ∀ (A : Around), A.guards = some [] → Room k A → ∀ (out : List PySem.Env) (s : Shared) (H : Hp) (as : Args) (us : List Value) (xs : List V) (Q : VK) (E : XK), Env0 P w K mg base A out s H → BindsTo s fd as (ps.zip us) → Vals xs us → sp xs H Q E →
    codeAny (model P w) A (.call (.ref f) as) (CR CX out P w H s Q E) s
section
variable {P : Program} {w : World} {K : PySem.W.Frag} {mg mb : Str → Option Value} {CX : CXT} {k : Nat} {fa a : Addr} {tb : List (Addr × Addr)} {fd : FuncData} {x : Str} {sp : Sp} {s : Shared} {vs : List Value} {ns : List Int}
end
def seqLike : D → Bool
  | .lst _ => true
  | .tup _ => true
  | _ => false
def fRepr : FL := f1 fun d k => seqLike d = true ∧ SeqAt.shaped (pyD d) = true ∧ (pyD d).showable = true ∧ (pyD d).depth ≤ 40 ∧ (pyD d).shown.length ≤ 16777216 ∧ k (.str (pyD d).shown)
abbrev DSX := DEnds → Env → Nat → (D → Env → Nat → Prop) → Prop
def dSetd (i : Nat) (δk δv : DE) : DSX := fun E ρ n q => match ρ[i]? with
  | some (some (.own (.dct kvs))) => δk (E.xx ρ) ρ n fun k n1 => δv (E.xx ρ) ρ n1 fun d n2 => opt (keyD k) fun j => kvs.length < 16777216 ∧ (∀ e, getD kvs j = some e → q e ρ n2) ∧ (getD kvs j = none → q d (ρ.set i (some (.own (.dct (putD kvs j d))))) n2)
  | _ => False
def dNeX (a : DSX) (b : DE) : DSX := fun E ρ n q => a E ρ n fun x ρ1 n1 => b (E.xx ρ1) ρ1 n1 fun y n2 => fNe x y fun d => q d ρ1 n2
def dOrX (a : DSX) (b : DE) : DSX := fun E ρ n q => a E ρ n fun x ρ1 n1 => ∃ c, x = .bl c ∧ if c = true then q (.bl true) ρ1 n1 else b (E.xx ρ1) ρ1 n1 fun y n2 => q y ρ1 n2
def dSetX (j : Nat) (a : DSX) : DS := fun E ρ n => a E ρ n fun d ρ1 n1 => E.nx (ρ1.set j (some (.val d))) n1
section
variable {X : Cx} {W : WX} {a b k e : Expr} {δa : DSX} {δk δv δb : DE} {pos pos' apos cpos p2 : Pos} {x : Str}
end
end DL

end

section
set_option autoImplicit false
namespace DL
open PySem PySem.Spec PyProof.Rows L2
def flatE : D → Bool
  | .non => true
  | .bl _ => true
  | .int _ => true
  | .str _ => true
  | .dct [] => true
  | _ => false
section
variable {X : Cx} {pins : List (Addr × Obj)} {σ : L2.St} {H G : Hp} {s : Shared}
end
def ReprOk (d : D) : Prop := (seqLike d = true ∧ SeqAt.shaped (pyD d) = true) ∨ ∃ ds, d = .tup ds ∧ ds.all flatE = true
def fReprX : FL := f1 fun d k => ReprOk d ∧ (pyD d).showable = true ∧ (pyD d).depth ≤ 40 ∧ (pyD d).shown.length ≤ 16777216 ∧ k (.str (pyD d).shown)
end DL

end

section
set_option autoImplicit false
namespace DL
open PySem PySem.Spec PyProof.Rows L2
open AutoSeq1 (wpAny_loadPart')
open MeetsSeq MeetsSeq2 MeetsSeq3 SeqRoads2
section
variable {prog : Program} {w : World} {A : Around} {E : Value → Shared → Prop} {s : Shared}
end
def fEqE : F2 := fun x y k => fEq x y k ∨ (x = .dct [] ∧ (∃ i, y = .int i) ∧ k (.bl false))
def fIsnE : F2 := fun x y k => fIsB true x y k ∨ ∃ i b, x = .int i ∧ y = .bl b ∧ k (.bl true)
end DL

end

section
set_option autoImplicit false
namespace DL
open PySem PySem.Spec PyProof.Rows L2 L2H HotX
section
variable {prog : Program} {w : World} {A : Around} {s : Shared} {E : Value → Shared → Prop}
end
end DL

end

section
set_option autoImplicit false
namespace DL
open PySem PySem.Spec L2
section
variable {K : PySem.W.Frag}
end
end DL

end

section
set_option autoImplicit false
namespace DL
open PySem PySem.Spec PyProof.Rows L2
open AutoSeq1 (wpAny_loadPart')
def rNil (neg : Bool) : R2 := fun x y H Q => ∃ (a b : Addr) (vs : List V), x = .ref a ∧ y = .ref b ∧ H a = some (.lst vs) ∧ H b = some (.lst []) ∧ Q (.bl (vs.isEmpty != neg)) H
def fNil (neg : Bool) : F2 := fun x y k => match x, y with
  | .lst ds, .lst [] => k (.bl (ds.isEmpty != neg))
  | _, _ => False
theorem op_neNil {X : Cx} (hu : X.A.units + 64 < cLine) : OpR X (compareOp .NotEq) (rNil true) := by
  intro pins s σ H x y v u Q I rx ry h
  obtain ⟨a, b, vs, rfl, rfl, ha, hb, q⟩ := h
  obtain rfl : v = Value.ref a := rx
  obtain rfl : u = Value.ref b := ry
  obtain ⟨z, is, n1, r1, o1⟩ := I.hok _ _ ha
  obtain ⟨z2, js, n2, r2, o2⟩ := I.hok _ _ hb
  show wpAny _ _ (richCompare .NotEq (.ref a) (.ref b)) _ _ _
  cases r2
  cases r1 with
  | nil => exact rc_neB (N := 0) (b := fun _ => true) (by omega) (fun s1 => s1 = s) (fun s1 e => by
      subst e
      exact ⟨_, _, n1, n2, o1, o2, rfl, rfl, fun i h1 _ => absurd h1 (Nat.not_lt_zero _)⟩) (fun s1 e => by subst e; exact ⟨.bl false, H, I, rfl, q⟩) rfl
  | cons r t => exact rc_neD (by omega) o1 o2 (by rw [List.size_toArray, List.size_toArray, List.length_cons]; exact Nat.succ_ne_zero _) ⟨.bl true, H, I, rfl, q⟩
theorem dop_nil {K : PySem.W.Frag} (neg : Bool) : DOp K (rNil neg) (fNil neg) := by
  intro W H G x y dx dy Q k le rx ry hf hk
  unfold fNil at hf
  split at hf
  · rename_i ds
    obtain ⟨a, vs, rfl, h1, r1⟩ := rx.lst le
    obtain ⟨b, us, rfl, h2, r2⟩ := ry.lst le
    cases r2
    refine ⟨a, b, vs, rfl, rfl, h1, h2, ?_⟩
    have e : vs.isEmpty = ds.isEmpty := by
      cases r1 <;> rfl
    rw [e]
    exact hk _ H G _ (.refl le) (.bl _) hf
  · exact hf.elim
section
variable {X : Cx} {W : WX} {a b : Expr} {δa δb : DE} {pos : Pos}
theorem pt_neNil (hu : X.A.units + 64 < cLine) (ha : PB X W a δa) (hb : PB X W b δb) : PTD X W (.Compare a [.NotEq] [b] pos) (dTest (dOp (fNil true) δa δb)) := pt_cmpD (op_neNil hu) (dop_nil _) ha hb (nomark _)
end
end DL

end

set_option maxHeartbeats 0
namespace My
open PySem PySem.Spec L2 DL
def top (i : Nat) : Stmt := PySem.Challenge.pw_seenrows_k01_filters_made.main.body.getD i (.Pass ⟨0, 0, 0, 0⟩)
def fn : List He.DefD := [
  ⟨("is_integer", none), "is_integer", "is_integer", defArgs (top 2), defBody (top 2), defScope (top 2), [], []⟩,
  ⟨("is_list", none), "is_list", "is_list", defArgs (top 3), defBody (top 3), defScope (top 3), [], []⟩,
  ⟨("is_prime", none), "is_prime", "is_prime", defArgs (top 4), defBody (top 4), defScope (top 4), [], []⟩,
  ⟨("BadPrime", some "__init__"), "__init__", "BadPrime.__init__", defArgs (inClass (top 8) 0), defBody (inClass (top 8) 0), defScope (inClass (top 8) 0), [], []⟩,
  ⟨("BadTerm", some "__init__"), "__init__", "BadTerm.__init__", defArgs (inClass (top 9) 0), defBody (inClass (top 9) 0), defScope (inClass (top 9) 0), [], []⟩,
  ⟨("is_term", none), "is_term", "is_term", defArgs (top 20), defBody (top 20), defScope (top 20), [], []⟩,
  ⟨("Filter", some "__init__"), "__init__", "Filter.__init__", defArgs (inClass (top 22) 0), defBody (inClass (top 22) 0), defScope (inClass (top 22) 0), [.adr (He.dflAt ("Filter", some "__init__") 0)], []⟩,
  ⟨("Filter", some "__getitem__"), "__getitem__", "Filter.__getitem__", defArgs (inClass (top 22) 2), defBody (inClass (top 22) 2), defScope (inClass (top 22) 2), [], []⟩,
  ⟨("Filter", some "__bool__"), "__bool__", "Filter.__bool__", defArgs (inClass (top 22) 4), defBody (inClass (top 22) 4), defScope (inClass (top 22) 4), [], []⟩,
  ⟨("Filter", some "__eq__"), "__eq__", "Filter.__eq__", defArgs (inClass (top 22) 5), defBody (inClass (top 22) 5), defScope (inClass (top 22) 5), [], []⟩,
  ⟨("Filter", some "terms"), "terms", "Filter.terms", defArgs (inClass (top 22) 7), defBody (inClass (top 22) 7), defScope (inClass (top 22) 7), [], []⟩,
  ⟨("Filter", some "low"), "low", "Filter.low", defArgs (inClass (top 22) 8), defBody (inClass (top 22) 8), defScope (inClass (top 22) 8), [], []⟩,
  ⟨("Filter", some "high"), "high", "Filter.high", defArgs (inClass (top 22) 9), defBody (inClass (top 22) 9), defScope (inClass (top 22) 9), [], []⟩,
  ⟨("Filter", some "span"), "span", "Filter.span", defArgs (inClass (top 22) 10), defBody (inClass (top 22) 10), defScope (inClass (top 22) 10), [], []⟩,
  ⟨("_law_spring", none), "_law_spring", "_law_spring", defArgs (top 24), defBody (top 24), defScope (top 24), [], []⟩,
  ⟨("_law_draw", none), "_law_draw", "_law_draw", defArgs (top 25), defBody (top 25), defScope (top 25), [], []⟩,
  ⟨("_law_pick", none), "_law_pick", "_law_pick", defArgs (top 26), defBody (top 26), defScope (top 26), [], []⟩,
  ⟨("_law_same", none), "_law_same", "_law_same", defArgs (top 27), defBody (top 27), defScope (top 27), [], []⟩,
  ⟨("_law_held", none), "_law_held", "_law_held", defArgs (top 28), defBody (top 28), defScope (top 28), [], []⟩,
  ⟨("_law_pairs", none), "_law_pairs", "_law_pairs", defArgs (top 29), defBody (top 29), defScope (top 29), [], []⟩,
  ⟨("_law_prime", none), "_law_prime", "_law_prime", defArgs (top 30), defBody (top 30), defScope (top 30), [], []⟩,
  ⟨("_law_other", none), "_law_other", "_law_other", defArgs (top 31), defBody (top 31), defScope (top 31), [], []⟩,
  ⟨("_law_terms", none), "_law_terms", "_law_terms", defArgs (top 32), defBody (top 32), defScope (top 32), [], []⟩,
  ⟨("_law_shows", none), "_law_shows", "_law_shows", defArgs (top 33), defBody (top 33), defScope (top 33), [], []⟩,
  ⟨("_law_told_otherwise", none), "_law_told_otherwise", "_law_told_otherwise", defArgs (top 34), defBody (top 34), defScope (top 34), [], []⟩,
  ⟨("law", none), "law", "law", defArgs (top 35), defBody (top 35), defScope (top 35), [], []⟩]
def fa : List He.Fa := [.glo "PRIMES", .glo "is_integer", .glo "is_list", .glo "is_prime", .glo "inverse", .glo "SeenError", .glo "BadPrime", .glo "BadTerm", .glo "UnlikePrimes", .glo "ZeroFilter", .glo "divided", .glo "product_rest", .glo "shift_rest", .glo "far_rest", .glo "check_primes", .int "NEAR" (2000), .glo "is_term", .glo "divisor_of", .glo "Filter", .glo "_law_spring", .glo "_law_draw", .glo "_law_pick", .glo "_law_same", .glo "_law_held", .glo "_law_pairs", .glo "_law_prime", .glo "_law_other", .glo "_law_terms", .glo "_law_shows", .glo "_law_told_otherwise", .glo "law", .free "isinstance", .free "len", .free "sorted", .free "dict", .free "list", .free "tuple", .free "int", .free "bool", .free "abs", .free "all", .free "any", .free "enumerate", .free "range", .free "zip", .free "min", .free "max", .free "sum", .free "str", .free "reversed", .free "divmod", .free "repr", .free "iter", .free "super", .free "ValueError", .free "TypeError", .mkr "Filter", .meth "Filter" "__init__", .meth "Filter" "__getitem__", .meth "Filter" "__bool__", .meth "Filter" "__eq__", .meth "Filter" "terms", .meth "Filter" "low", .meth "Filter" "high", .meth "Filter" "span", .noat "Filter" "kept", .noat "Filter" "prime", .noat "Filter" "held"]
def CS : List Str := ["Filter"]
def sub (a b : Str) : Bool := decide (a = b)
def XS : List Str := ["BadPrime", "BadTerm"]
def xsub (a b : Str) : Bool := decide (a = b)
def tfn : List Str := []
def tf : List He.Defn := tfn.map fun x => (x, none)
theorem tf_mem {x : Str} (h : x ∈ tfn) : ((x, none) : He.Defn) ∈ tf := List.mem_map.mpr ⟨x, h, rfl⟩
abbrev TBs (K : PySem.W.Frag) (mg : Str → Option Value) (base : Heap) : Prop := ∀ x ∈ tfn, LamX.TabB base mg (He.cT K (x, none)).1 (He.cT K (x, none)).2
def cmf : List He5.DefA := [⟨cmA "Filter" "shift", "shift", "Filter.shift", defArgs (inClass (top 22) 1), defBody (inClass (top 22) 1), defScope (inClass (top 22) 1), [], []⟩]
def exL (K : PySem.W.Frag) : List Bool := [chkTy CS sub K,
  tupAt K (He.ga K "PRIMES") [.int 2, .int 3, .int 5, .int 7],
  tupAt K (He.dflAt ("Filter", some "__init__") 0 K) [],
  excB "BadPrime" K,
  excB "BadTerm" K,
  eqB CS "Filter" K,
  getB "Filter" K,
  neB CS "Filter" K,
  seB "SeenError" K,
  xsB XS xsub K,
  rdB "Filter" K,
  cmB "Filter" "shift" K,
  tblB tfn K,
  xfdB "BadPrime" "prime" K,
  xfdB "BadTerm" "index" K]
def exB (K : PySem.W.Frag) : Bool := (exL K).all id
structure Top (K : PySem.W.Frag) (mg : Str → Option Value) : Prop where
  says : He.SaysD fa fn K
  exb : exB K = true
  cm : He5.SaysA [] cmf K
  h : ∃ h : Heap, K.In h ∧ h.Ns mainGlobals mg
section
variable {K : PySem.W.Frag} {mg : Str → Option Value}
theorem Top.ex (T : Top K mg) (i : Nat) {b : Bool} (h : (exL K)[i]? = some b := by rfl) : b = true := List.all_eq_true.mp T.exb b (List.mem_of_getElem? h)
theorem Top.g_PRIMES (T : Top K mg) : mg "PRIMES" = some (.ref (ca K "PRIMES")) := let ⟨_, X, G⟩ := T.h; He.glo_ok X G (T.says.fact 0 rfl)
theorem Top.g_is_integer (T : Top K mg) : mg "is_integer" = some (.ref (ca K "is_integer")) := let ⟨_, X, G⟩ := T.h; He.glo_ok X G (T.says.fact 1 rfl)
theorem Top.g_is_list (T : Top K mg) : mg "is_list" = some (.ref (ca K "is_list")) := let ⟨_, X, G⟩ := T.h; He.glo_ok X G (T.says.fact 2 rfl)
theorem Top.g_is_prime (T : Top K mg) : mg "is_prime" = some (.ref (ca K "is_prime")) := let ⟨_, X, G⟩ := T.h; He.glo_ok X G (T.says.fact 3 rfl)
theorem Top.g_SeenError (T : Top K mg) : mg "SeenError" = some (.ref (ca K "SeenError")) := let ⟨_, X, G⟩ := T.h; He.glo_ok X G (T.says.fact 5 rfl)
theorem Top.g_BadPrime (T : Top K mg) : mg "BadPrime" = some (.ref (ca K "BadPrime")) := let ⟨_, X, G⟩ := T.h; He.glo_ok X G (T.says.fact 6 rfl)
theorem Top.g_BadTerm (T : Top K mg) : mg "BadTerm" = some (.ref (ca K "BadTerm")) := let ⟨_, X, G⟩ := T.h; He.glo_ok X G (T.says.fact 7 rfl)
theorem Top.g_is_term (T : Top K mg) : mg "is_term" = some (.ref (ca K "is_term")) := let ⟨_, X, G⟩ := T.h; He.glo_ok X G (T.says.fact 16 rfl)
theorem Top.g_Filter (T : Top K mg) : mg "Filter" = some (.ref (ca K "Filter")) := let ⟨_, X, G⟩ := T.h; He.glo_ok X G (T.says.fact 18 rfl)
theorem Top.g__law_spring (T : Top K mg) : mg "_law_spring" = some (.ref (ca K "_law_spring")) := let ⟨_, X, G⟩ := T.h; He.glo_ok X G (T.says.fact 19 rfl)
theorem Top.g__law_draw (T : Top K mg) : mg "_law_draw" = some (.ref (ca K "_law_draw")) := let ⟨_, X, G⟩ := T.h; He.glo_ok X G (T.says.fact 20 rfl)
theorem Top.g__law_pick (T : Top K mg) : mg "_law_pick" = some (.ref (ca K "_law_pick")) := let ⟨_, X, G⟩ := T.h; He.glo_ok X G (T.says.fact 21 rfl)
theorem Top.g__law_same (T : Top K mg) : mg "_law_same" = some (.ref (ca K "_law_same")) := let ⟨_, X, G⟩ := T.h; He.glo_ok X G (T.says.fact 22 rfl)
theorem Top.g__law_held (T : Top K mg) : mg "_law_held" = some (.ref (ca K "_law_held")) := let ⟨_, X, G⟩ := T.h; He.glo_ok X G (T.says.fact 23 rfl)
theorem Top.g__law_pairs (T : Top K mg) : mg "_law_pairs" = some (.ref (ca K "_law_pairs")) := let ⟨_, X, G⟩ := T.h; He.glo_ok X G (T.says.fact 24 rfl)
theorem Top.g__law_prime (T : Top K mg) : mg "_law_prime" = some (.ref (ca K "_law_prime")) := let ⟨_, X, G⟩ := T.h; He.glo_ok X G (T.says.fact 25 rfl)
theorem Top.g__law_other (T : Top K mg) : mg "_law_other" = some (.ref (ca K "_law_other")) := let ⟨_, X, G⟩ := T.h; He.glo_ok X G (T.says.fact 26 rfl)
theorem Top.g__law_terms (T : Top K mg) : mg "_law_terms" = some (.ref (ca K "_law_terms")) := let ⟨_, X, G⟩ := T.h; He.glo_ok X G (T.says.fact 27 rfl)
theorem Top.g__law_shows (T : Top K mg) : mg "_law_shows" = some (.ref (ca K "_law_shows")) := let ⟨_, X, G⟩ := T.h; He.glo_ok X G (T.says.fact 28 rfl)
theorem Top.g__law_told_otherwise (T : Top K mg) : mg "_law_told_otherwise" = some (.ref (ca K "_law_told_otherwise")) := let ⟨_, X, G⟩ := T.h; He.glo_ok X G (T.says.fact 29 rfl)
theorem Top.g_law (T : Top K mg) : mg "law" = some (.ref (ca K "law")) := let ⟨_, X, G⟩ := T.h; He.glo_ok X G (T.says.fact 30 rfl)
theorem Top.f_isinstance (T : Top K mg) : mg "isinstance" = none := let ⟨_, X, G⟩ := T.h; He.free_ok X G (T.says.fact 31 rfl)
theorem Top.f_len (T : Top K mg) : mg "len" = none := let ⟨_, X, G⟩ := T.h; He.free_ok X G (T.says.fact 32 rfl)
theorem Top.f_sorted (T : Top K mg) : mg "sorted" = none := let ⟨_, X, G⟩ := T.h; He.free_ok X G (T.says.fact 33 rfl)
theorem Top.f_dict (T : Top K mg) : mg "dict" = none := let ⟨_, X, G⟩ := T.h; He.free_ok X G (T.says.fact 34 rfl)
theorem Top.f_list (T : Top K mg) : mg "list" = none := let ⟨_, X, G⟩ := T.h; He.free_ok X G (T.says.fact 35 rfl)
theorem Top.f_tuple (T : Top K mg) : mg "tuple" = none := let ⟨_, X, G⟩ := T.h; He.free_ok X G (T.says.fact 36 rfl)
theorem Top.f_int (T : Top K mg) : mg "int" = none := let ⟨_, X, G⟩ := T.h; He.free_ok X G (T.says.fact 37 rfl)
theorem Top.f_bool (T : Top K mg) : mg "bool" = none := let ⟨_, X, G⟩ := T.h; He.free_ok X G (T.says.fact 38 rfl)
theorem Top.f_all (T : Top K mg) : mg "all" = none := let ⟨_, X, G⟩ := T.h; He.free_ok X G (T.says.fact 40 rfl)
theorem Top.f_any (T : Top K mg) : mg "any" = none := let ⟨_, X, G⟩ := T.h; He.free_ok X G (T.says.fact 41 rfl)
theorem Top.f_enumerate (T : Top K mg) : mg "enumerate" = none := let ⟨_, X, G⟩ := T.h; He.free_ok X G (T.says.fact 42 rfl)
theorem Top.f_range (T : Top K mg) : mg "range" = none := let ⟨_, X, G⟩ := T.h; He.free_ok X G (T.says.fact 43 rfl)
theorem Top.f_zip (T : Top K mg) : mg "zip" = none := let ⟨_, X, G⟩ := T.h; He.free_ok X G (T.says.fact 44 rfl)
theorem Top.mk_Filter (T : Top K mg) : Mk K (ca K "Filter") (He.ma K (ca K "Filter") "__init__") := He.mkr_ok (T.says.fact 56 rfl)
theorem Top.m_Filter___getitem__ (T : Top K mg) : Meth K (ca K "Filter") "__getitem__" (He.ma K (ca K "Filter") "__getitem__") := He.meth_ok (T.says.fact 58 rfl)
theorem Top.m_Filter___bool__ (T : Top K mg) : Meth K (ca K "Filter") "__bool__" (He.ma K (ca K "Filter") "__bool__") := He.meth_ok (T.says.fact 59 rfl)
theorem Top.m_Filter___eq__ (T : Top K mg) : Meth K (ca K "Filter") "__eq__" (He.ma K (ca K "Filter") "__eq__") := He.meth_ok (T.says.fact 60 rfl)
theorem Top.m_Filter_terms (T : Top K mg) : Meth K (ca K "Filter") "terms" (He.ma K (ca K "Filter") "terms") := He.meth_ok (T.says.fact 61 rfl)
theorem Top.m_Filter_low (T : Top K mg) : Meth K (ca K "Filter") "low" (He.ma K (ca K "Filter") "low") := He.meth_ok (T.says.fact 62 rfl)
theorem Top.m_Filter_high (T : Top K mg) : Meth K (ca K "Filter") "high" (He.ma K (ca K "Filter") "high") := He.meth_ok (T.says.fact 63 rfl)
theorem Top.m_Filter_span (T : Top K mg) : Meth K (ca K "Filter") "span" (He.ma K (ca K "Filter") "span") := He.meth_ok (T.says.fact 64 rfl)
theorem Top.ty (T : Top K mg) : chkTy CS sub K = true := T.ex 0
theorem Top.tyf (T : Top K mg) : ∀ c ∈ CS, TyF K c := chk_tyf T.ty
theorem Top.kb_int (T : Top K mg) : ∀ d t, tyD d = some t → (∀ c, t = .own c → c ∈ CS) → PySem.W.kitOne K (t.val K) (.type "int") = some (isaB "int" t) := chk_kb T.ty "int" (by decide)
theorem Top.kb_bool (T : Top K mg) : ∀ d t, tyD d = some t → (∀ c, t = .own c → c ∈ CS) → PySem.W.kitOne K (t.val K) (.type "bool") = some (isaB "bool" t) := chk_kb T.ty "bool" (by decide)
theorem Top.kb_list (T : Top K mg) : ∀ d t, tyD d = some t → (∀ c, t = .own c → c ∈ CS) → PySem.W.kitOne K (t.val K) (.type "list") = some (isaB "list" t) := chk_kb T.ty "list" (by decide)
theorem Top.kb_tuple (T : Top K mg) : ∀ d t, tyD d = some t → (∀ c, t = .own c → c ∈ CS) → PySem.W.kitOne K (t.val K) (.type "tuple") = some (isaB "tuple" t) := chk_kb T.ty "tuple" (by decide)
theorem Top.kt_list_tuple (T : Top K mg) : ∀ d t, tyD d = some t → (∀ c, t = .own c → c ∈ CS) → PySem.W.kitAny K (t.val K) [.type "list", .type "tuple"] = some (["list", "tuple"].any fun n => isaB n t) := chk_kt T.ty ["list", "tuple"] (by decide)
theorem Top.kt_int_list_tuple (T : Top K mg) : ∀ d t, tyD d = some t → (∀ c, t = .own c → c ∈ CS) → PySem.W.kitAny K (t.val K) [.type "int", .type "list", .type "tuple"] = some (["int", "list", "tuple"].any fun n => isaB n t) := chk_kt T.ty ["int", "list", "tuple"] (by decide)
theorem Top.ko_Filter (T : Top K mg) : ∀ d t, tyD d = some t → (∀ c, t = .own c → c ∈ CS) → PySem.W.kitOne K (t.val K) (.ref (ca K "Filter")) = some (isaO sub "Filter" t) := chk_ko T.ty (by decide +kernel)
theorem Top.cl_Filter (T : Top K mg) : Cls K (ca K "Filter") := (T.tyf "Filter" (by decide +kernel)).cl
theorem Top.fld_Filter_kept (T : Top K mg) : ∀ c ∈ (["Filter"] : List Str), Cls K (ca K c) ∧ NoAttr K (ca K c) "kept" := by
  intro c hc
  simp only [List.mem_cons, List.not_mem_nil, or_false] at hc
  subst hc
  exact ⟨T.cl_Filter, He.noat_ok (T.says.fact 65 rfl)⟩
theorem Top.fld_Filter_prime (T : Top K mg) : ∀ c ∈ (["Filter"] : List Str), Cls K (ca K c) ∧ NoAttr K (ca K c) "prime" := by
  intro c hc
  simp only [List.mem_cons, List.not_mem_nil, or_false] at hc
  subst hc
  exact ⟨T.cl_Filter, He.noat_ok (T.says.fact 66 rfl)⟩
theorem Top.fld_Filter_held (T : Top K mg) : ∀ c ∈ (["Filter"] : List Str), Cls K (ca K c) ∧ NoAttr K (ca K c) "held" := by
  intro c hc
  simp only [List.mem_cons, List.not_mem_nil, or_false] at hc
  subst hc
  exact ⟨T.cl_Filter, He.noat_ok (T.says.fact 67 rfl)⟩
theorem Top.c_PRIMES (T : Top K mg) (G : Hp) : Rep K G (.tup ([2, 3, 5, 7].map D.int)) (.ref (ca K "PRIMES")) := rep_ints (T.ex 1) G
theorem Top.dfl_Filter___init__ (T : Top K mg) (G : Hp) : Rep K G (.tup []) (.ref (He.dflAt ("Filter", some "__init__") 0 K)) := .tup (tupAt_ok (T.ex 2) G) .nil
theorem Top.x_BadPrime (T : Top K mg) : excB "BadPrime" K = true := T.ex 3
theorem Top.x_BadTerm (T : Top K mg) : excB "BadTerm" K = true := T.ex 4
theorem Top.eq_Filter (T : Top K mg) : eqB CS "Filter" K = true := T.ex 5
theorem Top.get_Filter (T : Top K mg) : getB "Filter" K = true := T.ex 6
theorem Top.ne_Filter (T : Top K mg) : neB CS "Filter" K = true := T.ex 7
theorem Top.base (T : Top K mg) : XBase K "SeenError" := seB_ok (T.ex 8)
theorem Top.xs (T : Top K mg) : ∀ c ∈ XS, ∀ c' ∈ XS, PySem.W.exmOne K (.ref (ca K c)) (.ref (ca K c')) = some (xsub c c') := xsB_ok (T.ex 9)
theorem Top.cr_Filter (T : Top K mg) : ClX.CRead K (ca K "Filter") (.type "type") := rdB_ok (T.ex 10)
theorem Top.cm_Filter_shift (T : Top K mg) : ClX.CMet K (ca K "Filter") (.type "type") "shift" (He.ma K (ca K "Filter") "shift") (cmA "Filter" "shift" K) := cmB_ok (T.ex 11)
theorem Top.tbl (T : Top K mg) : ((tblOf K tfn).map (·.1)).Nodup := of_decide_eq_true (T.ex 12)
theorem Top.xf_BadPrime_prime (T : Top K mg) : XfD K "BadPrime" "prime" := xfdB_ok (T.ex 13)
theorem Top.xf_BadTerm_index (T : Top K mg) : XfD K "BadTerm" "index" := xfdB_ok (T.ex 14)
theorem Top.d_Filter_shift (T : Top K mg) : ∃ fd, FunD K "shift" "Filter.shift" (defArgs (inClass (top 22) 1)) (defBody (inClass (top 22) 1)) (defScope (inClass (top 22) 1)) [] [] (cmA "Filter" "shift" K) fd := T.cm.def_ 0 rfl
theorem Top.d_is_integer (T : Top K mg) : ∃ fd, FunD K "is_integer" "is_integer" (defArgs (top 2)) (defBody (top 2)) (defScope (top 2)) [] [] (ca K "is_integer") fd := T.says.def_ 0 rfl
theorem Top.d_is_list (T : Top K mg) : ∃ fd, FunD K "is_list" "is_list" (defArgs (top 3)) (defBody (top 3)) (defScope (top 3)) [] [] (ca K "is_list") fd := T.says.def_ 1 rfl
theorem Top.d_is_prime (T : Top K mg) : ∃ fd, FunD K "is_prime" "is_prime" (defArgs (top 4)) (defBody (top 4)) (defScope (top 4)) [] [] (ca K "is_prime") fd := T.says.def_ 2 rfl
theorem Top.d_BadPrime___init__ (T : Top K mg) : ∃ fd, FunD K "__init__" "BadPrime.__init__" (defArgs (inClass (top 8) 0)) (defBody (inClass (top 8) 0)) (defScope (inClass (top 8) 0)) [] [] (He.ma K (ca K "BadPrime") "__init__") fd := T.says.def_ 3 rfl
theorem Top.d_BadTerm___init__ (T : Top K mg) : ∃ fd, FunD K "__init__" "BadTerm.__init__" (defArgs (inClass (top 9) 0)) (defBody (inClass (top 9) 0)) (defScope (inClass (top 9) 0)) [] [] (He.ma K (ca K "BadTerm") "__init__") fd := T.says.def_ 4 rfl
theorem Top.d_is_term (T : Top K mg) : ∃ fd, FunD K "is_term" "is_term" (defArgs (top 20)) (defBody (top 20)) (defScope (top 20)) [] [] (ca K "is_term") fd := T.says.def_ 5 rfl
theorem Top.d_Filter___init__ (T : Top K mg) : ∃ fd, FunD K "__init__" "Filter.__init__" (defArgs (inClass (top 22) 0)) (defBody (inClass (top 22) 0)) (defScope (inClass (top 22) 0)) [.ref (He.dflAt ("Filter", some "__init__") 0 K)] [] (He.ma K (ca K "Filter") "__init__") fd := T.says.def_ 6 rfl
theorem Top.d_Filter___getitem__ (T : Top K mg) : ∃ fd, FunD K "__getitem__" "Filter.__getitem__" (defArgs (inClass (top 22) 2)) (defBody (inClass (top 22) 2)) (defScope (inClass (top 22) 2)) [] [] (He.ma K (ca K "Filter") "__getitem__") fd := T.says.def_ 7 rfl
theorem Top.d_Filter___bool__ (T : Top K mg) : ∃ fd, FunD K "__bool__" "Filter.__bool__" (defArgs (inClass (top 22) 4)) (defBody (inClass (top 22) 4)) (defScope (inClass (top 22) 4)) [] [] (He.ma K (ca K "Filter") "__bool__") fd := T.says.def_ 8 rfl
theorem Top.d_Filter___eq__ (T : Top K mg) : ∃ fd, FunD K "__eq__" "Filter.__eq__" (defArgs (inClass (top 22) 5)) (defBody (inClass (top 22) 5)) (defScope (inClass (top 22) 5)) [] [] (He.ma K (ca K "Filter") "__eq__") fd := T.says.def_ 9 rfl
theorem Top.d_Filter_terms (T : Top K mg) : ∃ fd, FunD K "terms" "Filter.terms" (defArgs (inClass (top 22) 7)) (defBody (inClass (top 22) 7)) (defScope (inClass (top 22) 7)) [] [] (He.ma K (ca K "Filter") "terms") fd := T.says.def_ 10 rfl
theorem Top.d_Filter_low (T : Top K mg) : ∃ fd, FunD K "low" "Filter.low" (defArgs (inClass (top 22) 8)) (defBody (inClass (top 22) 8)) (defScope (inClass (top 22) 8)) [] [] (He.ma K (ca K "Filter") "low") fd := T.says.def_ 11 rfl
theorem Top.d_Filter_high (T : Top K mg) : ∃ fd, FunD K "high" "Filter.high" (defArgs (inClass (top 22) 9)) (defBody (inClass (top 22) 9)) (defScope (inClass (top 22) 9)) [] [] (He.ma K (ca K "Filter") "high") fd := T.says.def_ 12 rfl
theorem Top.d_Filter_span (T : Top K mg) : ∃ fd, FunD K "span" "Filter.span" (defArgs (inClass (top 22) 10)) (defBody (inClass (top 22) 10)) (defScope (inClass (top 22) 10)) [] [] (He.ma K (ca K "Filter") "span") fd := T.says.def_ 13 rfl
theorem Top.d__law_spring (T : Top K mg) : ∃ fd, FunD K "_law_spring" "_law_spring" (defArgs (top 24)) (defBody (top 24)) (defScope (top 24)) [] [] (ca K "_law_spring") fd := T.says.def_ 14 rfl
theorem Top.d__law_draw (T : Top K mg) : ∃ fd, FunD K "_law_draw" "_law_draw" (defArgs (top 25)) (defBody (top 25)) (defScope (top 25)) [] [] (ca K "_law_draw") fd := T.says.def_ 15 rfl
theorem Top.d__law_pick (T : Top K mg) : ∃ fd, FunD K "_law_pick" "_law_pick" (defArgs (top 26)) (defBody (top 26)) (defScope (top 26)) [] [] (ca K "_law_pick") fd := T.says.def_ 16 rfl
theorem Top.d__law_same (T : Top K mg) : ∃ fd, FunD K "_law_same" "_law_same" (defArgs (top 27)) (defBody (top 27)) (defScope (top 27)) [] [] (ca K "_law_same") fd := T.says.def_ 17 rfl
theorem Top.d__law_held (T : Top K mg) : ∃ fd, FunD K "_law_held" "_law_held" (defArgs (top 28)) (defBody (top 28)) (defScope (top 28)) [] [] (ca K "_law_held") fd := T.says.def_ 18 rfl
theorem Top.d__law_pairs (T : Top K mg) : ∃ fd, FunD K "_law_pairs" "_law_pairs" (defArgs (top 29)) (defBody (top 29)) (defScope (top 29)) [] [] (ca K "_law_pairs") fd := T.says.def_ 19 rfl
theorem Top.d__law_prime (T : Top K mg) : ∃ fd, FunD K "_law_prime" "_law_prime" (defArgs (top 30)) (defBody (top 30)) (defScope (top 30)) [] [] (ca K "_law_prime") fd := T.says.def_ 20 rfl
theorem Top.d__law_other (T : Top K mg) : ∃ fd, FunD K "_law_other" "_law_other" (defArgs (top 31)) (defBody (top 31)) (defScope (top 31)) [] [] (ca K "_law_other") fd := T.says.def_ 21 rfl
theorem Top.d__law_terms (T : Top K mg) : ∃ fd, FunD K "_law_terms" "_law_terms" (defArgs (top 32)) (defBody (top 32)) (defScope (top 32)) [] [] (ca K "_law_terms") fd := T.says.def_ 22 rfl
theorem Top.d__law_shows (T : Top K mg) : ∃ fd, FunD K "_law_shows" "_law_shows" (defArgs (top 33)) (defBody (top 33)) (defScope (top 33)) [] [] (ca K "_law_shows") fd := T.says.def_ 23 rfl
theorem Top.d__law_told_otherwise (T : Top K mg) : ∃ fd, FunD K "_law_told_otherwise" "_law_told_otherwise" (defArgs (top 34)) (defBody (top 34)) (defScope (top 34)) [] [] (ca K "_law_told_otherwise") fd := T.says.def_ 24 rfl
theorem Top.d_law (T : Top K mg) : ∃ fd, FunD K "law" "law" (defArgs (top 35)) (defBody (top 35)) (defScope (top 35)) [] [] (ca K "law") fd := T.says.def_ 25 rfl
end
end My

namespace My
open PySem PySem.Spec L2 DL
def names : List PySem.Str := (["PRIMES", "is_integer", "is_list", "is_prime", "inverse", "SeenError", "BadPrime", "BadTerm", "UnlikePrimes", "ZeroFilter", "divided", "product_rest", "shift_rest", "far_rest", "check_primes", "NEAR", "is_term", "divisor_of", "Filter", "_law_spring", "_law_draw", "_law_pick", "_law_same", "_law_held", "_law_pairs", "_law_prime", "_law_other", "_law_terms", "_law_shows", "_law_told_otherwise"] : List PySem.Str)
def addrs : List Addr := ([2, 3, 6, 4, 15, 22, 29, 36, 41, 51, 71, 90, 109, 128, 135, 140, 145, 150, 157, 164, 169, 310, 321, 328, 335, 340, 345, 350, 357, 362, 369, 374, 381, 386, 0, 21, 28, 35, 40, 50, 70, 89, 108, 127, 134, 139, 144, 149, 156, 163] : List Addr) ++ ([168, 309, 320, 327, 334, 339, 344, 349, 356, 361, 368, 373, 380, 385, 16, 17, 18, 19, 20, 23, 24, 25, 26, 27, 30, 31, 32, 33, 34, 37, 38, 39, 49, 52, 68, 69, 87, 88, 106, 107, 125, 126, 131, 132, 133, 136, 137, 138, 141, 142] : List Addr) ++ ([143, 146, 147, 148, 151, 152, 153, 154, 155, 158, 159, 160, 161, 162, 165, 166, 167, 183, 192, 200, 207, 214, 221, 228, 235, 242, 249, 256, 261, 268, 273, 278, 283, 290, 297, 302, 307, 308, 311, 312, 315, 316, 317, 318, 319, 322, 323, 324, 325, 326] : List Addr) ++ ([329, 330, 331, 332, 333, 336, 337, 338, 341, 342, 343, 346, 347, 348, 351, 352, 353, 354, 355, 358, 359, 360, 363, 364, 365, 366, 367, 370, 371, 372, 375, 376, 377, 378, 379, 382, 383, 384, 67, 86, 105, 124, 182, 178, 190, 191, 199, 206, 213, 220] : List Addr) ++ ([227, 234, 241, 248, 255, 260, 267, 272, 277, 282, 289, 296, 301, 306, 62, 63, 64, 65, 66, 81, 82, 83, 84, 85, 100, 101, 102, 103, 104, 119, 120, 121, 122, 123, 179, 180, 181, 177, 189, 193, 194, 195, 196, 197, 198, 201, 202, 203, 204, 205] : List Addr) ++ ([208, 209, 210, 211, 212, 215, 216, 217, 218, 219, 222, 223, 224, 225, 226, 229, 230, 231, 232, 233, 236, 237, 238, 239, 240, 243, 244, 245, 246, 247, 250, 251, 252, 253, 254, 257, 258, 259, 262, 263, 264, 265, 266, 269, 270, 271, 274, 275, 276, 279] : List Addr) ++ ([280, 281, 284, 285, 286, 287, 288, 291, 292, 293, 294, 295, 298, 299, 300, 303, 304, 305] : List Addr)
abbrev R : PySem.W.OpenRow := PySem.W.OpenLaw.row PySem.Challenge.rw_seenrows_k01_filters_made
abbrev hk : PySem.W.Hook := hookP addrs fa fn cmf tf exB
def ob (s : PySem.W.SharedT) : AlN := obsP addrs fa fn cmf tf exB (HandSHeadRun.getT s)
theorem ob_eq (s : PySem.W.SharedT) : ob s = hk.obs s.abs := obsP_eq (HandSHeadRun.getT_eq s)
theorem map3 {α β γ δ : Type} {o : Option α} {f : α → β} {g : α → γ} {h : α → δ} {a : β} {b : γ} {c : δ} (h1 : o.map f = some a) (h2 : o.map g = some b) (h3 : o.map h = some c) : o.map (fun s => (f s, g s, h s)) = some (a, b, c) := by
  cases o with
  | none => exact nomatch h1
  | some s =>
    have e1 : f s = a := Option.some.inj h1
    have e2 : g s = b := Option.some.inj h2
    have e3 : h s = c := Option.some.inj h3
    show some (f s, g s, h s) = _
    rw [e1, e2, e3]
section
open PySem.W PySem.Calls PyProof.Rows HandSHeadRun
theorem runA (w : World) (os : OsState) : (endF (stepQ (denQ tabQ) R.prog w) 9000 R.prog w os).map (fun s => looksF R.prog (boot_heap w.params) s.abs) = some true := by kernel_rfl
theorem runB (w : World) (os : OsState) : (endF (stepQ (denQ tabQ) R.prog w) 9000 R.prog w os).map (fun s => seenQ (view R.prog [35]) names (importedModules R.prog.main.body) (fun s => xlAt (view R.prog [35]) [] s && recOk R.toRowW.records s) s.abs) = some (openGood (view R.prog [35]) names) := by kernel_rfl
theorem runC1 (w : World) (os : OsState) : (endF (stepQ (denQ tabQ) R.prog w) 9000 R.prog w os).map (fun s => He.obsD fa (fn.take 50) (He.frT (HandSHeadRun.getT s) addrs)) = some (He.valD (fn.take 50)) := by kernel_rfl
theorem runC2 (w : World) (os : OsState) : (endF (stepQ (denQ tabQ) R.prog w) 9000 R.prog w os).map (fun s => He.obsD [] (fn.drop 50) (He.frT (HandSHeadRun.getT s) addrs)) = some (He.valD (fn.drop 50)) := by kernel_rfl
theorem runC3 (w : World) (os : OsState) : (endF (stepQ (denQ tabQ) R.prog w) 9000 R.prog w os).map (fun s => (He5.obsA [] cmf (He.frT (HandSHeadRun.getT s) addrs), exB (He.frT (HandSHeadRun.getT s) addrs) && He.tabsB (HandSHeadRun.getT s) tf (He.frT (HandSHeadRun.getT s) addrs))) = some (He5.valA cmf, true) := by kernel_rfl
theorem runC (w : World) (os : OsState) : (endF (stepQ (denQ tabQ) R.prog w) 9000 R.prog w os).map ob = some (hk.val w) := mapP (runC1 w os) (runC2 w os) (runC3 w os) fun s h1 h2 h3 => obsP_join 50 h1 h2 h3
end
theorem run (w : World) : HandSHeadRun.RunEq R (PySem.W.view R.prog [35]) hk ob 9000 names w := fun os => map3 (runA w os) (runB w os) (runC w os)
end My

namespace DL
open PySem PySem.Spec L2
def sprJ (s c : Addr) (n : Nat) (H : Hp) : Prop := s ≠ c ∧ ∃ (cells : List Int) (r m : Int), H s = some (.lst [.ref c, .int r, .int (n : Int), .int m]) ∧ H c = some (.lst (cells.map V.int)) ∧ 0 ≤ m ∧ m < 2147483647
abbrev SpC := Addr × List (Addr × Str)
theorem tabs_frame {T : List (Addr × Str)} {H H' : Hp} (h : LamX.Tabs T H) (f : ∀ p ∈ T, ∀ ps, H p.1 = some (.tbl ps) → H' p.1 = some (.tbl ps)) (g : ∀ b e, H b = some (.ext e) → H' b = some (.ext e)) : LamX.Tabs T H' := fun p hp => by
  obtain ⟨ps, e1, e2, e3⟩ := h p hp
  refine ⟨ps, f p hp ps e1, e2, fun pos cv z => ?_⟩
  obtain ⟨c, q1, q2⟩ := e3 pos cv z
  exact ⟨c, q1, g _ _ q2⟩
def sprW (s : Addr) (c : SpC) : Wd where
  rg a := (a = s ∨ a = c.1) ∨ a ∈ c.2.map (·.1)
  J n H := sprJ s c.1 n H ∧ LamX.Tabs c.2 H
  stable n H H' h g j := by
    obtain ⟨⟨ne, cells, r, m, h1, h2, h3⟩, t⟩ := j
    exact ⟨⟨ne, cells, r, m, by rw [h s (.inl (.inl rfl))]; exact h1, by rw [h c.1 (.inl (.inr rfl))]; exact h2, h3⟩, tabs_frame t (fun p hp ps e => by rw [h p.1 (.inr (List.mem_map.mpr ⟨p, hp, rfl⟩))]; exact e) g⟩
  there n H a j r := by
    obtain ⟨⟨ne, cells, _, m, h1, h2, h3⟩, t⟩ := j
    rcases r with (r | r) | r
    · rw [r, h1]; exact fun z => nomatch z
    · rw [r, h2]; exact fun z => nomatch z
    · obtain ⟨p, hp, e⟩ := List.mem_map.mp r
      obtain ⟨ps, q, _⟩ := t p hp
      rw [← e, q]; exact fun z => nomatch z
theorem sprW_lam {s P : Addr} {c : SpC} {q : Str} (h : (P, q) ∈ c.2) (hu : ∀ p ∈ c.2, p.1 = P → p.2 = q) : LamW (sprW s c) P q where
  rg := .inr (List.mem_map.mpr ⟨_, h, rfl⟩)
  tab n H j := j.2 _ h
  st n H H1 j to t1 := by
    rcases to with rfl | ⟨ps, more, c', e, nc, rfl⟩
    · exact j
    obtain ⟨⟨ne, cells, r, m, h1, h2, h3⟩, t⟩ := j
    have nm : ∀ b o, H b = some o → b ≠ P → upd (upd H P (.tbl (ps ++ more))) c' (LamX.CodeO c' q) b = some o := fun b o z n => by
      rw [upd_ne (ne_of_none z nc), upd_ne n]; exact z
    refine ⟨⟨ne, cells, r, m, nm _ _ h1 fun z => ?_, nm _ _ h2 fun z => ?_, h3⟩, fun p hp => ?_⟩
    · rw [z, e] at h1; cases h1
    · rw [z, e] at h2; cases h2
    · by_cases hP : p.1 = P
      · rw [hu p hp hP, hP]; exact t1
      · obtain ⟨us, e1, e2, e3⟩ := t p hp
        refine ⟨us, nm _ _ e1 hP, e2, fun pos cv z => ?_⟩
        obtain ⟨c0, q1, q2⟩ := e3 pos cv z
        exact ⟨c0, q1, nm _ _ q2 fun w => by rw [w, e] at q2; cases q2⟩
def fDraw : DF := fun W ds n q _ => match ds with
  | [.hnd s, .int many] => (∃ c, W = sprW s c) ∧ 0 < many ∧ many < 1073741824 ∧ n < 1000000 ∧ ∀ k : Nat, (k : Int) < many → q (.int k) (n + 1)
  | _ => False
section
variable {X : Cx} {pos : Pos}
theorem dp_ints {K : PySem.W.Frag} {H : Hp} : ∀ ns : List Int, DpAll K H (ns.map V.int) (ns.map PyData.int)
  | [] => .nil
  | n :: ns => .cons (.int n) (dp_ints ns)
end
end DL
namespace My
open PySem PySem.Spec L2 DL
section
variable {P : Program} {w : World} {K : PySem.W.Frag} {mg : Str → Option Value} {base : Heap}
theorem sc_draw : FnScope ["_law_spring_here", "_law_many", "_law_cell", "_law_digit", "_law_mixed"] ["_law_spring_here", "_law_many"] (defScope (top 25)) := ⟨rfl, rfl, rfl, by decide +kernel, rfl, by decide +kernel, by decide +kernel⟩
theorem upd_frame {H : Hp} {a : Addr} {o : HO} {Rg : Addr → Prop} {H' : Hp} (h : ∀ b u, H b = some u → ¬ Rg b → H' b = some u) (r : Rg a ∨ H a = none) : ∀ b u, H b = some u → ¬ Rg b → (upd H' a o) b = some u := fun b u e n => by
  rw [upd_ne (fun z => ?_)]
  · exact h b u e n
  · subst z
    rcases r with r | r
    · exact n r
    · rw [r] at e; cases e
theorem if_run {b : Bool} {p q : Prop} (h1 : b = true → p) (h2 : b = false → q) : if b = true then p else q := by
  cases b with
  | true => exact h1 rfl
  | false => exact h2 rfl
theorem ixr {σ : L2.St} {H : Hp} {Q : VK} {K : PySem.W.Frag} {i : Int} {s : Addr} {xs : List V} {v : V} (h0 : σ[0]? = some (some (.ref s))) (hs : H s = some (.lst xs)) (hi : atI xs i = some v) (q : Q v H) : tOp (rIxL K) (tVar 0) (tC (.int i)) σ H Q :=
  ⟨_, h0, s, xs, i, v, rfl, rfl, SqL.of hs, hi, q⟩
theorem gsr {σ : L2.St} {H : Hp} {Q : L2.St → Hp → Prop} {i : Int} {j : Nat} {s : Addr} {xs : List V} {v : V} (h0 : σ[0]? = some (some (.ref s))) (hs : H s = some (.lst xs)) (hi : ixN xs.length i = some j) {ys : List V} (hy : xs.set j v = ys) (q : Q σ (upd H s (.lst ys))) : gSub (tVar 0) (tC (.int i)) rSetL v σ H Q :=
  ⟨_, h0, s, xs, i, j, rfl, rfl, hs, hi, by rw [hy]; exact q⟩
theorem ok__law_draw (T : Top K mg) : Sg P w K mg base "_law_draw" 1 2 fDraw [] := by
  obtain ⟨fd, FD⟩ := T.d__law_draw
  refine ⟨_, fd, ["_law_spring_here", "_law_many"], [], [], ?_, T.g__law_draw, FD.kp, FD.bindsN (fun _ _ _ _ _ _ us hl => match us, hl with | [_, _], _ => rfl), .nil, fun _ => .nil⟩
  refine FD.ok sc_draw (fun vs H Q E h => ?_) (fun cdv A outer sh H vs Q E hr h => ?_)
  · obtain ⟨W, n, G, ds, q, x, _, _, _, r, hl, _⟩ := h
    rw [← r.length, hl]; rfl
  · obtain ⟨W, n, G, ds, q, xx, le, rg, j, r, hl, hF, kq, kx⟩ := h
    have hu := hr.units
    match ds, hF, r with
    | [.hnd s, .int many], hF, .cons (.hnd _) (.cons (.int _) .nil) =>
    obtain ⟨⟨⟨c, Ts⟩, rfl⟩, m0, m1, hn, hF⟩ := hF
    obtain ⟨⟨ne, cells, rr, mm, hs, hc, hm⟩, hTs⟩ := j
    dsimp only at ne hs hc hTs
    have fin : ∀ (k : Int) (H' : Hp) (cells' : List Int) (r' m' : Int), 0 ≤ k → k < many → (∀ b u, H b = some u → ¬ (b = s ∨ b = c) → H' b = some u) → H' s = some (.lst [.ref c, .int r', .int ((n : Int) + 1), .int m']) → H' c = some (.lst (cells'.map V.int)) → 0 ≤ m' → m' < 2147483647 → Q (.int k) H' := by
      intro k H' cells' r' m' k0 k1 fr h1 h2 h3 h4
      have e : k = (k.toNat : Int) := by omega
      rw [e]
      refine kq _ H' G (.int k.toNat) (n + 1) ⟨fun a o e r => fr a o e fun z => r (.inl z), Le.refl G, fun a o e => ⟨o, ?_, rfl⟩, fun a e => .inl e⟩ ⟨⟨ne, cells', r', m', by rw [h1]; rfl, h2, h3, h4⟩, tabs_frame hTs (fun p hp ps e => fr _ _ e fun z => ?_) fun b e q => fr _ _ q fun z => ?_⟩ (.int _) (hF _ (by omega))
      rotate_right
      · rcases z with z | z
        · rw [z, hs] at q; cases q
        · rw [z, hc] at q; cases q
      rotate_right
      · rcases z with z | z
        · rw [z, hs] at e; cases e
        · rw [z, hc] at e; cases e
      refine fr a o (le.get e) fun z => ?_
      rw [rg a (.inl z)] at e; cases e
    have X := cxOf (L2.CX P w) P w K mg base ["_law_spring_here", "_law_many", "_law_cell", "_law_digit", "_law_mixed"] "_law_draw" (defScope (top 25)) (ca K "_law_draw") cdv A outer sh H E
    obtain ⟨t2, p2, h2⟩ : ∃ t2, PSs (cxOf (L2.CX P w) P w K mg base ["_law_spring_here", "_law_many", "_law_cell", "_law_digit", "_law_mixed"] "_law_draw" (defScope (top 25)) (ca K "_law_draw") cdv A outer sh H E) ((defBody (top 25)).drop 2) t2 ∧
        ∀ (D : Ends) (σ : L2.St) (H' : Hp) (cells' : List Int) (r' m' : Int), D.rt = Q → σ.length = 5 → σ[0]? = some (some (.ref s)) → σ[1]? = some (some (.int many)) → (∀ b u, H b = some u → ¬ (b = s ∨ b = c) → H' b = some u) → H' s = some (.lst [.ref c, .int r', .int ((n : Int) + 1), .int m']) → H' c = some (.lst (cells'.map V.int)) → 0 ≤ m' → m' < 2147483647 → t2 D σ H' := by
      refine ⟨_, pss_cons (ps_if (pt_cmpR op_gt (pe_ix ix_list (pv 0) pe_int (fun _ _ => rfl)) pe_int (nomark _))
          (pss_cons (ps_set (i := 3) sc_draw.nd rfl (.inl rfl) (pe_op op_mod (pe_callTy call_int1 (by rfl) T.f_int (by decide +kernel) (pa_cons (pe_ix ix_list (pv 0) pe_int (fun _ _ => rfl)) pa_nil)) (pv 1)))
            (pss_cons (ps_asg (pe_op op_fdiv (pe_ix ix_list (pv 0) pe_int (fun _ _ => rfl)) (pv 1)) (pg_sub (pv 0) pe_int set_list (by intro _; rfl)))
              (pss_one (ps_ret (pv 3))))) pss_nil)
          (pss_cons (ps_set (i := 4) sc_draw.nd rfl (.inl rfl) (pe_op op_mod (pe_callTy call_int1 (by rfl) T.f_int (by decide +kernel) (pa_cons (pe_op op_pow (pe_op op_add (pe_op op_add (pe_ix ix_list (pv 0) pe_int (fun _ _ => rfl)) (pe_op op_mul pe_int (pe_ix ix_list (pv 0) pe_int (fun _ _ => rfl)))) pe_int) pe_int) pa_nil)) pe_int))
            (pss_cons (ps_set (i := 4) sc_draw.nd rfl (.inl rfl) (pe_op op_add (pe_op op_add (pe_op op_mul (pv 4) pe_int) (pe_op op_mul (pe_op op_mul pe_int (pe_ix ix_list (pv 0) pe_int (fun _ _ => rfl))) (pe_ix ix_list (pv 0) pe_int (fun _ _ => rfl)))) pe_int))
              (pss_one (ps_ret (pe_op op_mod (pe_op op_mod (pe_callTy call_int1 (by rfl) T.f_int (by decide +kernel) (pa_cons (pe_op op_pow (pv 4) pe_int) pa_nil)) pe_int) (pv 1)))))), ?_⟩
      intro D σ H' cells' r' m' eD hl h0 h1 fr hs' hc' hm0 hm1
      refine ixr h0 hs' rfl ?_
      refine ⟨r', 0, rfl, rfl, _, rfl, ?_⟩
      have g1 : ∀ (v : V) (i : Nat), i ≠ 0 → (σ.set i (some v))[0]? = some (some (.ref s)) := fun v i hi => by rw [List.getElem?_set, if_neg hi]; exact h0
      have g2 : ∀ (v : V) (i : Nat), i ≠ 1 → (σ.set i (some v))[1]? = some (some (.int many)) := fun v i hi => by rw [List.getElem?_set, if_neg hi]; exact h1
      have g3 : ∀ (v : V) (i : Nat), i < 5 → (σ.set i (some v))[i]? = some (some v) := fun v i hi => by rw [List.getElem?_set, if_pos rfl, if_pos (by omega)]
      refine if_run (fun hb => ?_) (fun hb => ?_)
      · refine ixr h0 hs' rfl ?_
        refine .inl ⟨r', rfl, ?_⟩
        refine ⟨_, h1, _, _, rfl, rfl, m0, ?_⟩
        refine ixr (g1 _ 3 (by decide)) hs' rfl ?_
        refine ⟨_, g2 _ 3 (by decide), _, _, rfl, rfl, ⟨m0, by omega⟩, ?_⟩
        refine gsr (j := 1) (g1 _ 3 (by decide)) hs' rfl rfl ?_
        refine ⟨_, g3 _ 3 (by decide), ?_⟩
        show D.rt _ _
        rw [eD]
        exact fin _ _ cells' (r' / many) m' (Int.emod_nonneg _ (by omega)) (Int.emod_lt_of_pos _ m0) (upd_frame fr (.inl (.inl rfl))) upd_same (by rw [upd_ne (Ne.symm ne)]; exact hc') hm0 hm1
      · refine ixr h0 hs' rfl ?_
        refine ixr h0 hs' rfl ?_
        refine ⟨_, _, rfl, rfl, .inl (by decide), ?_⟩
        refine ⟨_, _, rfl, rfl, ?_⟩
        refine ⟨_, _, rfl, rfl, ?_⟩
        refine ⟨_, _, rfl, rfl, ⟨by decide, by decide, by omega⟩, ?_⟩
        refine .inl ⟨_, rfl, ?_⟩
        refine ⟨_, _, rfl, rfl, (show (0 : Int) < 2147483629 by decide), ?_⟩
        have q0 := Int.emod_nonneg ((m' + 7919 * ((n : Int) + 1) + 104729) ^ Int.toNat 5) (show (2147483629 : Int) ≠ 0 by decide)
        have q1 := Int.emod_lt_of_pos ((m' + 7919 * ((n : Int) + 1) + 104729) ^ Int.toNat 5) (show (0 : Int) < 2147483629 by decide)
        generalize (m' + 7919 * ((n : Int) + 1) + 104729) ^ Int.toNat 5 % 2147483629 = mx at q0 q1 ⊢
        refine ⟨_, g3 _ 4 (by decide), ?_⟩
        refine ⟨_, _, rfl, rfl, .inr (by decide), ?_⟩
        refine ixr (g1 _ 4 (by decide)) hs' rfl ?_
        refine ⟨_, _, rfl, rfl, .inl (by decide), ?_⟩
        refine ixr (g1 _ 4 (by decide)) hs' rfl ?_
        refine ⟨_, _, rfl, rfl, .inr (by omega), ?_⟩
        refine ⟨_, _, rfl, rfl, ?_⟩
        refine ⟨_, _, rfl, rfl, ?_⟩
        have w0 : 0 ≤ 40503 * ((n : Int) + 1) * ((n : Int) + 1) := Int.mul_nonneg (by omega) (by omega)
        have w1 : 40503 * ((n : Int) + 1) * ((n : Int) + 1) ≤ 40503 * 1000000 * 1000000 := Int.mul_le_mul (by omega) (by omega) (by omega) (by omega)
        generalize 40503 * ((n : Int) + 1) * ((n : Int) + 1) = ww at w0 w1 ⊢
        have e4 : ∀ v u : V, ((σ.set 4 (some v)).set 4 (some u))[4]? = some (some u) := fun v u => by rw [List.getElem?_set, if_pos rfl, if_pos (by rw [List.length_set]; omega)]
        have e1 : ∀ v u : V, ((σ.set 4 (some v)).set 4 (some u))[1]? = some (some (.int many)) := fun v u => by rw [List.getElem?_set, if_neg (by decide)]; exact g2 _ 4 (by decide)
        refine ⟨_, e4 _ _, ?_⟩
        refine ⟨_, _, rfl, rfl, ⟨by decide, by decide, by omega⟩, ?_⟩
        refine .inl ⟨_, rfl, ?_⟩
        refine ⟨_, _, rfl, rfl, (show (0 : Int) < 1000000007 by decide), ?_⟩
        refine ⟨_, e1 _ _, ?_⟩
        refine ⟨_, _, rfl, rfl, m0, ?_⟩
        show D.rt _ _
        rw [eD]
        exact fin _ _ cells' r' m' (Int.emod_nonneg _ (by omega)) (Int.emod_lt_of_pos _ m0) fr hs' hc' hm0 hm1
    refine ⟨_, pss_cons (ps_asg (pe_op op_add (pe_ix ix_list (pv 0) pe_int (fun _ _ => rfl)) pe_int) (pg_sub (pv 0) pe_int set_list (by intro _; rfl)))
      (pss_cons (ps_if (PW.pt (pw_and (pt_cmpR (op_eqD hu) (pe_ix ix_list (pv 0) pe_int (fun _ _ => rfl)) pe_int (nomark _)) (pw_and1 (pt_cmpR (op_neD hu) (pe_ix ix_list (pv 0) pe_int (fun _ _ => rfl)) (pe_lst pa_nil) (nomark _)))))
        (pss_cons (ps_set (i := 2) sc_draw.nd rfl (.inl rfl) (pe_bm PySem.F.plainAttrs_list PySem.F.slot_list_pop PySem.F.type_list_pop mt_popAt (pe_ix ix_list (pv 0) pe_int (fun _ _ => rfl)) (pa_cons pe_int pa_nil)))
          (pss_cons (ps_asg (pe_op op_mod (pe_callTy call_int1 (by rfl) T.f_int (by decide +kernel) (pa_cons (pe_op op_add (pe_op op_add (pe_op op_mul (pe_ix ix_list (pv 0) pe_int (fun _ _ => rfl)) pe_int) (pv 2)) pe_int) pa_nil)) pe_int) (pg_sub (pv 0) pe_int set_list (by intro _; rfl)))
            (pss_one (ps_if (pt_cmpR op_ge (pv 2) (pe_op op_pow pe_int pe_int) (nomark _)) (pss_one (ps_asg (pv 2) (pg_sub (pv 0) pe_int set_list (by intro _; rfl)))) pss_nil)))) pss_nil)
        p2), ?_⟩
    refine ixr rfl hs rfl ?_
    refine ⟨_, _, rfl, rfl, ?_⟩
    refine gsr (j := 2) rfl hs rfl (ys := [.ref c, .int rr, .int ((n : Int) + 1), .int mm]) rfl ?_
    have fr1 : ∀ b u, H b = some u → ¬ (b = s ∨ b = c) → (upd H s (.lst [.ref c, .int rr, .int ((n : Int) + 1), .int mm])) b = some u := upd_frame (fun b u e _ => e) (.inl (.inl rfl))
    have hs1 : (upd H s (.lst [.ref c, .int rr, .int ((n : Int) + 1), .int mm])) s = some (.lst [.ref c, .int rr, .int ((n : Int) + 1), .int mm]) := upd_same
    have hc1 : (upd H s (.lst [.ref c, .int rr, .int ((n : Int) + 1), .int mm])) c = some (.lst (cells.map V.int)) := by rw [upd_ne (Ne.symm ne)]; exact hc
    revert fr1 hs1 hc1
    generalize (upd H s (.lst [.ref c, .int rr, .int ((n : Int) + 1), .int mm])) = H1
    intro fr1 hs1 hc1
    refine ixr rfl hs1 rfl ?_
    refine ⟨_, _, .int _, .int _, rfl, rfl, _, rfl, ?_⟩
    refine if_run (fun hb => ?_) (fun hb => ?_)
    · refine ixr rfl hs1 rfl ?_
      refine ⟨Nat.zero_le _, fun p np => ?_⟩
      have pc : p ≠ c := fun z => by rw [z, hc1] at np; cases np
      have ps : p ≠ s := fun z => by rw [z, hs1] at np; cases np
      have hs2 : (upd H1 p (.lst [])) s = some (.lst [.ref c, .int rr, .int ((n : Int) + 1), .int mm]) := by rw [upd_ne (Ne.symm ps)]; exact hs1
      have hc2 : (upd H1 p (.lst [])) c = some (.lst (cells.map V.int)) := by rw [upd_ne (Ne.symm pc)]; exact hc1
      have fr2 : ∀ b u, H b = some u → ¬ (b = s ∨ b = c) → (upd H1 p (.lst [])) b = some u := fun b u e nb => by
        rw [upd_ne (fun z => by rw [z] at e nb; rw [fr1 p u e nb] at np; cases np)]
        exact fr1 b u e nb
      refine ⟨_, _, .lst (SqL.of hc2) (dp_ints cells), .lst (SqL.of upd_same) .nil, PySem.W.ke_shaped_ints cells, rfl, _, rfl, ?_⟩
      refine if_run (fun hb2 => ?_) (fun hb2 => ?_)
      · cases cells with
        | nil => exact nomatch hb2
        | cons x cells =>
          refine ixr rfl hs2 rfl ⟨.inl ⟨rfl, _, SqL.of hc2⟩, ?_⟩
          refine ⟨c, _, 0, 0, .int x, rfl, rfl, hc2, by decide, by decide, (ixN_seq (j := 0) (by unfold ixN; rw [if_pos (by decide), if_pos (by rw [List.length_map, List.length_cons]; omega)]; rfl)).1, rfl, ?_⟩
          have hs3 : (upd (upd H1 p (.lst [])) c (.lst (cells.map V.int))) s = some (.lst [.ref c, .int rr, .int ((n : Int) + 1), .int mm]) := by rw [upd_ne ne]; exact hs2
          have hc3 : (upd (upd H1 p (.lst [])) c (.lst (cells.map V.int))) c = some (.lst (cells.map V.int)) := upd_same
          have fr3 := upd_frame (o := .lst (cells.map V.int)) (a := c) (Rg := fun b => b = s ∨ b = c) fr2 (.inl (.inr rfl))
          show tSeq _ _ _ _ (upd (upd H1 p (.lst [])) c (.lst (cells.map V.int)))
          revert hs3 hc3 fr3
          generalize (upd (upd H1 p (.lst [])) c (.lst (cells.map V.int))) = H3
          intro hs3 hc3 fr3
          refine ixr rfl hs3 rfl ?_
          refine ⟨_, _, rfl, rfl, .inr (by decide), ?_⟩
          refine ⟨_, rfl, _, _, rfl, rfl, ?_⟩
          refine ⟨_, _, rfl, rfl, ?_⟩
          refine .inl ⟨_, rfl, ?_⟩
          refine ⟨_, _, rfl, rfl, (show (0 : Int) < 2147483647 by decide), ?_⟩
          refine gsr (j := 3) rfl hs3 rfl rfl ?_
          have q0 := Int.emod_nonneg (mm * 4099 + x + 13) (show (2147483647 : Int) ≠ 0 by decide)
          have q1 := Int.emod_lt_of_pos (mm * 4099 + x + 13) (show (0 : Int) < 2147483647 by decide)
          refine ⟨_, rfl, ?_⟩
          refine ⟨_, _, rfl, rfl, ⟨by decide, by decide, by decide⟩, ?_⟩
          refine ⟨_, _, rfl, rfl, _, rfl, ?_⟩
          refine if_run (fun hb3 => ?_) (fun hb3 => ?_)
          · refine ⟨_, rfl, ?_⟩
            refine gsr (j := 1) rfl upd_same rfl rfl ?_
            exact h2 _ _ _ cells x _ rfl rfl rfl rfl (upd_frame (upd_frame fr3 (.inl (.inl rfl))) (.inl (.inl rfl))) upd_same (by rw [upd_ne (Ne.symm ne), upd_ne (Ne.symm ne)]; exact hc3) q0 q1
          · exact h2 _ _ _ cells rr _ rfl rfl rfl rfl (upd_frame fr3 (.inl (.inl rfl))) upd_same (by rw [upd_ne (Ne.symm ne)]; exact hc3) q0 q1
      · exact h2 _ _ _ cells rr mm rfl rfl rfl rfl fr2 hs2 hc2 hm.1 hm.2
    · exact h2 _ _ _ cells rr mm rfl rfl rfl rfl fr1 hs1 hc1 hm.1 hm.2
end
end My

namespace My
open PySem PySem.Spec L2 DL
theorem cs_Filter : ("Filter" : Str) ∈ CS := by decide +kernel
theorem own_Filter : (∀ c, Ty.own "Filter" = .own c → c ∈ CS) ↔ True := ⟨fun _ => trivial, fun _ c e => by cases e; exact cs_Filter⟩
theorem isOb_Filter (s : String) : isaO sub "Filter" (.b s) = false := rfl
theorem mem_Filter : ("Filter" : Str) ∈ (["Filter"] : List Str) ↔ True := ⟨fun _ => trivial, fun _ => List.mem_singleton_self _⟩
theorem isO_Filter_Filter : isaO sub "Filter" (.own "Filter") = true := by decide +kernel
end My

namespace My
open PySem PySem.Spec L2 DL
section
variable {P : Program} {w : World} {K : PySem.W.Frag} {mg : Str → Option Value} {base : Heap}
theorem sc_BadPrime___init__ : FnScope ["self", "prime"] ["self", "prime"] (defScope (inClass (top 8) 0)) := ⟨rfl, rfl, rfl, by decide +kernel, rfl, by decide +kernel, by decide +kernel⟩
theorem xg_BadPrime (T : Top K mg) : Xg P w K mg base "BadPrime" (spXF K "BadPrime" "prime") 2 := by
  obtain ⟨fd, FD⟩ := T.d_BadPrime___init__
  refine ⟨excB_ok T.x_BadPrime, T.g_BadPrime, fd, ["self", "prime"], rfl, ?_, FD.bindsN (fun _ _ _ _ _ _ us hl => match us, hl with | [_, _], _ => rfl)⟩
  refine FD.ok sc_BadPrime___init__ (fun vs H Q E h => ?_) (fun cdv A outer sh H vs Q E hr h => ?_)
  · obtain ⟨a, v, rfl, _⟩ := h
    rfl
  · obtain ⟨a, v, rfl, ha, hq⟩ := h
    refine ⟨_, pss_cons (ps_expr (pe_seinit T.base (by rfl) T.g_SeenError (pa_cons (pv 0) (pa_cons pe_str pa_nil)))) (pss_one (ps_ost (pv 0) (pv 1))), ?_⟩
    refine ⟨_, rfl, a, _, _, rfl, by show 1 ≤ 1000; decide, (excB_ok T.x_BadPrime).oex, ha, ?_⟩
    exact ⟨_, rfl, _, rfl, a, _, rfl, (excB_ok T.x_BadPrime).oex, (T.xf_BadPrime_prime).no, .inl ⟨ha, hq⟩⟩
theorem sc_BadTerm___init__ : FnScope ["self", "index"] ["self", "index"] (defScope (inClass (top 9) 0)) := ⟨rfl, rfl, rfl, by decide +kernel, rfl, by decide +kernel, by decide +kernel⟩
theorem xg_BadTerm (T : Top K mg) : Xg P w K mg base "BadTerm" (spXF K "BadTerm" "index") 2 := by
  obtain ⟨fd, FD⟩ := T.d_BadTerm___init__
  refine ⟨excB_ok T.x_BadTerm, T.g_BadTerm, fd, ["self", "index"], rfl, ?_, FD.bindsN (fun _ _ _ _ _ _ us hl => match us, hl with | [_, _], _ => rfl)⟩
  refine FD.ok sc_BadTerm___init__ (fun vs H Q E h => ?_) (fun cdv A outer sh H vs Q E hr h => ?_)
  · obtain ⟨a, v, rfl, _⟩ := h
    rfl
  · obtain ⟨a, v, rfl, ha, hq⟩ := h
    refine ⟨_, pss_cons (ps_expr (pe_seinit T.base (by rfl) T.g_SeenError (pa_cons (pv 0) (pa_cons pe_str pa_nil)))) (pss_one (ps_ost (pv 0) (pv 1))), ?_⟩
    refine ⟨_, rfl, a, _, _, rfl, by show 1 ≤ 1000; decide, (excB_ok T.x_BadTerm).oex, ha, ?_⟩
    exact ⟨_, rfl, _, rfl, a, _, rfl, (excB_ok T.x_BadTerm).oex, (T.xf_BadTerm_index).no, .inl ⟨ha, hq⟩⟩
end
end My


namespace My
abbrev Tm := List (Int × Int)
def getI (m : Tm) (k : Int) : Int := ((m.find? fun t => decide (t.1 = k)).map (·.2)).getD 0
def putI (m : Tm) (k v : Int) : Tm := if m.any fun t => decide (t.1 = k) then m.map fun t => if t.1 = k then (t.1, v) else t else m ++ [(k, v)]
def hstep (p : Int) (m : Tm) (t : Int × Int) : Tm := putI m t.1 ((getI m t.1 + t.2) % p)
def hsum (p : Int) (ts : Tm) : Tm := ts.foldl (hstep p) []
def srt (ks : List Int) : List Int := ks.mergeSort (fun a b => decide (a ≤ b))
def canon (p : Int) (ts : Tm) : Tm := ((srt ((hsum p ts).map (·.1))).filter fun k => decide (0 < getI (hsum p ts) k)).map fun k => (k, getI (hsum p ts) k)
def prods (ts us : Tm) : Tm := ts.flatMap fun t => us.map fun u => (t.1 + u.1, t.2 * u.2)
def isPr (p : Int) : Bool := [2, 3, 5, 7].contains p
theorem sorted_unique : ∀ {l m : List Int}, l.Perm m → l.Pairwise (· ≤ ·) → m.Pairwise (· ≤ ·) → l = m
  | [], m, h, _, _ => (List.nil_perm.mp h).symm
  | a :: l, m, h, s, t => by
    cases m with
    | nil => exact (List.perm_nil.mp h)
    | cons b m =>
      have e : a = b := by
        rw [List.pairwise_cons] at s t
        have h1 : a ∈ b :: m := h.subset (List.mem_cons_self ..)
        have h2 : b ∈ a :: l := h.symm.subset (List.mem_cons_self ..)
        rcases List.mem_cons.mp h1 with e | h1
        · exact e
        · rcases List.mem_cons.mp h2 with e | h2
          · exact e.symm
          · have := s.1 b h2; have := t.1 a h1; omega
      subst e
      rw [List.pairwise_cons] at s t
      rw [sorted_unique (List.Perm.cons_inv h) s.2 t.2]
theorem srt_perm (ks : List Int) : (srt ks).Perm ks := List.mergeSort_perm _ _
theorem srt_sorted (ks : List Int) : (srt ks).Pairwise (· ≤ ·) := by
  have h := List.pairwise_mergeSort (le := fun a b : Int => decide (a ≤ b)) (fun a b c h1 h2 => by simp at *; omega) (fun a b => by simp; omega) ks
  exact h.imp (fun h => by simpa using h)
theorem srt_of {ks ms : List Int} (h : ms.Perm ks) (s : ms.Pairwise (· ≤ ·)) : ms = srt ks := sorted_unique (h.trans (srt_perm ks).symm) s (srt_sorted ks)
def csum (ts : Tm) (x : Int) : Int := ((ts.filter fun t => decide (t.1 = x)).map (·.2)).sum
theorem csum_cons (t : Int × Int) (ts : Tm) (x : Int) : csum (t :: ts) x = (if t.1 = x then t.2 else 0) + csum ts x := by
  unfold csum
  rw [List.filter_cons]
  by_cases h : t.1 = x
  · simp [h]
  · simp [h]
theorem csum_nil (x : Int) : csum [] x = 0 := rfl
theorem csum_append (a b : Tm) (x : Int) : csum (a ++ b) x = csum a x + csum b x := by
  induction a with
  | nil => simp [csum_nil]
  | cons t a ih => rw [List.cons_append, csum_cons, csum_cons, ih]; omega
theorem getI_nil (k : Int) : getI [] k = 0 := rfl
theorem getI_cons (t : Int × Int) (m : Tm) (k : Int) : getI (t :: m) k = if t.1 = k then t.2 else getI m k := by
  unfold getI
  rw [List.find?_cons]
  by_cases h : t.1 = k <;> simp [h]
theorem getI_out {m : Tm} {k : Int} (h : k ∉ m.map (·.1)) : getI m k = 0 := by
  induction m with
  | nil => rfl
  | cons t m ih =>
    rw [List.map_cons, List.mem_cons] at h
    rw [getI_cons, if_neg (fun z => h (.inl z.symm)), ih (fun z => h (.inr z))]
theorem any_iff (m : Tm) (k : Int) : (m.any fun t => decide (t.1 = k)) = true ↔ k ∈ m.map (·.1) := by
  rw [List.any_eq_true, List.mem_map]
  constructor
  · rintro ⟨t, h1, h2⟩; exact ⟨t, h1, by simpa using h2⟩
  · rintro ⟨t, h1, h2⟩; exact ⟨t, h1, by simpa using h2⟩
theorem putI_keys (m : Tm) (k v : Int) : (putI m k v).map (·.1) = if k ∈ m.map (·.1) then m.map (·.1) else m.map (·.1) ++ [k] := by
  unfold putI
  by_cases h : k ∈ m.map (·.1)
  · rw [if_pos h, if_pos ((any_iff m k).mpr h), List.map_map]
    refine List.map_congr_left fun t _ => ?_
    show (if t.1 = k then (t.1, v) else t).1 = t.1
    split <;> rfl
  · rw [if_neg h, if_neg (fun z => h ((any_iff m k).mp z)), List.map_append]
    rfl
theorem getI_map (k v j : Int) : ∀ m : Tm, getI (m.map fun t => if t.1 = k then (t.1, v) else t) j = if j = k then (if k ∈ m.map (·.1) then v else 0) else getI m j
  | [] => by simp [getI_nil]
  | t :: m => by
    rw [List.map_cons, getI_cons, getI_map k v j m, getI_cons]
    by_cases h : t.1 = k
    · rw [if_pos h]
      by_cases hj : j = k
      · subst hj
        simp [h]
      · rw [if_neg hj, if_neg hj]
        have hk : ¬ k = j := fun z => hj z.symm
        simp [h, hk]
    · rw [if_neg h]
      by_cases hj : j = k
      · subst hj
        have h' : ¬ j = t.1 := fun z => h z.symm
        rw [if_neg h, if_pos rfl, if_pos rfl]
        simp only [List.map_cons, List.mem_cons, h', false_or]
      · rw [if_neg hj, if_neg hj]
theorem getI_snoc (k v j : Int) : ∀ m : Tm, k ∉ m.map (·.1) → getI (m ++ [(k, v)]) j = if j = k then v else getI m j
  | [], _ => by
    rw [List.nil_append, getI_cons, getI_nil]
    by_cases h : j = k
    · simp [h]
    · have h' : ¬ k = j := fun z => h z.symm
      simp [h, h']
  | t :: m, h => by
    rw [List.map_cons, List.mem_cons] at h
    rw [List.cons_append, getI_cons, getI_cons, getI_snoc k v j m (fun z => h (.inr z))]
    by_cases hj : j = k
    · have h' : ¬ t.1 = j := fun z => h (.inl (by rw [z, hj]))
      rw [if_neg h', if_pos hj, if_pos hj]
    · rw [if_neg hj, if_neg hj]
theorem getI_put (m : Tm) (k v j : Int) : getI (putI m k v) j = if j = k then v else getI m j := by
  unfold putI
  by_cases h : k ∈ m.map (·.1)
  · rw [if_pos ((any_iff m k).mpr h), getI_map, if_pos h]
  · rw [if_neg (fun z => h ((any_iff m k).mp z)), getI_snoc k v j m h]
theorem putI_nodup {m : Tm} (h : (m.map (·.1)).Nodup) (k v : Int) : ((putI m k v).map (·.1)).Nodup := by
  rw [putI_keys]
  split
  · exact h
  · rename_i hk
    rw [List.nodup_append]
    exact ⟨h, List.nodup_cons.mpr ⟨List.not_mem_nil, List.nodup_nil⟩, fun a ha b hb z => by
      rw [List.mem_singleton] at hb
      rw [z, hb] at ha
      exact hk ha⟩
theorem putI_length (m : Tm) (k v : Int) : (putI m k v).length ≤ m.length + 1 := by
  unfold putI
  split <;> simp
theorem fold_nodup (p : Int) : ∀ (ts m : Tm), (m.map (·.1)).Nodup → ((ts.foldl (hstep p) m).map (·.1)).Nodup
  | [], m, h => h
  | t :: ts, m, h => fold_nodup p ts _ (putI_nodup h _ _)
theorem fold_length (p : Int) : ∀ (ts m : Tm), (ts.foldl (hstep p) m).length ≤ m.length + ts.length
  | [], m => by simp
  | t :: ts, m => by
    have h1 := fold_length p ts (hstep p m t)
    have h2 := putI_length m t.1 ((getI m t.1 + t.2) % p)
    rw [List.foldl_cons, List.length_cons]
    unfold hstep at h1 ⊢
    omega
theorem fold_get (p : Int) : ∀ (ts m : Tm) (k : Int), (ts.foldl (hstep p) m |> fun r => getI r k) % p = (getI m k + csum ts k) % p
  | [], m, k => by simp [csum_nil]
  | t :: ts, m, k => by
    have ih := fold_get p ts (hstep p m t) k
    show getI (ts.foldl (hstep p) (hstep p m t)) k % p = _
    have ih : getI (ts.foldl (hstep p) (hstep p m t)) k % p = (getI (hstep p m t) k + csum ts k) % p := ih
    rw [ih, csum_cons]
    unfold hstep
    rw [getI_put]
    by_cases h : k = t.1
    · rw [if_pos h, if_pos h.symm, h, Int.emod_add_emod, Int.add_assoc]
    · rw [if_neg h, if_neg (fun z => h z.symm), Int.zero_add]
theorem fold_small {p : Int} (hp : 0 < p) : ∀ (ts m : Tm), (∀ k, 0 ≤ getI m k ∧ getI m k < p) → ∀ k, 0 ≤ getI (ts.foldl (hstep p) m) k ∧ getI (ts.foldl (hstep p) m) k < p
  | [], m, h => h
  | t :: ts, m, h => fold_small hp ts _ fun k => by
    unfold hstep
    rw [getI_put]
    split
    · exact ⟨Int.emod_nonneg _ (by omega), Int.emod_lt_of_pos _ hp⟩
    · exact h k
theorem hsum_get {p : Int} (hp : 0 < p) (ts : Tm) (k : Int) : getI (hsum p ts) k = csum ts k % p := by
  have h1 := fold_get p ts [] k
  have h2 := fold_small hp ts [] (fun k => ⟨by rw [getI_nil]; omega, by rw [getI_nil]; omega⟩) k
  have h1 : getI (hsum p ts) k % p = (getI [] k + csum ts k) % p := h1
  rw [getI_nil, Int.zero_add] at h1
  rw [← h1]
  exact (Int.emod_eq_of_lt h2.1 h2.2).symm
theorem hsum_nodup (p : Int) (ts : Tm) : ((hsum p ts).map (·.1)).Nodup := fold_nodup p ts [] List.nodup_nil
theorem hsum_length (p : Int) (ts : Tm) : (hsum p ts).length ≤ ts.length := by
  have := fold_length p ts []
  simpa [hsum] using this
theorem canon_sorted (p : Int) (ts : Tm) : ((canon p ts).map (·.1)).Pairwise (· < ·) := by
  unfold canon
  rw [List.map_map]
  have e : ((fun t : Int × Int => t.1) ∘ fun k => (k, getI (hsum p ts) k)) = id := rfl
  rw [e, List.map_id]
  refine List.Pairwise.sublist List.filter_sublist ?_
  have h1 := srt_sorted ((hsum p ts).map (·.1))
  have h2 : (srt ((hsum p ts).map (·.1))).Pairwise (· ≠ ·) := (srt_perm _).symm.nodup (hsum_nodup p ts)
  exact List.Pairwise.imp (fun ⟨a, b⟩ => by omega) (List.Pairwise.and h1 h2)
theorem canon_nodup (p : Int) (ts : Tm) : ((canon p ts).map (·.1)).Nodup := (canon_sorted p ts).imp (fun h => by omega)
theorem canon_mem {p : Int} (hp : 0 < p) (ts : Tm) (k v : Int) : (k, v) ∈ canon p ts ↔ v = csum ts k % p ∧ 0 < v := by
  unfold canon
  rw [List.mem_map]
  constructor
  · rintro ⟨a, h1, h2⟩
    rw [List.mem_filter] at h1
    cases h2
    exact ⟨hsum_get hp ts k, by simpa using h1.2⟩
  · rintro ⟨rfl, h⟩
    refine ⟨k, ?_, by rw [hsum_get hp]⟩
    rw [List.mem_filter, (srt_perm _).mem_iff]
    refine ⟨?_, by rw [hsum_get hp]; simpa using h⟩
    by_cases z : k ∈ (hsum p ts).map (·.1)
    · exact z
    · have := getI_out z
      rw [hsum_get hp] at this
      omega
theorem canon_length (p : Int) (ts : Tm) : (canon p ts).length ≤ ts.length := by
  unfold canon
  rw [List.length_map]
  refine Nat.le_trans (List.length_filter_le _ _) ?_
  rw [(srt_perm _).length_eq, List.length_map]
  exact hsum_length p ts
theorem pair_ext : ∀ {l m : Tm}, (l.map (·.1)).Pairwise (· < ·) → (m.map (·.1)).Pairwise (· < ·) → (∀ k v, (k, v) ∈ l ↔ (k, v) ∈ m) → l = m
  | [], m, _, _, h => by
    cases m with
    | nil => rfl
    | cons b m => exact absurd ((h b.1 b.2).mpr (List.mem_cons_self ..)) List.not_mem_nil
  | a :: l, m, s, t, h => by
    cases m with
    | nil => exact absurd ((h a.1 a.2).mp (List.mem_cons_self ..)) List.not_mem_nil
    | cons b m =>
      rw [List.map_cons, List.pairwise_cons] at s t
      have e : a = b := by
        have h1 := (h a.1 a.2).mp (List.mem_cons_self ..)
        have h2 := (h b.1 b.2).mpr (List.mem_cons_self ..)
        rcases List.mem_cons.mp h1 with e | h1
        · exact e
        · rcases List.mem_cons.mp h2 with e | h2
          · exact e.symm
          · have := s.1 b.1 (List.mem_map.mpr ⟨_, h2, rfl⟩)
            have := t.1 a.1 (List.mem_map.mpr ⟨_, h1, rfl⟩)
            omega
      subst e
      rw [pair_ext s.2 t.2 fun k v => ?_]
      constructor
      · intro z
        rcases List.mem_cons.mp ((h k v).mp (List.mem_cons_of_mem _ z)) with e | z'
        · have := s.1 k (List.mem_map.mpr ⟨_, z, rfl⟩)
          rw [← e] at this
          exact absurd this (by simp)
        · exact z'
      · intro z
        rcases List.mem_cons.mp ((h k v).mpr (List.mem_cons_of_mem _ z)) with e | z'
        · have := t.1 k (List.mem_map.mpr ⟨_, z, rfl⟩)
          rw [← e] at this
          exact absurd this (by simp)
        · exact z'
theorem canon_ext {p : Int} (hp : 0 < p) {ts us : Tm} (h : ∀ x, csum ts x % p = csum us x % p) : canon p ts = canon p us :=
  pair_ext (canon_sorted p ts) (canon_sorted p us) fun k v => by rw [canon_mem hp, canon_mem hp, h k]
theorem csum_get : ∀ {m : Tm}, (m.map (·.1)).Nodup → ∀ k, csum m k = getI m k
  | [], _, k => rfl
  | t :: m, h, k => by
    rw [List.map_cons, List.nodup_cons] at h
    rw [csum_cons, getI_cons, csum_get h.2 k]
    by_cases e : t.1 = k
    · rw [if_pos e, if_pos e, getI_out (e ▸ h.1)]; omega
    · rw [if_neg e, if_neg e]; omega
theorem getI_mem : ∀ {m : Tm} {k v : Int}, (m.map (·.1)).Nodup → (k, v) ∈ m → getI m k = v
  | t :: m, k, v, h, hm => by
    rw [List.map_cons, List.nodup_cons] at h
    rw [getI_cons]
    rcases List.mem_cons.mp hm with e | hm
    · rw [← e, if_pos rfl]
    · have : ¬ t.1 = k := fun z => h.1 (z ▸ List.mem_map.mpr ⟨_, hm, rfl⟩)
      rw [if_neg this]
      exact getI_mem h.2 hm
theorem csum_canon {p : Int} (hp : 0 < p) (ts : Tm) (x : Int) : csum (canon p ts) x = csum ts x % p := by
  rw [csum_get (canon_nodup p ts)]
  by_cases h : 0 < csum ts x % p
  · exact getI_mem (canon_nodup p ts) ((canon_mem hp ts x _).mpr ⟨rfl, h⟩)
  · have h0 := Int.emod_nonneg (csum ts x) (show p ≠ 0 by omega)
    have e : csum ts x % p = 0 := by omega
    rw [e]
    refine getI_out fun z => ?_
    obtain ⟨⟨k, v⟩, hm, rfl⟩ := List.mem_map.mp z
    obtain ⟨h1, h2⟩ := (canon_mem hp ts k v).mp hm
    have e : csum ts k % p = 0 := e
    omega
theorem prods_cons (t : Int × Int) (ts us : Tm) : prods (t :: ts) us = (us.map fun u => (t.1 + u.1, t.2 * u.2)) ++ prods ts us := rfl
theorem prods_snd (u : Int × Int) (us : Tm) (x : Int) : ∀ ts : Tm, csum (prods ts (u :: us)) x = csum (ts.map fun t => (u.1 + t.1, u.2 * t.2)) x + csum (prods ts us) x
  | [] => by simp [prods, csum_nil]
  | t :: ts => by
    rw [prods_cons, prods_cons, List.map_cons, List.map_cons, List.cons_append, csum_cons, csum_append, csum_cons, csum_append, prods_snd u us x ts, Int.add_comm t.1 u.1, Int.mul_comm t.2 u.2]
    simp only []
    omega
theorem prods_comm (x : Int) : ∀ ts us : Tm, csum (prods ts us) x = csum (prods us ts) x
  | [], us => by
    have : prods us [] = [] := by induction us with
      | nil => rfl
      | cons u us ih => rw [prods_cons, ih]; rfl
    rw [this]; rfl
  | t :: ts, us => by rw [prods_cons, csum_append, prods_snd, prods_comm x ts us]
theorem isPr_cases {p : Int} (h : isPr p = true) : p = 2 ∨ p = 3 ∨ p = 5 ∨ p = 7 := by simpa [isPr] using h
theorem isPr_pos {p : Int} (h : isPr p = true) : 0 < p ∧ p < 10 := by rcases isPr_cases h with h | h | h | h <;> omega
end My

namespace My
def wsum (a : Tm) (f : Int → Int) : Int := (a.map fun t => t.2 * f t.1).sum
theorem wsum_nil (f : Int → Int) : wsum [] f = 0 := rfl
theorem wsum_cons (t : Int × Int) (a : Tm) (f : Int → Int) : wsum (t :: a) f = t.2 * f t.1 + wsum a f := by unfold wsum; simp
theorem wsum_append (a b : Tm) (f : Int → Int) : wsum (a ++ b) f = wsum a f + wsum b f := by
  induction a with
  | nil => simp [wsum_nil]
  | cons t a ih => rw [List.cons_append, wsum_cons, wsum_cons, ih]; omega
theorem wsum_add (a : Tm) (f g : Int → Int) : wsum a (fun k => f k + g k) = wsum a f + wsum a g := by
  induction a with
  | nil => rfl
  | cons t a ih => rw [wsum_cons, wsum_cons, wsum_cons, ih, Int.mul_add]; omega
theorem wsum_congr_f {p : Int} (a : Tm) {f g : Int → Int} (h : ∀ k, f k % p = g k % p) : wsum a f % p = wsum a g % p := by
  induction a with
  | nil => rfl
  | cons t a ih =>
    rw [wsum_cons, wsum_cons, Int.add_emod, Int.mul_emod, h, ih, ← Int.mul_emod, ← Int.add_emod]
theorem sum_zero (L : List Int) (g : Int → Int) (h : ∀ k ∈ L, g k = 0) : (L.map g).sum = 0 := by
  induction L with
  | nil => rfl
  | cons a L ih => rw [List.map_cons, List.sum_cons, h a (List.mem_cons_self ..), ih fun k hk => h k (List.mem_cons_of_mem _ hk)]; rfl
theorem sum_add' (L : List Int) (g h : Int → Int) : (L.map fun k => g k + h k).sum = (L.map g).sum + (L.map h).sum := by
  induction L with
  | nil => rfl
  | cons a L ih => simp only [List.map_cons, List.sum_cons, ih]; omega
theorem sum_single (v k0 : Int) (f : Int → Int) : ∀ L : List Int, L.Nodup → k0 ∈ L → (L.map fun k => (if k0 = k then v else 0) * f k).sum = v * f k0
  | a :: L, hn, hm => by
    rw [List.nodup_cons] at hn
    rw [List.map_cons, List.sum_cons]
    by_cases h : k0 = a
    · subst h
      rw [if_pos rfl, sum_zero L _ fun k hk => by
        rw [if_neg (fun (z : k0 = k) => hn.1 (z.symm ▸ hk))]; simp]
      omega
    · rw [if_neg h, sum_single v k0 f L hn.2 (by rcases List.mem_cons.mp hm with z | z; exact absurd z h; exact z)]
      simp
theorem wsum_keys (f : Int → Int) (L : List Int) (hn : L.Nodup) : ∀ a : Tm, (∀ t ∈ a, t.1 ∈ L) → wsum a f = (L.map fun k => csum a k * f k).sum
  | [], _ => by rw [wsum_nil, sum_zero]; intro k _; rw [csum_nil]; simp
  | t :: a, h => by
    rw [wsum_cons, wsum_keys f L hn a fun u hu => h u (List.mem_cons_of_mem _ hu), ← sum_single t.2 t.1 f L hn (h t (List.mem_cons_self ..)), ← sum_add']
    congr 1
    refine List.map_congr_left fun k _ => ?_
    rw [csum_cons, Int.add_mul]
theorem sum_congr_mod {p : Int} (g h : Int → Int) (L : List Int) (e : ∀ k, g k % p = h k % p) : (L.map g).sum % p = (L.map h).sum % p := by
  induction L with
  | nil => rfl
  | cons a L ih => rw [List.map_cons, List.map_cons, List.sum_cons, List.sum_cons, Int.add_emod, e, ih, ← Int.add_emod]
theorem exists_nodup (l : List Int) : ∃ L : List Int, L.Nodup ∧ ∀ k ∈ l, k ∈ L := by
  induction l with
  | nil => exact ⟨[], List.nodup_nil, fun k h => h⟩
  | cons a l ih =>
    obtain ⟨L, h1, h2⟩ := ih
    by_cases h : a ∈ L
    · exact ⟨L, h1, fun k hk => by rcases List.mem_cons.mp hk with z | z; exact z ▸ h; exact h2 k z⟩
    · exact ⟨a :: L, List.nodup_cons.mpr ⟨h, h1⟩, fun k hk => by
        rcases List.mem_cons.mp hk with z | z
        · exact z ▸ List.mem_cons_self ..
        · exact List.mem_cons_of_mem _ (h2 k z)⟩
def Eqv (p : Int) (a b : Tm) : Prop := ∀ x, csum a x % p = csum b x % p
theorem wsum_congr {p : Int} {a b : Tm} (h : Eqv p a b) (f : Int → Int) : wsum a f % p = wsum b f % p := by
  obtain ⟨L, hn, hL⟩ := exists_nodup ((a ++ b).map (·.1))
  rw [wsum_keys f L hn a fun t ht => hL _ (List.mem_map.mpr ⟨t, List.mem_append.mpr (.inl ht), rfl⟩), wsum_keys f L hn b fun t ht => hL _ (List.mem_map.mpr ⟨t, List.mem_append.mpr (.inr ht), rfl⟩)]
  refine sum_congr_mod _ _ L fun k => ?_
  rw [Int.mul_emod, h k, ← Int.mul_emod]
theorem csum_shift (t : Int × Int) (b : Tm) (x : Int) : csum (b.map fun u => (t.1 + u.1, t.2 * u.2)) x = t.2 * csum b (x - t.1) := by
  induction b with
  | nil => simp [csum_nil]
  | cons u b ih =>
    rw [List.map_cons, csum_cons, csum_cons, ih, Int.mul_add]
    congr 1
    by_cases h : u.1 = x - t.1
    · rw [if_pos h, if_pos (by omega)]
    · rw [if_neg h, if_neg (by omega)]; simp
theorem csum_prods (a b : Tm) (x : Int) : csum (prods a b) x = wsum a fun k => csum b (x - k) := by
  induction a with
  | nil => rfl
  | cons t a ih => rw [prods_cons, csum_append, ih, csum_shift, wsum_cons]
theorem wsum_prods (a b : Tm) (f : Int → Int) : wsum (prods a b) f = wsum a fun i => wsum b fun j => f (i + j) := by
  induction a with
  | nil => rfl
  | cons t a ih =>
    rw [prods_cons, wsum_append, ih, wsum_cons]
    congr 1
    have : ∀ b : Tm, wsum (b.map fun u => (t.1 + u.1, t.2 * u.2)) f = t.2 * wsum b fun j => f (t.1 + j) := by
      intro b
      induction b with
      | nil => simp [wsum_nil]
      | cons u b ih => rw [List.map_cons, wsum_cons, wsum_cons, ih, Int.mul_add, Int.mul_assoc]
    exact this b
def eqvS (p : Int) : Setoid Tm := ⟨Eqv p, fun a x => rfl, fun h x => (h x).symm, fun h g x => (h x).trans (g x)⟩
def LP (p : Int) : Type := Quotient (eqvS p)
def lp (p : Int) (a : Tm) : LP p := Quotient.mk (eqvS p) a
section
variable {p : Int}
theorem lp_eq {a b : Tm} : lp p a = lp p b ↔ Eqv p a b := ⟨fun h => Quotient.exact h, fun h => Quotient.sound h⟩
theorem lp_surj (x : LP p) : ∃ a, lp p a = x := Quotient.exists_rep x
def negT (a : Tm) : Tm := a.map fun t => (t.1, -t.2)
theorem csum_neg (a : Tm) (x : Int) : csum (negT a) x = -csum a x := by
  induction a with
  | nil => rfl
  | cons t a ih =>
    show csum ((t.1, -t.2) :: negT a) x = _
    rw [csum_cons, csum_cons, ih]
    by_cases h : t.1 = x
    · rw [if_pos h, if_pos h]; omega
    · rw [if_neg h, if_neg h]; omega
theorem emod_neg_congr {a b : Int} (h : a % p = b % p) : (-a) % p = (-b) % p := by
  have : (p : Int) ∣ a - b := Int.dvd_of_emod_eq_zero (by rw [Int.sub_emod, h]; simp)
  have h2 : p ∣ -a - -b := by
    obtain ⟨c, hc⟩ := this
    exact ⟨-c, by rw [Int.mul_neg, ← hc]; omega⟩
  exact Int.emod_emod_of_dvd _ (Int.dvd_refl p) ▸ (by
    have e : -a = -b + (-a - -b) := by omega
    rw [e, Int.add_emod, Int.emod_eq_zero_of_dvd h2]; simp)
def LP.add (x y : LP p) : LP p := Quotient.liftOn₂ x y (fun a b => lp p (a ++ b)) fun a b a' b' h h' => lp_eq.mpr fun x => by
  rw [csum_append, csum_append, Int.add_emod, h x, h' x, ← Int.add_emod]
def LP.mul (x y : LP p) : LP p := Quotient.liftOn₂ x y (fun a b => lp p (prods a b)) fun a b a' b' h h' => lp_eq.mpr fun x => by
  rw [csum_prods, csum_prods, wsum_congr h, wsum_congr_f a' fun k => h' (x - k)]
def LP.neg (x : LP p) : LP p := Quotient.liftOn x (fun a => lp p (negT a)) fun a b h => lp_eq.mpr fun x => by
  rw [csum_neg, csum_neg]; exact emod_neg_congr (h x)
instance : Add (LP p) := ⟨LP.add⟩
instance : Mul (LP p) := ⟨LP.mul⟩
instance : Neg (LP p) := ⟨LP.neg⟩
instance : Sub (LP p) := ⟨fun a b => a + -b⟩
instance : NatCast (LP p) := ⟨fun n => lp p [(0, (n : Int))]⟩
instance : IntCast (LP p) := ⟨fun n => lp p [(0, n)]⟩
instance (n : Nat) : OfNat (LP p) n := ⟨lp p [(0, (n : Int))]⟩
def LP.pow (x : LP p) : Nat → LP p
  | 0 => 1
  | n + 1 => LP.pow x n * x
instance : HPow (LP p) Nat (LP p) := ⟨LP.pow⟩
instance : SMul Nat (LP p) := ⟨fun n a => (n : LP p) * a⟩
instance : SMul Int (LP p) := ⟨fun n a => (n : LP p) * a⟩
theorem lp_add (a b : Tm) : lp p a + lp p b = lp p (a ++ b) := rfl
theorem lp_mul (a b : Tm) : lp p a * lp p b = lp p (prods a b) := rfl
theorem lp_neg (a : Tm) : -lp p a = lp p (negT a) := rfl
theorem lp_zero : (0 : LP p) = lp p [] := lp_eq.mpr fun x => by
  show csum [(0, ((0 : Nat) : Int))] x % p = _
  rw [csum_cons, csum_nil]; split <;> rfl
theorem add_comm' (x y : LP p) : x + y = y + x := by
  obtain ⟨a, rfl⟩ := lp_surj x
  obtain ⟨b, rfl⟩ := lp_surj y
  exact lp_eq.mpr fun x => by rw [csum_append, csum_append, Int.add_comm]
theorem mul_comm' (x y : LP p) : x * y = y * x := by
  obtain ⟨a, rfl⟩ := lp_surj x
  obtain ⟨b, rfl⟩ := lp_surj y
  exact lp_eq.mpr fun x => by rw [prods_comm]
theorem mul_one' (x : LP p) : x * 1 = x := by
  obtain ⟨a, rfl⟩ := lp_surj x
  refine lp_eq.mpr fun x => ?_
  rw [prods_comm, csum_prods, wsum_cons, wsum_nil]
  simp
theorem distrib' (x y z : LP p) : x * (y + z) = x * y + x * z := by
  obtain ⟨a, rfl⟩ := lp_surj x
  obtain ⟨b, rfl⟩ := lp_surj y
  obtain ⟨c, rfl⟩ := lp_surj z
  refine lp_eq.mpr fun x => ?_
  rw [csum_prods, csum_append, csum_prods, csum_prods, ← wsum_add]
  congr 2
  funext k
  rw [csum_append]
instance : Lean.Grind.CommRing (LP p) where
  add_zero x := by
    obtain ⟨a, rfl⟩ := lp_surj x
    rw [lp_zero, lp_add, List.append_nil]
  add_comm := add_comm'
  add_assoc x y z := by
    obtain ⟨a, rfl⟩ := lp_surj x
    obtain ⟨b, rfl⟩ := lp_surj y
    obtain ⟨c, rfl⟩ := lp_surj z
    rw [lp_add, lp_add, lp_add, lp_add, List.append_assoc]
  mul_assoc x y z := by
    obtain ⟨a, rfl⟩ := lp_surj x
    obtain ⟨b, rfl⟩ := lp_surj y
    obtain ⟨c, rfl⟩ := lp_surj z
    refine lp_eq.mpr fun x => ?_
    rw [csum_prods, wsum_prods, csum_prods]
    congr 2
    funext i
    rw [csum_prods]
    congr 1
    funext j
    congr 1
    omega
  mul_one := mul_one'
  one_mul x := by rw [mul_comm', mul_one']
  left_distrib := distrib'
  right_distrib x y z := by rw [mul_comm', distrib', mul_comm' z, mul_comm' z]
  zero_mul x := by
    obtain ⟨a, rfl⟩ := lp_surj x
    rw [lp_zero, lp_mul]; rfl
  mul_zero x := by
    rw [mul_comm']
    obtain ⟨a, rfl⟩ := lp_surj x
    rw [lp_zero, lp_mul]; rfl
  pow_zero x := rfl
  pow_succ x n := rfl
  ofNat_succ n := by
    refine lp_eq.mpr fun x => ?_
    rw [csum_cons, csum_nil, csum_append, csum_cons, csum_cons, csum_nil]
    by_cases h : (0 : Int) = x
    · subst h; simp
    · simp [h]
  neg_add_cancel x := by
    obtain ⟨a, rfl⟩ := lp_surj x
    rw [lp_zero, lp_neg, lp_add]
    refine lp_eq.mpr fun x => ?_
    rw [csum_append, csum_neg, csum_nil]
    congr 1
    omega
  sub_eq_add_neg x y := rfl
  neg_zsmul i x := by
    obtain ⟨a, rfl⟩ := lp_surj x
    refine lp_eq.mpr fun x => ?_
    rw [csum_neg, csum_prods, csum_prods, wsum_cons, wsum_cons, wsum_nil]
    congr 1
    rw [Int.add_zero, Int.add_zero, Int.neg_mul]
  intCast_neg i := by
    refine lp_eq.mpr fun x => ?_
    rw [csum_neg, csum_cons, csum_cons, csum_nil]
    congr 1
    split <;> omega
  mul_comm := mul_comm'
example (f g h : LP p) : f * (g + h) - f * h = g * f := by grind
example (f g h : LP p) : (f + g) * (f + g) = f * f + 2 * f * g + g * g := by grind
end
end My

namespace My
section
variable {p : Int}
def cf (x : LP p) (k : Int) : Int := Quotient.liftOn x (fun a => csum a k % p) fun a b h => h k
theorem cf_lp (a : Tm) (k : Int) : cf (lp p a) k = csum a k % p := rfl
theorem cf_ext {x y : LP p} (h : ∀ k, cf x k = cf y k) : x = y := by
  obtain ⟨a, rfl⟩ := lp_surj x
  obtain ⟨b, rfl⟩ := lp_surj y
  exact lp_eq.mpr h
theorem cf_mod (x : LP p) (k : Int) : cf x k % p = cf x k := by
  obtain ⟨a, rfl⟩ := lp_surj x
  rw [cf_lp, Int.emod_emod_of_dvd _ (Int.dvd_refl p)]
theorem cf_add (x y : LP p) (k : Int) : cf (x + y) k = (cf x k + cf y k) % p := by
  obtain ⟨a, rfl⟩ := lp_surj x
  obtain ⟨b, rfl⟩ := lp_surj y
  rw [lp_add, cf_lp, cf_lp, cf_lp, csum_append, ← Int.add_emod]
theorem cf_neg (x : LP p) (k : Int) : cf (-x) k = (-cf x k) % p := by
  obtain ⟨a, rfl⟩ := lp_surj x
  rw [lp_neg, cf_lp, cf_lp, csum_neg]
  exact emod_neg_congr (Int.emod_emod_of_dvd _ (Int.dvd_refl p)).symm
theorem cf_zero (k : Int) : cf (0 : LP p) k = 0 := by rw [lp_zero, cf_lp, csum_nil]; exact Int.zero_emod p
def mono (p k c : Int) : LP p := lp p [(k, c)]
theorem cf_mono (k c j : Int) : cf (mono p k c) j = if k = j then c % p else 0 := by
  unfold mono
  rw [cf_lp, csum_cons, csum_nil]
  split
  · simp
  · simp
theorem cf_mono_mul (k c : Int) (x : LP p) (j : Int) : cf (mono p k c * x) j = (c * cf x (j - k)) % p := by
  obtain ⟨a, rfl⟩ := lp_surj x
  unfold mono
  rw [lp_mul, cf_lp, cf_lp, csum_prods, wsum_cons, wsum_nil, Int.add_zero]
  show c * csum a (j - k) % p = _
  rw [Int.mul_emod, Int.mul_emod c (csum a (j - k) % p), Int.emod_emod_of_dvd _ (Int.dvd_refl p)]
theorem cf_int_mul (c : Int) (x : LP p) (j : Int) : cf (((c : Int) : LP p) * x) j = (c * cf x j) % p := by
  have := cf_mono_mul (p := p) 0 c x j
  rw [Int.sub_zero] at this
  exact this
theorem mono_add (k a b : Int) : mono p k a + mono p k b = mono p k (a + b) := lp_eq.mpr fun x => by
  rw [csum_append, csum_cons, csum_cons, csum_cons, csum_nil]
  congr 1
  split <;> omega
theorem mono_mul (k j a b : Int) : mono p k a * mono p j b = mono p (k + j) (a * b) := lp_eq.mpr fun x => rfl
theorem mono_one : mono p 0 1 = 1 := rfl
theorem mono_mod (k c : Int) : mono p k (c % p) = mono p k c := cf_ext fun j => by
  rw [cf_mono, cf_mono, Int.emod_emod_of_dvd _ (Int.dvd_refl p)]
noncomputable def can (x : LP p) : Tm := canon p (Classical.choose (lp_surj x))
theorem can_lp (hp : 0 < p) (a : Tm) : can (lp p a) = canon p a := by
  unfold can
  exact canon_ext hp (lp_eq.mp (Classical.choose_spec (lp_surj (lp p a))))
theorem lp_canon (hp : 0 < p) (a : Tm) : lp p (canon p a) = lp p a := lp_eq.mpr fun x => by rw [csum_canon hp, Int.emod_emod_of_dvd _ (Int.dvd_refl p)]
theorem lp_can (hp : 0 < p) (x : LP p) : lp p (can x) = x := by
  obtain ⟨a, rfl⟩ := lp_surj x
  rw [can_lp hp, lp_canon hp]
theorem can_inj (hp : 0 < p) {x y : LP p} (h : can x = can y) : x = y := by rw [← lp_can hp x, h, lp_can hp]
theorem can_sorted (x : LP p) : ((can x).map (·.1)).Pairwise (· < ·) := canon_sorted p _
theorem can_mem (hp : 0 < p) (x : LP p) (k v : Int) : (k, v) ∈ can x ↔ v = cf x k ∧ 0 < v := by
  obtain ⟨a, rfl⟩ := lp_surj x
  rw [can_lp hp, canon_mem hp, cf_lp]
theorem csum_can (hp : 0 < p) (x : LP p) (k : Int) : csum (can x) k = cf x k := by
  obtain ⟨a, rfl⟩ := lp_surj x
  rw [can_lp hp, csum_canon hp, cf_lp]
theorem can_zero (hp : 0 < p) : can (0 : LP p) = [] := by rw [lp_zero, can_lp hp]; simp [canon, hsum, srt]
theorem can_nil (hp : 0 < p) {x : LP p} : can x = [] ↔ x = 0 := ⟨fun h => can_inj hp (h.trans (can_zero hp).symm), fun h => by rw [h, can_zero hp]⟩
theorem cf_range (hp : 0 < p) (x : LP p) (k : Int) : 0 ≤ cf x k ∧ cf x k < p := by
  rw [← cf_mod]
  exact ⟨Int.emod_nonneg _ (by omega), Int.emod_lt_of_pos _ hp⟩
noncomputable def nt (x : LP p) : Nat := (can x).length
theorem nt_lp (hp : 0 < p) (a : Tm) : nt (lp p a) ≤ a.length := by unfold nt; rw [can_lp hp]; exact canon_length p a
def Bd (x : LP p) (lo hi : Int) : Prop := ∀ k, cf x k ≠ 0 → lo ≤ k ∧ k ≤ hi
theorem Bd.mono {x : LP p} {lo hi lo' hi' : Int} (h : Bd x lo hi) (h1 : lo' ≤ lo) (h2 : hi ≤ hi') : Bd x lo' hi' := fun k hk => by have := h k hk; omega
theorem Bd.mem (hp : 0 < p) {x : LP p} {lo hi : Int} (h : Bd x lo hi) : ∀ t ∈ can x, lo ≤ t.1 ∧ t.1 ≤ hi := fun t ht => by
  obtain ⟨h1, h2⟩ := (can_mem hp x t.1 t.2).mp ht
  exact h t.1 (by omega)
theorem Bd.of (hp : 0 < p) {x : LP p} {lo hi : Int} (h : ∀ t ∈ can x, lo ≤ t.1 ∧ t.1 ≤ hi) : Bd x lo hi := fun k hk => by
  have r := cf_range hp x k
  exact h (k, cf x k) ((can_mem hp x k _).mpr ⟨rfl, by omega⟩)
theorem Bd.zero (lo hi : Int) : Bd (0 : LP p) lo hi := fun k hk => absurd (cf_zero k) hk
theorem Bd.add {x y : LP p} {lo hi : Int} (h : Bd x lo hi) (h' : Bd y lo hi) : Bd (x + y) lo hi := fun k hk => by
  by_cases e : cf x k = 0
  · by_cases e' : cf y k = 0
    · rw [cf_add, e, e'] at hk; exact absurd (Int.zero_emod p) hk
    · exact h' k e'
  · exact h k e
theorem Bd.neg {x : LP p} {lo hi : Int} (h : Bd x lo hi) : Bd (-x) lo hi := fun k hk => by
  by_cases e : cf x k = 0
  · rw [cf_neg, e] at hk; exact absurd (by simp) hk
  · exact h k e
theorem Bd.sub {x y : LP p} {lo hi : Int} (h : Bd x lo hi) (h' : Bd y lo hi) : Bd (x - y) lo hi := Bd.add h h'.neg
theorem Bd.mono_mul {x : LP p} {lo hi : Int} (h : Bd x lo hi) (k c : Int) : Bd (My.mono p k c * x) (lo + k) (hi + k) := fun j hj => by
  rw [cf_mono_mul] at hj
  by_cases e : cf x (j - k) = 0
  · rw [e] at hj; exact absurd (by simp) hj
  · have := h _ e; omega
theorem lp_cons (t : Int × Int) (a : Tm) : lp p (t :: a) = My.mono p t.1 t.2 + lp p a := rfl
theorem Bd.mul (hp : 0 < p) {x y : LP p} {lo hi lo' hi' : Int} (h : Bd x lo hi) (h' : Bd y lo' hi') : Bd (x * y) (lo + lo') (hi + hi') := by
  have go : ∀ a : Tm, (∀ t ∈ a, lo ≤ t.1 ∧ t.1 ≤ hi) → Bd (lp p a * y) (lo + lo') (hi + hi') := by
    intro a
    induction a with
    | nil => intro _; rw [← lp_zero]; rw [show (0 : LP p) * y = 0 by grind]; exact Bd.zero _ _
    | cons t a ih =>
      intro ha
      have ht := ha t (List.mem_cons_self ..)
      rw [lp_cons, show (My.mono p t.1 t.2 + lp p a) * y = My.mono p t.1 t.2 * y + lp p a * y by grind]
      exact Bd.add ((h'.mono_mul t.1 t.2).mono (by omega) (by omega)) (ih fun u hu => ha u (List.mem_cons_of_mem _ hu))
  have := go (can x) (h.mem hp)
  rwa [lp_can hp] at this
theorem Bd.lp {a : Tm} {lo hi : Int} (h : ∀ t ∈ a, lo ≤ t.1 ∧ t.1 ≤ hi) : Bd (lp p a) lo hi := fun k hk => by
  rw [cf_lp] at hk
  by_cases e : k ∈ a.map (·.1)
  · obtain ⟨t, ht, rfl⟩ := List.mem_map.mp e
    exact h t ht
  · exfalso
    refine hk ?_
    have : csum a k = 0 := by
      clear hk h
      induction a with
      | nil => rfl
      | cons t a ih =>
        rw [List.map_cons, List.mem_cons] at e
        rw [csum_cons, if_neg (fun z => e (.inl z.symm)), ih fun z => e (.inr z)]; rfl
    rw [this]; exact Int.zero_emod p
theorem sorted_length : ∀ {L : List Int} {lo hi : Int}, L.Pairwise (· < ·) → (∀ k ∈ L, lo ≤ k ∧ k ≤ hi) → (L.length : Int) ≤ max 0 (hi - lo + 1)
  | [], lo, hi, _, _ => by simp; omega
  | a :: L, lo, hi, s, h => by
    rw [List.pairwise_cons] at s
    have ha := h a (List.mem_cons_self ..)
    have := sorted_length (L := L) (lo := a + 1) (hi := hi) s.2 fun k hk => ⟨by have := s.1 k hk; omega, (h k (List.mem_cons_of_mem _ hk)).2⟩
    rw [List.length_cons]
    push_cast
    omega
theorem Bd.nt (hp : 0 < p) {x : LP p} {lo hi : Int} (h : Bd x lo hi) : (My.nt x : Int) ≤ max 0 (hi - lo + 1) := by
  have := sorted_length (can_sorted x) (lo := lo) (hi := hi) fun k hk => by
    obtain ⟨t, ht, rfl⟩ := List.mem_map.mp hk
    exact h.mem hp t ht
  rw [List.length_map] at this
  exact this
def Hi (x : LP p) (h : Int) : Prop := cf x h ≠ 0 ∧ ∀ k, h < k → cf x k = 0
def Lo (x : LP p) (l : Int) : Prop := cf x l ≠ 0 ∧ ∀ k, k < l → cf x k = 0
theorem Hi.uniq {x : LP p} {h h' : Int} (a : Hi x h) (b : Hi x h') : h = h' := by
  rcases Int.lt_trichotomy h h' with z | z | z
  · exact absurd (a.2 _ z) b.1
  · exact z
  · exact absurd (b.2 _ z) a.1
theorem Lo.uniq {x : LP p} {h h' : Int} (a : Lo x h) (b : Lo x h') : h = h' := by
  rcases Int.lt_trichotomy h h' with z | z | z
  · exact absurd (b.2 _ z) a.1
  · exact z
  · exact absurd (a.2 _ z) b.1
theorem Hi.ne {x : LP p} {h : Int} (a : Hi x h) : x ≠ 0 := fun z => a.1 (by rw [z, cf_zero])
theorem Lo.ne {x : LP p} {h : Int} (a : Lo x h) : x ≠ 0 := fun z => a.1 (by rw [z, cf_zero])
theorem Bd.of_hl {x : LP p} {h l : Int} (a : Hi x h) (b : Lo x l) : Bd x l h := fun k hk => by
  refine ⟨?_, ?_⟩
  · exact Int.not_lt.mp fun z => hk (b.2 k z)
  · exact Int.not_lt.mp fun z => hk (a.2 k z)
theorem sorted_last : ∀ {a : Tm} {t : Int × Int}, (a.map (·.1)).Pairwise (· < ·) → a.getLast? = some t → ∀ u ∈ a, u.1 ≤ t.1
  | a, t, s, h, u, hu => by
    obtain ⟨b, rfl⟩ := List.getLast?_eq_some_iff.mp h
    rw [List.map_append, List.pairwise_append] at s
    rcases List.mem_append.mp hu with z | z
    · exact Int.le_of_lt (s.2.2 u.1 (List.mem_map.mpr ⟨u, z, rfl⟩) t.1 (by simp))
    · rw [List.mem_singleton.mp z]; exact Int.le_refl _
theorem sorted_head {a : Tm} {t : Int × Int} (s : (a.map (·.1)).Pairwise (· < ·)) (h : a.head? = some t) : ∀ u ∈ a, t.1 ≤ u.1 := by
  intro u hu
  cases a with
  | nil => cases h
  | cons b a =>
    cases h
    rw [List.map_cons, List.pairwise_cons] at s
    rcases List.mem_cons.mp hu with z | z
    · rw [z]; exact Int.le_refl _
    · exact Int.le_of_lt (s.1 u.1 (List.mem_map.mpr ⟨u, z, rfl⟩))
theorem hi_of (hp : 0 < p) {x : LP p} {t : Int × Int} (h : (can x).getLast? = some t) : Hi x t.1 ∧ cf x t.1 = t.2 := by
  have hm : t ∈ can x := List.mem_of_getLast? h
  obtain ⟨h1, h2⟩ := (can_mem hp x t.1 t.2).mp hm
  refine ⟨⟨by omega, fun k hk => ?_⟩, h1.symm⟩
  have r := cf_range hp x k
  by_cases e : 0 < cf x k
  · have := sorted_last (can_sorted x) h (k, cf x k) ((can_mem hp x k _).mpr ⟨rfl, e⟩)
    dsimp only at this
    omega
  · omega
theorem lo_of (hp : 0 < p) {x : LP p} {t : Int × Int} (h : (can x).head? = some t) : Lo x t.1 ∧ cf x t.1 = t.2 := by
  have hm : t ∈ can x := List.mem_of_head? h
  obtain ⟨h1, h2⟩ := (can_mem hp x t.1 t.2).mp hm
  refine ⟨⟨by omega, fun k hk => ?_⟩, h1.symm⟩
  have r := cf_range hp x k
  by_cases e : 0 < cf x k
  · have := sorted_head (can_sorted x) h (k, cf x k) ((can_mem hp x k _).mpr ⟨rfl, e⟩)
    dsimp only at this
    omega
  · omega
theorem exists_hi (hp : 0 < p) {x : LP p} (h : x ≠ 0) : ∃ k, Hi x k := by
  cases e : (can x).getLast? with
  | none => exact absurd ((can_nil hp).mp (List.getLast?_eq_none_iff.mp e)) h
  | some t => exact ⟨t.1, (hi_of hp e).1⟩
theorem lo_le_hi {x : LP p} {l h : Int} (a : Lo x l) (b : Hi x h) : l ≤ h := Int.not_lt.mp fun z => a.1 (b.2 l z)
theorem dig_mul {a b : Int} (hp : isPr p = true) (ha : a % p ≠ 0) (hb : b % p ≠ 0) : (a * b) % p ≠ 0 := by
  have h1 := Int.emod_nonneg a (show p ≠ 0 by have := isPr_pos hp; omega)
  have h2 := Int.emod_lt_of_pos a (isPr_pos hp).1
  have h3 := Int.emod_nonneg b (show p ≠ 0 by have := isPr_pos hp; omega)
  have h4 := Int.emod_lt_of_pos b (isPr_pos hp).1
  rw [Int.mul_emod]
  generalize a % p = a at *
  generalize b % p = b at *
  rcases isPr_cases hp with rfl | rfl | rfl | rfl
  · have : a = 1 := by omega
    have : b = 1 := by omega
    subst a b; decide
  · have : a = 1 ∨ a = 2 := by omega
    have : b = 1 ∨ b = 2 := by omega
    rcases ‹a = 1 ∨ a = 2› with rfl | rfl <;> rcases ‹b = 1 ∨ b = 2› with rfl | rfl <;> decide
  · have : a = 1 ∨ a = 2 ∨ a = 3 ∨ a = 4 := by omega
    have : b = 1 ∨ b = 2 ∨ b = 3 ∨ b = 4 := by omega
    rcases ‹a = 1 ∨ _› with rfl | rfl | rfl | rfl <;> rcases ‹b = 1 ∨ _› with rfl | rfl | rfl | rfl <;> decide
  · have : a = 1 ∨ a = 2 ∨ a = 3 ∨ a = 4 ∨ a = 5 ∨ a = 6 := by omega
    have : b = 1 ∨ b = 2 ∨ b = 3 ∨ b = 4 ∨ b = 5 ∨ b = 6 := by omega
    rcases ‹a = 1 ∨ _› with rfl | rfl | rfl | rfl | rfl | rfl <;> rcases ‹b = 1 ∨ _› with rfl | rfl | rfl | rfl | rfl | rfl <;> decide
def invD (p a : Int) : Int := if p = 2 then 1 else if p = 3 then a else if p = 5 then (a * a * a) % 5 else (a * a * a * a * a) % 7
theorem invD_mul {a : Int} (hp : isPr p = true) (h0 : 0 < a) (h1 : a < p) : (invD p a * a) % p = 1 ∧ 1 ≤ invD p a ∧ invD p a < p := by
  unfold invD
  rcases isPr_cases hp with rfl | rfl | rfl | rfl
  · have : a = 1 := by omega
    subst a; decide
  · have : a = 1 ∨ a = 2 := by omega
    rcases this with rfl | rfl <;> decide
  · have : a = 1 ∨ a = 2 ∨ a = 3 ∨ a = 4 := by omega
    rcases this with rfl | rfl | rfl | rfl <;> decide
  · have : a = 1 ∨ a = 2 ∨ a = 3 ∨ a = 4 ∨ a = 5 ∨ a = 6 := by omega
    rcases this with rfl | rfl | rfl | rfl | rfl | rfl <;> decide
theorem cf_mul_top (hp : 0 < p) {x y : LP p} {h h' : Int} (a : ∀ k, h < k → cf x k = 0) (b : ∀ k, h' < k → cf y k = 0) : cf (x * y) (h + h') = (cf x h * cf y h') % p ∧ ∀ k, h + h' < k → cf (x * y) k = 0 := by
  have key : ∀ (l : Tm), (∀ t ∈ l, t.1 ≤ h) → (cf (lp p l * y) (h + h') = (csum l h * cf y h') % p) ∧ ∀ k, h + h' < k → cf (lp p l * y) k = 0 := by
    intro l
    induction l with
    | nil =>
      intro _
      rw [← lp_zero, show (0 : LP p) * y = 0 by grind, csum_nil]
      exact ⟨by rw [cf_zero]; simp, fun k _ => cf_zero k⟩
    | cons t l ih =>
      intro hl
      obtain ⟨i1, i2⟩ := ih fun u hu => hl u (List.mem_cons_of_mem _ hu)
      have ht := hl t (List.mem_cons_self ..)
      rw [lp_cons, show (mono p t.1 t.2 + lp p l) * y = mono p t.1 t.2 * y + lp p l * y by grind]
      refine ⟨?_, fun k hk => ?_⟩
      · rw [cf_add, i1, cf_mono_mul, csum_cons]
        by_cases e : t.1 = h
        · rw [if_pos e, e, show h + h' - h = h' by omega, ← Int.add_emod, Int.add_mul]
        · rw [if_neg e, b (h + h' - t.1) (by omega)]
          simp
      · rw [cf_add, i2 k hk, cf_mono_mul, b (k - t.1) (by omega)]
        simp
  have r := key (can x) fun t ht => by
    obtain ⟨h1, h2⟩ := (can_mem hp x t.1 t.2).mp ht
    exact Int.not_lt.mp fun z => by have := a t.1 z; omega
  rw [lp_can hp, csum_can hp] at r
  exact r
theorem cf_mul_bot (hp : 0 < p) {x y : LP p} {h h' : Int} (a : ∀ k, k < h → cf x k = 0) (b : ∀ k, k < h' → cf y k = 0) : cf (x * y) (h + h') = (cf x h * cf y h') % p ∧ ∀ k, k < h + h' → cf (x * y) k = 0 := by
  have key : ∀ (l : Tm), (∀ t ∈ l, h ≤ t.1) → (cf (lp p l * y) (h + h') = (csum l h * cf y h') % p) ∧ ∀ k, k < h + h' → cf (lp p l * y) k = 0 := by
    intro l
    induction l with
    | nil =>
      intro _
      rw [← lp_zero, show (0 : LP p) * y = 0 by grind, csum_nil]
      exact ⟨by rw [cf_zero]; simp, fun k _ => cf_zero k⟩
    | cons t l ih =>
      intro hl
      obtain ⟨i1, i2⟩ := ih fun u hu => hl u (List.mem_cons_of_mem _ hu)
      have ht := hl t (List.mem_cons_self ..)
      rw [lp_cons, show (mono p t.1 t.2 + lp p l) * y = mono p t.1 t.2 * y + lp p l * y by grind]
      refine ⟨?_, fun k hk => ?_⟩
      · rw [cf_add, i1, cf_mono_mul, csum_cons]
        by_cases e : t.1 = h
        · rw [if_pos e, e, show h + h' - h = h' by omega, ← Int.add_emod, Int.add_mul]
        · rw [if_neg e, b (h + h' - t.1) (by omega)]
          simp
      · rw [cf_add, i2 k hk, cf_mono_mul, b (k - t.1) (by omega)]
        simp
  have r := key (can x) fun t ht => by
    obtain ⟨h1, h2⟩ := (can_mem hp x t.1 t.2).mp ht
    exact Int.not_lt.mp fun z => by have := a t.1 z; omega
  rw [lp_can hp, csum_can hp] at r
  exact r
theorem Hi.mul (hp : isPr p = true) {x y : LP p} {h h' : Int} (a : Hi x h) (b : Hi y h') : Hi (x * y) (h + h') := by
  obtain ⟨c, d⟩ := cf_mul_top (isPr_pos hp).1 a.2 b.2
  exact ⟨by rw [c]; exact dig_mul hp (by rw [cf_mod]; exact a.1) (by rw [cf_mod]; exact b.1), d⟩
theorem Lo.mul (hp : isPr p = true) {x y : LP p} {h h' : Int} (a : Lo x h) (b : Lo y h') : Lo (x * y) (h + h') := by
  obtain ⟨c, d⟩ := cf_mul_bot (isPr_pos hp).1 a.2 b.2
  exact ⟨by rw [c]; exact dig_mul hp (by rw [cf_mod]; exact a.1) (by rw [cf_mod]; exact b.1), d⟩
theorem mul_ne (hp : isPr p = true) {x y : LP p} (h : x ≠ 0) (h' : y ≠ 0) : x * y ≠ 0 := by
  obtain ⟨a, ha⟩ := exists_hi (isPr_pos hp).1 h
  obtain ⟨b, hb⟩ := exists_hi (isPr_pos hp).1 h'
  exact (ha.mul hp hb).ne
theorem mul_zero_or (hp : isPr p = true) {x y : LP p} (h : x * y = 0) : x = 0 ∨ y = 0 := by
  by_cases e : x = 0
  · exact .inl e
  · by_cases e' : y = 0
    · exact .inr e'
    · exact absurd h (mul_ne hp e e')
theorem mul_cancel (hp : isPr p = true) {x y z : LP p} (hz : z ≠ 0) (h : x * z = y * z) : x = y := by
  have : (x - y) * z = 0 := by grind
  rcases mul_zero_or hp this with e | e
  · grind
  · exact absurd e hz
end
end My

namespace My
section
variable {p : Int}
noncomputable def lo (x : LP p) : Int := ((can x).head?.map (·.1)).getD 0
noncomputable def hi (x : LP p) : Int := ((can x).getLast?.map (·.1)).getD 0
noncomputable def sp (x : LP p) : Int := hi x - lo x
theorem lo_ok (hp : 0 < p) {x : LP p} (h : x ≠ 0) : Lo x (lo x) := by
  unfold lo
  cases e : (can x).head? with
  | none => exact absurd ((can_nil hp).mp (List.head?_eq_none_iff.mp e)) h
  | some t => exact (lo_of hp e).1
theorem hi_ok (hp : 0 < p) {x : LP p} (h : x ≠ 0) : Hi x (hi x) := by
  unfold hi
  cases e : (can x).getLast? with
  | none => exact absurd ((can_nil hp).mp (List.getLast?_eq_none_iff.mp e)) h
  | some t => exact (hi_of hp e).1
theorem sp_nonneg (hp : 0 < p) {x : LP p} (h : x ≠ 0) : 0 ≤ sp x := by
  have := lo_le_hi (lo_ok hp h) (hi_ok hp h)
  unfold sp; omega
theorem Lo.lo (hp : 0 < p) {x : LP p} {l : Int} (h : Lo x l) : My.lo x = l := (lo_ok hp h.ne).uniq h
theorem Hi.hi (hp : 0 < p) {x : LP p} {l : Int} (h : Hi x l) : My.hi x = l := (hi_ok hp h.ne).uniq h
theorem bd_hl (hp : 0 < p) {x : LP p} (h : x ≠ 0) : Bd x (lo x) (hi x) := .of_hl (hi_ok hp h) (lo_ok hp h)
theorem Bd.lo (hp : 0 < p) {x : LP p} {l h : Int} (b : Bd x l h) (hx : x ≠ 0) : l ≤ My.lo x ∧ My.lo x ≤ h := b _ (lo_ok hp hx).1
theorem Bd.hi (hp : 0 < p) {x : LP p} {l h : Int} (b : Bd x l h) (hx : x ≠ 0) : l ≤ My.hi x ∧ My.hi x ≤ h := b _ (hi_ok hp hx).1
theorem lo_mul (hp : isPr p = true) {x y : LP p} (hx : x ≠ 0) (hy : y ≠ 0) : lo (x * y) = lo x + lo y := ((lo_ok (isPr_pos hp).1 hx).mul hp (lo_ok (isPr_pos hp).1 hy)).lo (isPr_pos hp).1
theorem hi_mul (hp : isPr p = true) {x y : LP p} (hx : x ≠ 0) (hy : y ≠ 0) : hi (x * y) = hi x + hi y := ((hi_ok (isPr_pos hp).1 hx).mul hp (hi_ok (isPr_pos hp).1 hy)).hi (isPr_pos hp).1
theorem sp_mul (hp : isPr p = true) {x y : LP p} (hx : x ≠ 0) (hy : y ≠ 0) : sp (x * y) = sp x + sp y := by
  unfold sp; rw [lo_mul hp hx hy, hi_mul hp hx hy]; omega
theorem one_mod (hp : isPr p = true) : (1 : Int) % p = 1 := by rcases isPr_cases hp with rfl | rfl | rfl | rfl <;> decide
theorem mono_lo (k : Int) {c : Int} (h : c % p ≠ 0) : Lo (mono p k c) k := ⟨by rw [cf_mono, if_pos rfl]; exact h, fun j hj => by rw [cf_mono, if_neg (by omega)]⟩
theorem mono_hi (k : Int) {c : Int} (h : c % p ≠ 0) : Hi (mono p k c) k := ⟨by rw [cf_mono, if_pos rfl]; exact h, fun j hj => by rw [cf_mono, if_neg (by omega)]⟩
theorem one_ne (hp : isPr p = true) : (1 : LP p) ≠ 0 := (mono_lo (p := p) 0 (c := 1) (by rw [one_mod hp]; decide)).ne
def Dv (x y : LP p) : Prop := ∃ q, y = q * x
theorem Dv.refl (x : LP p) : Dv x x := ⟨1, by grind⟩
theorem Dv.trans {x y z : LP p} (h : Dv x y) (h' : Dv y z) : Dv x z := by
  obtain ⟨a, rfl⟩ := h
  obtain ⟨b, rfl⟩ := h'
  exact ⟨b * a, by grind⟩
theorem Dv.zero (x : LP p) : Dv x 0 := ⟨0, by grind⟩
theorem Dv.add {x y z : LP p} (h : Dv x y) (h' : Dv x z) : Dv x (y + z) := by
  obtain ⟨a, rfl⟩ := h
  obtain ⟨b, rfl⟩ := h'
  exact ⟨a + b, by grind⟩
theorem Dv.neg {x y : LP p} (h : Dv x y) : Dv x (-y) := by
  obtain ⟨a, rfl⟩ := h
  exact ⟨-a, by grind⟩
theorem Dv.sub {x y z : LP p} (h : Dv x y) (h' : Dv x z) : Dv x (y - z) := by
  obtain ⟨a, rfl⟩ := h
  obtain ⟨b, rfl⟩ := h'
  exact ⟨a - b, by grind⟩
theorem Dv.mul {x y : LP p} (h : Dv x y) (z : LP p) : Dv x (z * y) := by
  obtain ⟨a, rfl⟩ := h
  exact ⟨z * a, by grind⟩
theorem Dv.mulr {x y : LP p} (h : Dv x y) (z : LP p) : Dv (x * z) (y * z) := by
  obtain ⟨a, rfl⟩ := h
  exact ⟨a, by grind⟩
theorem dv_zero {x : LP p} (h : Dv 0 x) : x = 0 := by obtain ⟨a, rfl⟩ := h; grind
theorem unit_mono {u : LP p} {a : Int} (h : Hi u a) (l : Lo u a) : u = mono p a (cf u a) := cf_ext fun j => by
  rw [cf_mono]
  split
  · rename_i e; subst e; rw [cf_mod]
  · rename_i e
    rcases Int.lt_or_gt_of_ne (fun z => e z.symm) with z | z
    · exact l.2 j z
    · exact h.2 j z
theorem unit_of (hp : isPr p = true) {u v : LP p} (h : u * v = 1) : ∃ a c, u = mono p a c ∧ 0 < c ∧ c < p := by
  have h0 := (isPr_pos hp).1
  have hu : u ≠ 0 := fun z => one_ne hp (by rw [← h, z]; grind)
  have hv : v ≠ 0 := fun z => one_ne hp (by rw [← h, z]; grind)
  have h1 := lo_mul hp hu hv
  have h2 := hi_mul hp hu hv
  have l1 : lo (1 : LP p) = 0 := (mono_lo (p := p) 0 (c := 1) (by rw [one_mod hp]; decide)).lo h0
  have l2 : hi (1 : LP p) = 0 := (mono_hi (p := p) 0 (c := 1) (by rw [one_mod hp]; decide)).hi h0
  rw [h] at h1 h2
  have s1 := lo_le_hi (lo_ok h0 hu) (hi_ok h0 hu)
  have s2 := lo_le_hi (lo_ok h0 hv) (hi_ok h0 hv)
  have e : lo u = hi u := by omega
  have hl := lo_ok h0 hu
  rw [e] at hl
  refine ⟨hi u, cf u (hi u), unit_mono (hi_ok h0 hu) hl, ?_, (cf_range h0 u _).2⟩
  have := (cf_range h0 u (hi u)).1
  have := hl.1
  omega
theorem mono_unit (hp : isPr p = true) {a c : Int} (h0 : 0 < c) (h1 : c < p) : mono p (-a) (invD p c) * mono p a c = 1 := by
  rw [mono_mul, ← mono_mod, (invD_mul hp h0 h1).1, show -a + a = 0 by omega]
  rfl
def Nrm (x : LP p) : Prop := x = 0 ∨ (Lo x 0 ∧ cf x (hi x) = 1)
noncomputable def nrm (x : LP p) : LP p := mono p (-lo x) (invD p (cf x (hi x))) * x
theorem cf_hi (hp : 0 < p) {x : LP p} (h : x ≠ 0) : 0 < cf x (hi x) ∧ cf x (hi x) < p := by
  have := (hi_ok hp h).1
  have := cf_range hp x (hi x)
  omega
theorem nrm_zero : nrm (0 : LP p) = 0 := by unfold nrm; grind
theorem inv_ne (hp : isPr p = true) {c : Int} (h0 : 0 < c) (h1 : c < p) : invD p c % p ≠ 0 := by
  obtain ⟨a, b, d⟩ := invD_mul hp h0 h1
  rw [Int.emod_eq_of_lt (by omega) d]
  omega
theorem nrm_unit (hp : isPr p = true) {x : LP p} (h : x ≠ 0) : ∃ u v : LP p, u * v = 1 ∧ nrm x = u * x ∧ x = v * nrm x := by
  have h0 := (isPr_pos hp).1
  obtain ⟨c0, c1⟩ := cf_hi h0 h
  have := mono_unit hp (a := lo x) c0 c1
  refine ⟨mono p (-lo x) (invD p (cf x (hi x))), mono p (lo x) (cf x (hi x)), this, rfl, ?_⟩
  unfold nrm
  grind
theorem nrm_hl (hp : isPr p = true) {x : LP p} (h : x ≠ 0) : Lo (nrm x) 0 ∧ Hi (nrm x) (sp x) ∧ cf (nrm x) (sp x) = 1 := by
  have h0 := (isPr_pos hp).1
  obtain ⟨c0, c1⟩ := cf_hi h0 h
  have hi' := inv_ne hp c0 c1
  have a := (mono_lo (-lo x) hi').mul hp (lo_ok h0 h)
  have b := (mono_hi (-lo x) hi').mul hp (hi_ok h0 h)
  rw [show -lo x + lo x = 0 by omega] at a
  rw [show -lo x + hi x = sp x by unfold sp; omega] at b
  refine ⟨a, b, ?_⟩
  unfold nrm
  rw [cf_mono_mul, show sp x - -lo x = hi x by unfold sp; omega]
  exact (invD_mul hp c0 c1).1
theorem nrm_nrm (hp : isPr p = true) (x : LP p) : Nrm (nrm x) := by
  by_cases h : x = 0
  · rw [h, nrm_zero]; exact .inl rfl
  · obtain ⟨a, b, c⟩ := nrm_hl hp h
    exact .inr ⟨a, by rw [b.hi (isPr_pos hp).1]; exact c⟩
theorem sp_nrm (hp : isPr p = true) {x : LP p} (h : x ≠ 0) : sp (nrm x) = sp x := by
  obtain ⟨a, b, c⟩ := nrm_hl hp h
  unfold sp
  rw [a.lo (isPr_pos hp).1, b.hi (isPr_pos hp).1]
  unfold sp
  omega
theorem dv_nrm (hp : isPr p = true) (x : LP p) : Dv x (nrm x) := ⟨_, rfl⟩
theorem nrm_dv (hp : isPr p = true) (x : LP p) : Dv (nrm x) x := by
  by_cases h : x = 0
  · rw [h]; exact .zero _
  · obtain ⟨u, v, e, e1, e2⟩ := nrm_unit hp h
    exact ⟨v, e2⟩
theorem nrm_uniq (hp : isPr p = true) {x y : LP p} (hx : Nrm x) (hy : Nrm y) (h : Dv x y) (h' : Dv y x) : x = y := by
  have h0 := (isPr_pos hp).1
  by_cases e : x = 0
  · rw [e] at h ⊢; exact (dv_zero h).symm
  · have ey : y ≠ 0 := fun z => e (dv_zero (z ▸ h'))
    obtain ⟨u, eu⟩ := h
    obtain ⟨v, ev⟩ := h'
    have huv : u * v = 1 := mul_cancel hp e (by grind)
    obtain ⟨a, c, rfl, c0, c1⟩ := unit_of hp huv
    rcases hx with hx | ⟨lx, cx⟩
    · exact absurd hx e
    rcases hy with hy | ⟨ly, cy⟩
    · exact absurd hy ey
    have hc : c % p ≠ 0 := by rw [Int.emod_eq_of_lt (by omega) c1]; omega
    have l2 := (mono_lo a hc).mul hp lx
    have h2 := (mono_hi a hc).mul hp (hi_ok h0 e)
    rw [← eu] at l2 h2
    have ea : a = 0 := by have := l2.uniq ly; omega
    subst ea
    have e1 := h2.hi h0
    rw [e1, eu, cf_mono_mul, show 0 + hi x - 0 = hi x by omega, cx, Int.mul_one, Int.emod_eq_of_lt (by omega) c1] at cy
    rw [eu, cy, mono_one]
    grind
theorem Nrm.mul (hp : isPr p = true) {x y : LP p} (hx : Nrm x) (hy : Nrm y) : Nrm (x * y) := by
  have h0 := (isPr_pos hp).1
  by_cases ex : x = 0
  · rw [ex]; exact .inl (by grind)
  by_cases ey : y = 0
  · rw [ey]; exact .inl (by grind)
  rcases hx with hx | ⟨lx, cx⟩
  · exact absurd hx ex
  rcases hy with hy | ⟨ly, cy⟩
  · exact absurd hy ey
  refine .inr ⟨lx.mul hp ly, ?_⟩
  rw [hi_mul hp ex ey, (cf_mul_top h0 (hi_ok h0 ex).2 (hi_ok h0 ey).2).1, cx, cy, Int.mul_one]
  exact one_mod hp
def IsMod (f g r : LP p) : Prop := (∃ q, f = q * g + r) ∧ Bd r 0 (sp g - 1)
theorem IsMod.dv {f g r : LP p} (h : IsMod f g r) : Dv g (f - r) := by obtain ⟨⟨q, e⟩, _⟩ := h; exact ⟨q, by grind⟩
theorem IsMod.nrm (hp : isPr p = true) {f g r : LP p} (hg : g ≠ 0) (h : IsMod f (nrm g) r) : IsMod f g r := by
  obtain ⟨⟨q, e⟩, b⟩ := h
  obtain ⟨u, eu⟩ := dv_nrm hp g
  exact ⟨⟨q * u, by rw [e, eu]; grind⟩, by rw [← sp_nrm hp hg]; exact b⟩
def IsGcd (d f g : LP p) : Prop := Nrm d ∧ Dv d f ∧ Dv d g ∧ ∃ u v, d = u * f + v * g
theorem IsGcd.uniq (hp : isPr p = true) {d e f g : LP p} (h : IsGcd d f g) (h' : IsGcd e f g) : d = e := by
  obtain ⟨n, a, b, u, v, ed⟩ := h
  obtain ⟨n', a', b', u', v', ee⟩ := h'
  refine nrm_uniq hp n n' ?_ ?_
  · rw [ee]; exact (a.mul _).add (b.mul _)
  · rw [ed]; exact (a'.mul _).add (b'.mul _)
theorem IsGcd.of (hp : isPr p = true) {d f g : LP p} (h : IsGcd d f g) {f' g' : LP p} (h1 : Dv d f') (h2 : Dv d g') (h3 : ∃ a b, f = a * f' + b * g') (h4 : ∃ a b, g = a * f' + b * g') : IsGcd d f' g' := by
  obtain ⟨n, a, b, u, v, ed⟩ := h
  obtain ⟨c1, c2, e1⟩ := h3
  obtain ⟨c3, c4, e2⟩ := h4
  exact ⟨n, h1, h2, u * c1 + v * c3, u * c2 + v * c4, by rw [ed, e1, e2]; grind⟩
theorem IsGcd.zero (hp : isPr p = true) (f : LP p) : IsGcd (nrm f) f 0 := by
  obtain ⟨u, e⟩ := dv_nrm hp f
  exact ⟨nrm_nrm hp f, nrm_dv hp f, .zero _, u, 0, by rw [e]; grind⟩
theorem IsGcd.ne (hp : isPr p = true) {d f g : LP p} (h : IsGcd d f g) (hf : f ≠ 0 ∨ g ≠ 0) : d ≠ 0 := fun z => by
  obtain ⟨_, a, b, _⟩ := h
  rw [z] at a b
  rcases hf with hf | hf
  · exact hf (dv_zero a)
  · exact hf (dv_zero b)
theorem IsGcd.mulr (hp : isPr p = true) {d f g : LP p} (h : IsGcd d f g) (k : LP p) : IsGcd (nrm (d * k)) (f * k) (g * k) := by
  obtain ⟨n, a, b, u, v, ed⟩ := h
  obtain ⟨w, ew⟩ := dv_nrm hp (d * k)
  refine ⟨nrm_nrm hp _, (nrm_dv hp _).trans (a.mulr k), (nrm_dv hp _).trans (b.mulr k), w * u, w * v, ?_⟩
  rw [ew, ed]
  grind
def IsLcm (m f g : LP p) : Prop := ∃ d q, IsGcd d f g ∧ f * g = q * d ∧ ((f = 0 ∨ g = 0) → m = 0) ∧ (f ≠ 0 → g ≠ 0 → m = nrm q)
end
end My

namespace My
variable {p : Int}
def ac (x : LP p) (s : Int → Int) (k : Int) : Int := Quotient.liftOn x (fun a => wsum a (fun t => s (k + t)) % p) fun a b h => wsum_congr h _
theorem ac_lp (a : Tm) (s : Int → Int) (k : Int) : ac (lp p a) s k = wsum a (fun t => s (k + t)) % p := rfl
theorem ac_mod (x : LP p) (s : Int → Int) (k : Int) : ac x s k % p = ac x s k := by
  obtain ⟨a, rfl⟩ := lp_surj x
  rw [ac_lp, Int.emod_emod_of_dvd _ (Int.dvd_refl p)]
theorem ac_range (hp : 0 < p) (x : LP p) (s : Int → Int) (k : Int) : 0 ≤ ac x s k ∧ ac x s k < p := by
  rw [← ac_mod]
  exact ⟨Int.emod_nonneg _ (by omega), Int.emod_lt_of_pos _ hp⟩
theorem ac_zero (s : Int → Int) (k : Int) : ac (0 : LP p) s k = 0 := by rw [lp_zero, ac_lp, wsum_nil]; exact Int.zero_emod p
theorem ac_add (x y : LP p) (s : Int → Int) (k : Int) : ac (x + y) s k = (ac x s k + ac y s k) % p := by
  obtain ⟨a, rfl⟩ := lp_surj x
  obtain ⟨b, rfl⟩ := lp_surj y
  rw [lp_add, ac_lp, ac_lp, ac_lp, wsum_append, Int.add_emod]
theorem wsum_mod {p : Int} (a : Tm) (f : Int → Int) : wsum a (fun t => f t % p) % p = wsum a f % p := wsum_congr_f a fun k => Int.emod_emod_of_dvd _ (Int.dvd_refl p)
theorem ac_mul (x y : LP p) (s : Int → Int) (k : Int) : ac (x * y) s k = ac x (ac y s) k := by
  obtain ⟨a, rfl⟩ := lp_surj x
  obtain ⟨b, rfl⟩ := lp_surj y
  rw [lp_mul, ac_lp, ac_lp, wsum_prods]
  have : (fun t => ac (lp p b) s (k + t)) = fun t => wsum b (fun u => s (k + t + u)) % p := rfl
  rw [this, wsum_mod]
  congr 2
  funext i
  congr 1
  funext j
  rw [Int.add_assoc]
theorem ac_neg (x : LP p) (s : Int → Int) (k : Int) : ac (-x) s k = (-ac x s k) % p := by
  have h := ac_add (-x) x s k
  rw [show -x + x = (0 : LP p) by grind, ac_zero] at h
  have h2 : (ac (-x) s k) % p = (ac (-x) s k + ac x s k - ac x s k) % p := by congr 1; omega
  rw [Int.sub_emod, ← h, Int.zero_sub, ac_mod, ac_mod] at h2
  exact h2
theorem ac_sub (x y : LP p) (s : Int → Int) (k : Int) : ac (x - y) s k = (ac x s k - ac y s k) % p := by
  rw [show x - y = x + -y by grind, ac_add, ac_neg, Int.add_emod, Int.emod_emod_of_dvd _ (Int.dvd_refl p), ← Int.add_emod]
  rfl
def Dg (p : Int) (s : Int → Int) : Prop := ∀ k, 0 ≤ s k ∧ s k < p
theorem Dg.mod {s : Int → Int} (h : Dg p s) (k : Int) : s k % p = s k := Int.emod_eq_of_lt (h k).1 (h k).2
theorem Dg.ac (hp : 0 < p) (x : LP p) (s : Int → Int) : Dg p (ac x s) := fun k => ac_range hp x s k
def Ru (x : LP p) (s : Int → Int) : Prop := ∀ k, ac x s k = 0
theorem Ru.mul {x : LP p} {s : Int → Int} (h : Ru x s) (y : LP p) : Ru (y * x) s := fun k => by
  rw [ac_mul]
  obtain ⟨a, rfl⟩ := lp_surj y
  rw [ac_lp]
  have : (fun t => ac x s (k + t)) = fun _ => 0 := by funext t; exact h _
  rw [this]
  unfold wsum
  rw [show (a.map fun t => t.2 * (0 : Int)) = a.map (fun _ => (0 : Int)) from List.map_congr_left fun t _ => Int.mul_zero _]
  have : (a.map fun _ => (0 : Int)).sum = 0 := by
    induction a with
    | nil => rfl
    | cons t a ih => rw [List.map_cons, List.sum_cons, ih]; rfl
  rw [this, Int.zero_emod]
theorem Ru.dv {x y : LP p} {s : Int → Int} (h : Ru x s) (d : Dv x y) : Ru y s := by
  obtain ⟨q, rfl⟩ := d
  exact h.mul q
theorem Ru.add {x y : LP p} {s : Int → Int} (h : Ru x s) (h' : Ru y s) : Ru (x + y) s := fun k => by rw [ac_add, h, h']; exact Int.zero_emod p
theorem Ru.sub {x y : LP p} {s : Int → Int} (h : Ru x s) (h' : Ru y s) : Ru (x - y) s := fun k => by rw [ac_sub, h, h']; exact Int.zero_emod p
theorem Ru.nrm (hp : isPr p = true) {x : LP p} {s : Int → Int} : Ru (nrm x) s ↔ Ru x s := ⟨fun h => h.dv (nrm_dv hp x), fun h => h.dv (dv_nrm hp x)⟩
def Dvr (g : LP p) (m : Nat) : Prop := Lo g 0 ∧ Hi g m ∧ cf g m = 1
theorem Dvr.bd {g : LP p} {m : Nat} (h : Dvr g m) : Bd g 0 m := .of_hl h.2.1 h.1
theorem Dvr.sp (hp : 0 < p) {g : LP p} {m : Nat} (h : Dvr g m) : sp g = m := by
  unfold My.sp
  rw [h.1.lo hp, h.2.1.hi hp]; omega
theorem Dvr.nrm (hp : isPr p = true) {g : LP p} (h : g ≠ 0) : Dvr (nrm g) (My.sp g).toNat := by
  obtain ⟨n1, n2, n3⟩ := nrm_hl hp h
  have := sp_nonneg (isPr_pos hp).1 h
  rw [show My.sp g = ((My.sp g).toNat : Int) by omega] at n2 n3
  exact ⟨n1, n2, n3⟩
end My

namespace My
variable {p : Int}
def hor (g : LP p) (m : Nat) : Nat → LP p
  | 0 => 0
  | j + 1 => mono p 1 1 * hor g m j + mono p 0 (cf g ((m : Int) - j))
def hs (g : LP p) (m : Nat) (s : Int → Int) : LP p := lp p ((List.range m).map fun (i : Nat) => ((i : Int), ac (hor g m (m - i)) s 0))
def sg (t : Int) (s : Int → Int) : Int → Int := fun k => s (k + t)
theorem ac_sg (x : LP p) (t : Int) (s : Int → Int) (k : Int) : ac x (sg t s) k = ac x s (k + t) := by
  obtain ⟨a, rfl⟩ := lp_surj x
  rw [ac_lp, ac_lp]
  congr 2
  funext u
  show s (k + u + t) = _
  congr 1; omega
theorem Ru.sg {x : LP p} {s : Int → Int} (h : Ru x s) (t : Int) : Ru x (sg t s) := fun k => by rw [ac_sg]; exact h _
theorem Dg.sg {s : Int → Int} (h : Dg p s) (t : Int) : Dg p (sg t s) := fun k => h _
theorem Ru.ac {x : LP p} {s : Int → Int} (h : Ru x s) (f : LP p) : Ru x (ac f s) := fun k => by
  rw [← ac_mul, show x * f = f * x by grind]
  exact h.mul f k
structure IsLr (g : LP p) (s : Int → Int) : Prop where
  ne : g ≠ 0
  nm : Nrm g
  ru : Ru g s
  le : ∀ f, Ru f s → Dv g f
theorem IsLr.uniq (hp : isPr p = true) {g g' : LP p} {s : Int → Int} (h : IsLr g s) (h' : IsLr g' s) : g = g' := nrm_uniq hp h.nm h'.nm (h.le _ h'.ru) (h'.le _ h.ru)
end My

namespace My
open PySem PySem.Spec L2 DL
def okD (d : D) : Prop := ∃ t, tyD d = some t ∧ ∀ c, t = .own c → c ∈ CS
def isInt : D → Bool
  | .int _ => true
  | _ => false
def isLst : D → Bool
  | .lst _ => true
  | .tup _ => true
  | .rol _ => true
  | _ => false
def trm (t : Int × Int) : D := .tup [.int t.1, .int t.2]
def kvp (t : Int × Int) : Key × D := (.inl t.1, .int t.2)
def flt (p : Int) (ts : Tm) : List (Str × D) := [("prime", .int p), ("kept", .lst (ts.map trm)), ("held", .dct (ts.map kvp))]
def fob (p : Int) (ts : Tm) : D := .obj "Filter" (flt p ts)
theorem find_kvp (k : Int) : ∀ m : Tm, (m.map kvp).find? (fun kv => decide (kv.1 = Sum.inl k)) = (m.find? fun t => decide (t.1 = k)).map kvp
  | [] => rfl
  | t :: m => by
    rw [List.map_cons, List.find?_cons, List.find?_cons, find_kvp k m]
    have e : decide ((kvp t).1 = (Sum.inl k : Key)) = decide (t.1 = k) := by simp [kvp]
    rw [e]
    cases decide (t.1 = k) <;> rfl
theorem get_kvp (m : Tm) (k : Int) : (DL.getD (m.map kvp) (.inl k)).getD (.int 0) = .int (getI m k) := by
  unfold DL.getD getI
  rw [find_kvp]
  cases m.find? (fun t => decide (t.1 = k)) <;> rfl
theorem get_kvp' {m : Tm} {k : Int} (h : k ∈ m.map (·.1)) : DL.getD (m.map kvp) (.inl k) = some (.int (getI m k)) := by
  have e := get_kvp m k
  cases q : DL.getD (m.map kvp) (.inl k) with
  | some d => rw [q] at e; exact congrArg some e
  | none =>
    unfold DL.getD at q
    rw [find_kvp] at q
    have q1 := Option.map_eq_none_iff.mp (Option.map_eq_none_iff.mp q)
    rw [List.find?_eq_none] at q1
    obtain ⟨t, h1, h2⟩ := List.mem_map.mp h
    exact absurd (by simpa using h2) (q1 t h1)
theorem put_kvp (m : Tm) (k v : Int) : putD (m.map kvp) (.inl k) (.int v) = (putI m k v).map kvp := by
  have e : ((m.map kvp).any fun kv => decide (kv.1 = Sum.inl k)) = m.any fun t => decide (t.1 = k) := by
    rw [List.any_map]
    congr 1
    funext t
    simp [kvp]
  unfold putD putI
  rw [e]
  split
  · rw [List.map_map, List.map_map]
    refine List.map_congr_left fun t _ => ?_
    by_cases h : t.1 = k
    · simp [kvp, h]
    · simp [kvp, h]
  · rw [List.map_append]
    rfl
theorem keys_kvp (m : Tm) : ((m.map kvp).map fun kv => DL.keyOf kv.1) = (m.map (·.1)).map D.int := by
  rw [List.map_map, List.map_map]
  rfl
theorem ok_int (i : Int) : okD (.int i) := ⟨_, rfl, fun c e => nomatch e⟩
theorem isa_int_int : isaB "int" (.b "int") = true := by decide
theorem isa_int_bool : isaB "int" (.b "bool") = true := by decide
theorem isa_int_list : isaB "int" (.b "list") = false := by decide
theorem isa_int_tuple : isaB "int" (.b "tuple") = false := by decide
theorem isa_int_str : isaB "int" (.b "str") = false := by decide
theorem isa_int_NoneType : isaB "int" (.b "NoneType") = false := by decide
theorem isa_int_dict : isaB "int" (.b "dict") = false := by decide
theorem isa_int_own (c : Str) : isaB "int" (.own c) = false := rfl
theorem isa_bool_int : isaB "bool" (.b "int") = false := by decide
theorem isa_bool_bool : isaB "bool" (.b "bool") = true := by decide
theorem isa_bool_list : isaB "bool" (.b "list") = false := by decide
theorem isa_bool_tuple : isaB "bool" (.b "tuple") = false := by decide
theorem isa_bool_str : isaB "bool" (.b "str") = false := by decide
theorem isa_bool_NoneType : isaB "bool" (.b "NoneType") = false := by decide
theorem isa_bool_dict : isaB "bool" (.b "dict") = false := by decide
theorem isa_bool_own (c : Str) : isaB "bool" (.own c) = false := rfl
theorem isa_list_int : isaB "list" (.b "int") = false := by decide
theorem isa_list_bool : isaB "list" (.b "bool") = false := by decide
theorem isa_list_list : isaB "list" (.b "list") = true := by decide
theorem isa_list_tuple : isaB "list" (.b "tuple") = false := by decide
theorem isa_list_str : isaB "list" (.b "str") = false := by decide
theorem isa_list_NoneType : isaB "list" (.b "NoneType") = false := by decide
theorem isa_list_dict : isaB "list" (.b "dict") = false := by decide
theorem isa_list_own (c : Str) : isaB "list" (.own c) = false := rfl
theorem isa_tuple_int : isaB "tuple" (.b "int") = false := by decide
theorem isa_tuple_bool : isaB "tuple" (.b "bool") = false := by decide
theorem isa_tuple_list : isaB "tuple" (.b "list") = false := by decide
theorem isa_tuple_tuple : isaB "tuple" (.b "tuple") = true := by decide
theorem isa_tuple_str : isaB "tuple" (.b "str") = false := by decide
theorem isa_tuple_NoneType : isaB "tuple" (.b "NoneType") = false := by decide
theorem isa_tuple_dict : isaB "tuple" (.b "dict") = false := by decide
theorem isa_tuple_own (c : Str) : isaB "tuple" (.own c) = false := rfl
theorem ty_int (i : Int) : tyD (.int i) = some (.b "int") := rfl
theorem ty_bl (i : Bool) : tyD (.bl i) = some (.b "bool") := rfl
theorem ty_str (i : Str) : tyD (.str i) = some (.b "str") := rfl
theorem ty_lst (i : List D) : tyD (.lst i) = some (.b "list") := rfl
theorem ty_rol (i : List D) : tyD (.rol i) = some (.b "list") := rfl
theorem ty_tup (i : List D) : tyD (.tup i) = some (.b "tuple") := rfl
theorem ty_dct (i : List (Key × D)) : tyD (.dct i) = some (.b "dict") := rfl
theorem ty_non : tyD .non = some (.b "NoneType") := rfl
theorem ty_obj (c : Str) (fs : List (Str × D)) : tyD (.obj c fs) = some (.own c) := rfl
theorem own_b {P : Str → Prop} (s : String) : (∀ c, Ty.b s = .own c → P c) ↔ True := ⟨fun _ => trivial, fun _ c e => nomatch e⟩
def enumF (i : Nat) : List D → List D
  | [] => []
  | d :: ds => .tup [.int (i : Int), d] :: enumF (i + 1) ds
theorem enumF_get : ∀ (ds : List D) (i j : Nat), (enumF i ds)[j]? = ds[j]?.map fun d => D.tup [.int ((i + j : Nat) : Int), d]
  | [], i, j => by simp [enumF]
  | d :: ds, i, 0 => by simp [enumF]
  | d :: ds, i, j + 1 => by
    rw [enumF, List.getElem?_cons_succ, List.getElem?_cons_succ, enumF_get ds (i + 1) j]
    rw [show i + 1 + j = i + (j + 1) by omega]
theorem enumD_eq (ds : List D) : enumD ds = enumF 0 ds := by
  refine List.ext_getElem? fun j => ?_
  rw [enumF_get, enumD, List.getElem?_map]
  by_cases h : j < ds.length
  · rw [List.getElem?_range h, List.getElem?_eq_getElem h]
    simp [List.getD, h]
  · rw [List.getElem?_eq_none (by simpa using h), List.getElem?_eq_none (by omega)]
    rfl
theorem forD_nil {γ : DG} {b : DS} {E : DEnds} {ρ : DL.Env} {n : Nat} : forD γ b [] E ρ n = E.nx ρ n := rfl
theorem forD_cons {γ : DG} {b : DS} {E : DEnds} {ρ : DL.Env} {n : Nat} {d : D} {ds : List D} : forD γ b (d :: ds) E ρ n = γ d ρ fun ρ1 => b { E with nx := forD γ b ds E, ct := forD γ b ds E, bk := E.nx } ρ1 n := rfl
theorem ix0 (a b : D) : atI [a, b] 0 = some a := rfl
theorem ix1 (a b : D) : atI [a, b] 1 = some b := rfl
theorem lcD_map {w : Wd} {γ : DG} {tt : DT} {te : DE} {ρ : DL.Env} {n : Nat} (f : D → Option D) : ∀ (ds acc : List D) (q : List D → Nat → Prop), (∀ d ∈ ds, ∀ K : Option D → Nat → Prop, K (f d) n → γ d ρ fun ρ1 => tt (x0 w) ρ1 n fun b n1 => if b = true then te (x0 w) ρ1 n1 (fun y n2 => K (some y) n2) else K none n1) →
    acc.length + ds.length < 16777216 → q (acc ++ ds.filterMap f) n → lcD w γ tt te ds ρ n acc q
  | [], acc, q, _, _, h => by simpa [lcD] using h
  | d :: ds, acc, q, hs, hl, h => by
    rw [List.length_cons] at hl
    refine hs d (List.mem_cons_self ..) (fun o n' => match o with
      | some y => acc.length < 16777216 ∧ lcD w γ tt te ds ρ n' (acc ++ [y]) q
      | none => lcD w γ tt te ds ρ n' acc q) ?_
    rw [List.filterMap_cons] at h
    cases e : f d with
    | none =>
      rw [e] at h
      exact lcD_map f ds acc q (fun d hd => hs d (List.mem_cons_of_mem _ hd)) (by omega) h
    | some y =>
      rw [e] at h
      refine ⟨by omega, lcD_map f ds (acc ++ [y]) q (fun d hd => hs d (List.mem_cons_of_mem _ hd)) (by rw [List.length_append, List.length_singleton]; omega) ?_⟩
      rw [List.append_assoc]
      exact h
theorem lcD_of {α : Type} {w : Wd} {γ : DG} {tt : DT} {te : DE} {ρ : DL.Env} {n : Nat} (g : α → D) (f : α → Option D) : ∀ (xs : List α) (acc : List D) (q : List D → Nat → Prop), (∀ a ∈ xs, ∀ K : Option D → Nat → Prop, K (f a) n → γ (g a) ρ fun ρ1 => tt (x0 w) ρ1 n fun b n1 => if b = true then te (x0 w) ρ1 n1 (fun y n2 => K (some y) n2) else K none n1) →
    acc.length + xs.length < 16777216 → q (acc ++ xs.filterMap f) n → lcD w γ tt te (xs.map g) ρ n acc q
  | [], acc, q, _, _, h => by simpa [lcD] using h
  | d :: ds, acc, q, hs, hl, h => by
    rw [List.length_cons] at hl
    rw [List.map_cons]
    refine hs d (List.mem_cons_self ..) (fun o n' => match o with
      | some y => acc.length < 16777216 ∧ lcD w γ tt te (ds.map g) ρ n' (acc ++ [y]) q
      | none => lcD w γ tt te (ds.map g) ρ n' acc q) ?_
    rw [List.filterMap_cons] at h
    cases e : f d with
    | none =>
      rw [e] at h
      exact lcD_of g f ds acc q (fun d hd => hs d (List.mem_cons_of_mem _ hd)) (by omega) h
    | some y =>
      rw [e] at h
      refine ⟨by omega, lcD_of g f ds (acc ++ [y]) q (fun d hd => hs d (List.mem_cons_of_mem _ hd)) (by rw [List.length_append, List.length_singleton]; omega) ?_⟩
      rw [List.append_assoc]
      exact h
theorem lcD_all {α : Type} {w : Wd} {γ : DG} {tt : DT} {te : DE} {ρ : DL.Env} {n : Nat} (g f : α → D) (xs : List α) (q : List D → Nat → Prop) (h : ∀ a ∈ xs, ∀ K : Option D → Nat → Prop, K (some (f a)) n → γ (g a) ρ fun ρ1 => tt (x0 w) ρ1 n fun b n1 => if b = true then te (x0 w) ρ1 n1 (fun y n2 => K (some y) n2) else K none n1)
    (hl : xs.length < 16777216) (hq : q (xs.map f) n) : lcD w γ tt te (xs.map g) ρ n [] q := by
  refine lcD_of g (fun a => some (f a)) xs [] q h (by simpa using hl) ?_
  rw [List.nil_append]
  have : xs.filterMap (fun a => some (f a)) = xs.map f := by
    clear h hl hq
    induction xs with
    | nil => rfl
    | cons a xs ih => rw [List.filterMap_cons]; simp [ih]
  rw [this]
  exact hq
theorem intsD_map : ∀ ks : List Int, intsD (ks.map D.int) = some ks
  | [] => rfl
  | k :: ks => by rw [List.map_cons, intsD, intsD_map ks]; rfl
theorem fm_some (ds : List D) : ds.filterMap some = ds := List.filterMap_some ..
theorem fm_if (g : Int → Bool) (h : Int → D) : ∀ ks : List Int, (ks.filterMap fun k => if g k = true then some (h k) else none) = (ks.filter g).map h
  | [] => rfl
  | k :: ks => by
    rw [List.filterMap_cons, List.filter_cons]
    cases e : g k
    · rw [if_neg Bool.false_ne_true, if_neg Bool.false_ne_true, fm_if g h ks]
    · rw [if_pos rfl, if_pos rfl, List.map_cons, fm_if g h ks]
theorem pairs_trm : ∀ m : Tm, pairsD (m.map trm) = some (m.map kvp)
  | [] => rfl
  | t :: m => by
    rw [List.map_cons, List.map_cons]
    show ((keyD (D.int t.1)).bind fun j => (pairsD (m.map trm)).map ((j, D.int t.2) :: ·)) = _
    rw [pairs_trm m]
    rfl
theorem merge_kvp : ∀ (m a : Tm), ((a ++ m).map (·.1)).Nodup → mergeD (a.map kvp) (m.map kvp) = (a ++ m).map kvp
  | [], a, _ => by rw [List.append_nil]; rfl
  | t :: m, a, h => by
    rw [List.map_cons]
    show mergeD (putD (a.map kvp) (.inl t.1) (.int t.2)) (m.map kvp) = _
    have nm : t.1 ∉ a.map (·.1) := fun z => by
      rw [List.map_append, List.nodup_append] at h
      exact h.2.2 t.1 z t.1 (by rw [List.map_cons]; exact List.mem_cons_self ..) rfl
    have e : putI a t.1 t.2 = a ++ [t] := by
      unfold putI
      rw [if_neg (fun z => nm ((any_iff a t.1).mp z))]
    rw [put_kvp, e, merge_kvp m (a ++ [t]) (by rw [List.append_assoc]; exact h), List.append_assoc]
    rfl
theorem merge_kvp0 {m : Tm} (h : (m.map (·.1)).Nodup) : mergeD [] (m.map kvp) = m.map kvp := merge_kvp m [] h
theorem hsum_key {p : Int} {ts : Tm} {k : Int} (h : k ∈ srt ((hsum p ts).map (·.1))) : k ∈ (hsum p ts).map (·.1) := (srt_perm _).mem_iff.mp h
def keepF (S : Tm) : D → Option D
  | .int k => if decide (0 < getI S k) = true then some (trm (k, getI S k)) else none
  | _ => none
theorem keepF_eq (p : Int) (ts : Tm) : ((srt ((hsum p ts).map (·.1))).map D.int).filterMap (keepF (hsum p ts)) = (canon p ts).map trm := by
  rw [List.filterMap_map]
  have e := fm_if (fun k => decide (0 < getI (hsum p ts) k)) (fun k => trm (k, getI (hsum p ts) k)) (srt ((hsum p ts).map (·.1)))
  exact e.trans (by unfold canon; rw [List.map_map]; rfl)
theorem lk_kept (a b : D) : List.lookup ("kept" : Str) (setF "kept" b (setF "prime" a [])) = some b := rfl
theorem lk1 (p : Int) (ts : Tm) : List.lookup ("prime" : Str) (flt p ts) = some (.int p) := rfl
theorem lk2 (p : Int) (ts : Tm) : List.lookup ("kept" : Str) (flt p ts) = some (.lst (ts.map trm)) := rfl
theorem lk3 (p : Int) (ts : Tm) : List.lookup ("held" : Str) (flt p ts) = some (.dct (ts.map kvp)) := rfl
theorem lkT (p : Int) (ts : Tm) : List.lookup ("terms" : Str) (flt p ts) = none := rfl
def pairF (S : Tm) : D → Option D
  | .int k => some (trm (k, getI S k))
  | _ => none
theorem pairF_eq' (S : Tm) : ∀ ts : Tm, (∀ t ∈ ts, getI S t.1 = t.2) → ((ts.map (·.1)).map D.int).filterMap (pairF S) = ts.map trm
  | [], _ => rfl
  | t :: ts, h => by
    rw [List.map_cons, List.map_cons, List.filterMap_cons, pairF_eq' S ts (fun u hu => h u (List.mem_cons_of_mem _ hu))]
    simp only [pairF]
    rw [h t (List.mem_cons_self ..)]
    rfl
theorem pairF_eq {ts : Tm} (h : (ts.map (·.1)).Nodup) : ((ts.map (·.1)).map D.int).filterMap (pairF ts) = ts.map trm := pairF_eq' ts ts fun t ht => getI_mem h ht
theorem putI_new {m : Tm} {k : Int} (v : Int) (h : k ∉ m.map (·.1)) : putI m k v = m ++ [(k, v)] := by
  unfold putI
  rw [if_neg (fun z => h ((any_iff m k).mp z))]
theorem rng_len (lo : Int) (n : Nat) : (rngD lo n).length = n := by simp [rngD]
theorem sh_int (i : Int) : SeqAt.shaped (pyD (.int i)) = true := rfl
theorem sh_bl (b : Bool) : SeqAt.shaped (pyD (.bl b)) = true := rfl
theorem eq_int (i : Int) : (pyD (.int i)).eqv (pyD (.int i)) = true := SeqAt.eqv_refl _ rfl
theorem eq_bl (b : Bool) : (pyD (.bl b)).eqv (pyD (.bl b)) = true := SeqAt.eqv_refl _ rfl
theorem forD_ind {γ : DG} {b : DS} {E : DEnds} (I : DL.Env → Nat → Nat → Prop)
    (step : ∀ (ρ : DL.Env) (n k : Nat) (d : D) (R : DL.Env → Nat → Prop), I ρ n (k + 1) → (∀ ρ' n', I ρ' n' k → R ρ' n') → γ d ρ fun ρ1 => b { E with nx := R, ct := R, bk := E.nx } ρ1 n)
    (done : ∀ ρ n, I ρ n 0 → E.nx ρ n) : ∀ (ds : List D) (ρ : DL.Env) (n : Nat), I ρ n ds.length → forD γ b ds E ρ n
  | [], ρ, n, h => done ρ n h
  | d :: ds, ρ, n, h => step ρ n ds.length d (forD γ b ds E) h fun ρ' n' h' => forD_ind I step done ds ρ' n' h'

theorem forD_pre {α : Type} {γ : DG} {b : DS} {E : DEnds} {f : α → D} (xs : List α) (I : List α → DL.Env → Nat → Prop)
    (step : ∀ pre a post, xs = pre ++ a :: post → ∀ (ρ : DL.Env) (n : Nat) (R : DL.Env → Nat → Prop), I pre ρ n → (∀ ρ' n', I (pre ++ [a]) ρ' n' → R ρ' n') → γ (f a) ρ fun ρ1 => b { E with nx := R, ct := R, bk := E.nx } ρ1 n)
    (done : ∀ ρ n, I xs ρ n → E.nx ρ n) {ρ : DL.Env} {n : Nat} (h0 : I [] ρ n) : forD γ b (xs.map f) E ρ n := by
  have go : ∀ (post pre : List α), xs = pre ++ post → ∀ ρ n, I pre ρ n → forD γ b (post.map f) E ρ n := by
    intro post
    induction post with
    | nil => intro pre e ρ n h; rw [List.append_nil] at e; subst e; exact done ρ n h
    | cons a post ih =>
      intro pre e ρ n h
      rw [List.map_cons, forD_cons]
      exact step pre a post e ρ n _ h fun ρ' n' h' => ih (pre ++ [a]) (by rw [e, List.append_assoc]; rfl) ρ' n' h'
  exact go xs [] rfl ρ n h0
theorem dSeq_at {a b : DS} {E : DEnds} {ρ : DL.Env} {n : Nat} (h : ∀ R, R = b E → a { E with nx := R } ρ n) : dSeq a b E ρ n := h _ rfl
theorem eqv_int (a b : Int) : (pyD (.int a)).eqv (pyD (.int b)) = decide (a = b) := by
  show PyData.eqv (.int a) (.int b) = _
  simp [PyData.eqv]
  rfl
theorem eqv_trm (t u : Int × Int) : (pyD (trm t)).eqv (pyD (trm u)) = decide (t = u) := by
  obtain ⟨a, b⟩ := t
  obtain ⟨c, d⟩ := u
  have e1 := eqv_int a c
  have e2 := eqv_int b d
  simp only [pyD] at e1 e2
  simp only [trm, pyD, pyL, PyData.eqv, PyData.eqvAll, Prod.mk.injEq] at e1 e2 ⊢
  simp [Bool.and_true, e1, e2]
theorem eqvAll_trm : ∀ ts us : Tm, PyData.eqvAll (pyL (ts.map trm)) (pyL (us.map trm)) = decide (ts = us)
  | [], [] => by simp [pyL, PyData.eqvAll]
  | [], u :: us => by simp [pyL, PyData.eqvAll]
  | t :: ts, [] => by simp [pyL, PyData.eqvAll]
  | t :: ts, u :: us => by
    rw [List.map_cons, List.map_cons, pyL, pyL, PyData.eqvAll, eqv_trm, eqvAll_trm ts us]
    by_cases h1 : t = u <;> by_cases h2 : ts = us <;> simp [h1, h2]
theorem eqv_trms (ts us : Tm) : (pyD (.lst (ts.map trm))).eqv (pyD (.lst (us.map trm))) = decide (ts = us) := by
  simp only [pyD, PyData.eqv]
  exact eqvAll_trm ts us
theorem lay_trms : ∀ ts : Tm, PyData.canLayAll0 (pyL (ts.map trm)) = true
  | [] => rfl
  | t :: ts => by
    rw [List.map_cons, pyL]
    show (PyData.canLay0 (pyD (trm t)) && PyData.canLayAll0 (pyL (ts.map trm))) = true
    rw [lay_trms ts]
    rfl
theorem depth_trms : ∀ ts : Tm, PyData.depthAll (pyL (ts.map trm)) ≤ 2
  | [] => by decide
  | t :: ts => by
    rw [List.map_cons, pyL]
    have := depth_trms ts
    show max (PyData.depth (pyD (trm t))) (PyData.depthAll (pyL (ts.map trm))) ≤ 2
    have : PyData.depth (pyD (trm t)) ≤ 2 := by simp [trm, pyD, pyL, PyData.depth, PyData.depthAll]
    omega
theorem sh_trms (ts : Tm) : SeqAt.shaped (pyD (.lst (ts.map trm))) = true := by
  unfold SeqAt.shaped
  rw [Bool.and_eq_true_iff]
  refine ⟨by simpa [pyD, PyData.canLay0] using lay_trms ts, ?_⟩
  have := depth_trms ts
  simp only [pyD, PyData.depth]
  exact decide_eq_true (by omega)
theorem at0 (a : D) (l : List D) : atI (a :: l) 0 = some a := atI_nat (j := 0) rfl
theorem atLast {l : List D} {a : D} (h : l.getLast? = some a) : atI l (-1) = some a := by
  obtain ⟨ys, rfl⟩ := List.getLast?_eq_some_iff.mp h
  unfold atI
  have e : ixN (ys ++ [a]).length (-1) = some ys.length := by
    unfold ixN
    rw [if_neg (by decide), if_pos (by rw [List.length_append, List.length_singleton]; omega)]
    congr 1
    rw [List.length_append, List.length_singleton]
    omega
  rw [e]
  show (ys ++ [a])[ys.length]? = some a
  simp
def F_is_integer : DF := fun _ ds n q _ => match ds with
  | [d] => okD d ∧ q (.bl (isInt d)) n
  | _ => False
def F_is_list : DF := fun _ ds n q _ => match ds with
  | [d] => okD d ∧ q (.bl (isLst d)) n
  | _ => False
def F__law_pick : DF := fun W ds n q _ => match ds with
  | [.hnd s, .lst es] => (∃ c, W = sprW s c) ∧ 0 < es.length ∧ es.length < 1000000 ∧ n < 1000000 ∧ ∀ d ∈ es, q d (n + 1)
  | _ => False
def pl : Nat → D → Prop
  | 0, d => match d with
    | .int _ => True
    | .bl _ => True
    | _ => False
  | k + 1, d => match d with
    | .lst ds => ds.length < 10000000 ∧ ∀ d ∈ ds, pl k d
    | .tup ds => ds.length < 10000000 ∧ ∀ d ∈ ds, pl k d
    | .int _ => True
    | .bl _ => True
    | _ => False
def F__law_same (k : Nat) : DF := fun _ ds n q _ => ∃ d, ds = [d, d] ∧ pl k d ∧ q (.bl true) n
abbrev F__law_same3 : DF := F__law_same 3
def F__law_held : DF := fun _ ds n q _ => ∃ p ts, ds = [.int p, .lst (ts.map trm)] ∧ 0 < p ∧ ts.length < 1000000 ∧ q (.dct ((canon p ts).map kvp)) n
def F__law_pairs : DF := fun _ ds n q _ => ∃ ts : Tm, ds = [.dct (ts.map kvp)] ∧ (ts.map (·.1)).Nodup ∧ ts.length < 1000000 ∧ q (.lst (ts.map trm)) n
def F__law_prime : DF := fun W ds n q _ => ∃ s, ds = [.hnd s] ∧ (∃ c, W = sprW s c) ∧ n < 1000000 ∧ ∀ p, isPr p = true → q (.int p) (n + 1)
end My

namespace My
open PySem PySem.Spec L2 DL
noncomputable def fo {p : Int} (x : LP p) : D := fob p (can x)
noncomputable def dk {p : Int} (x : LP p) : D := .dct ((can x).map kvp)
noncomputable def tl {p : Int} (x : LP p) : D := .lst ((can x).map trm)
def F_Filter_terms : DF := fun _ ds n q _ => ∃ p ts, ds = [fob p ts] ∧ q (.lst (ts.map trm)) n
def F_Filter___bool__ : DF := fun _ ds n q _ => ∃ p ts, ds = [fob p ts] ∧ q (.bl (!ts.isEmpty)) n
def F_Filter___getitem__ : DF := fun _ ds n q _ => ∃ p ts k, ds = [fob p ts, .int k] ∧ q (.int (getI ts k)) n
def F_Filter___eq__ : DF := fun _ ds n q _ => ∃ p ts p' ts', ds = [fob p ts, fob p' ts'] ∧ ts.length < 1000000 ∧ ts'.length < 1000000 ∧ q (.bl (decide (p = p' ∧ ts = ts'))) n
def oi : Option Int → D
  | some i => .int i
  | none => .non
def F_Filter_low : DF := fun _ ds n q _ => ∃ p ts, ds = [fob p ts] ∧ q (oi (ts.head?.map (·.1))) n
def F_Filter_high : DF := fun _ ds n q _ => ∃ p ts, ds = [fob p ts] ∧ q (oi (ts.getLast?.map (·.1))) n
def F_Filter_span : DF := fun _ ds n q _ => ∃ p ts, ds = [fob p ts] ∧ q (oi (ts.getLast?.bind fun b => ts.head?.map fun a => b.1 - a.1)) n
theorem can_of {p : Int} (hp : 0 < p) {ts : Tm} {x : LP p} (h : lp p ts = x) : canon p ts = can x := by rw [← h, can_lp hp]
theorem Nrm.bd {p : Int} (hp : 0 < p) {x : LP p} (h : Nrm x) : Bd x 0 (sp x) := by
  by_cases e : x = 0
  · rw [e]; exact .zero _ _
  · rcases h with h | ⟨h1, h2⟩
    · exact absurd h e
    · have := bd_hl hp e
      have l := h1.lo hp
      unfold sp
      rw [l] at this ⊢
      rw [Int.sub_zero]
      exact this
theorem fo_def {p : Int} (x : LP p) : fo x = .obj "Filter" (flt p (can x)) := rfl
theorem dk_def {p : Int} (x : LP p) : dk x = .dct ((can x).map kvp) := rfl
theorem mono_run {p : Int} (hp : 0 < p) (k c : Int) : nt (mono p k c) ≤ 1 := nt_lp hp _
end My

namespace My
open PySem PySem.Spec L2 DL
def Nb {p : Int} (x : LP p) (a : Nat) : Prop := Bd x (-(a : Int)) (a : Int)
section
variable {p : Int} {x y : LP p} {a b : Nat} {W : Wd} {n : Nat} {q : D → Nat → Prop} {xx : DL.Xn → Nat → Prop}
theorem Nb.le (h : Nb x a) (l : a ≤ b) : Nb x b := Bd.mono h (by omega) (by omega)
theorem Nb.add (h : Nb x a) (h' : Nb y b) : Nb (x + y) (a + b) := Bd.add (h.le (by omega)) (h'.le (by omega))
theorem Nb.sub (h : Nb x a) (h' : Nb y b) : Nb (x - y) (a + b) := Bd.sub (h.le (by omega)) (h'.le (by omega))
theorem Nb.neg (h : Nb x a) : Nb (-x) a := Bd.neg h
theorem Nb.mul (hp : isPr p = true) (h : Nb x a) (h' : Nb y b) : Nb (x * y) (a + b) := Bd.mono (Bd.mul (isPr_pos hp).1 h h') (by omega) (by omega)
theorem Nb.nt (hp : isPr p = true) (h : Nb x a) : My.nt x ≤ 2 * a + 1 := by
  have := Bd.nt (isPr_pos hp).1 h
  omega
theorem Nb.int (c : Int) : Nb ((c : Int) : LP p) 0 := fun k hk => by
  have e : ((c : Int) : LP p) = ((c : Int) : LP p) * 1 := by grind
  have e2 : cf (1 : LP p) k ≠ 0 := fun z => hk (by rw [e, cf_int_mul, z, Int.mul_zero]; exact Int.zero_emod p)
  have e3 := cf_mono (p := p) 0 1 k
  rw [mono_one] at e3
  by_cases h : (0 : Int) = k
  · omega
  · rw [if_neg h] at e3; exact absurd e3 e2
theorem Nb.one (hp : isPr p = true) : Nb (1 : LP p) 0 := fun k hk => by
  have e3 := cf_mono (p := p) 0 1 k
  rw [mono_one] at e3
  by_cases h : (0 : Int) = k
  · omega
  · rw [if_neg h] at e3; exact absurd e3 hk
theorem Nb.sp (hp : isPr p = true) (h : Nb x a) (hx : x ≠ 0) : My.sp x ≤ 2 * a := by
  have h1 := Bd.lo (isPr_pos hp).1 h hx
  have h2 := Bd.hi (isPr_pos hp).1 h hx
  unfold My.sp
  omega
theorem Nb.nrm (hp : isPr p = true) (h : Nb x a) : Nb (nrm x) (2 * a) := by
  by_cases e : x = 0
  · rw [e, nrm_zero]; exact .zero _ _
  · have := h.sp hp e
    have z := (nrm_nrm hp x).bd (isPr_pos hp).1
    rw [sp_nrm hp e] at z
    exact z.mono (by omega) (by omega)
theorem Nb.of_nrm (hp : isPr p = true) (h : Nrm x) (l : x ≠ 0 → My.sp x ≤ a) : Nb x a := by
  by_cases e : x = 0
  · rw [e]; exact .zero _ _
  · have := l e
    exact (h.bd (isPr_pos hp).1).mono (by omega) (by omega)
theorem sp_dv (hp : isPr p = true) {d f : LP p} (h : Dv d f) (hf : f ≠ 0) : d ≠ 0 ∧ My.sp d ≤ My.sp f := by
  obtain ⟨q, e⟩ := h
  have hd : d ≠ 0 := fun z => hf (by rw [e, z]; grind)
  have hq : q ≠ 0 := fun z => hf (by rw [e, z]; grind)
  refine ⟨hd, ?_⟩
  rw [e, sp_mul hp hq hd]
  have := sp_nonneg (isPr_pos hp).1 hq
  omega
theorem Nb.lcm (hp : isPr p = true) {m : LP p} (h : IsLcm m x y) (hx : Nb x a) (hy : Nb y b) : Nb m (2 * (a + b)) := by
  obtain ⟨d, q, hd, e, h1, h2⟩ := h
  by_cases ex : x = 0
  · rw [h1 (.inl ex)]; exact .zero _ _
  by_cases ey : y = 0
  · rw [h1 (.inr ey)]; exact .zero _ _
  rw [h2 ex ey]
  have exy := mul_ne hp ex ey
  have := sp_dv hp (d := q) (f := x * y) ⟨d, by rw [e]; grind⟩ exy
  refine .of_nrm hp (nrm_nrm hp q) fun _ => ?_
  rw [sp_nrm hp this.1]
  have z := (hx.mul hp hy).sp hp exy
  omega
theorem Nb.mod (hp : isPr p = true) {r g : LP p} (h : IsMod x g r) (hg : Nb g b) (g0 : g ≠ 0) : Nb r (2 * b) := by
  have := hg.sp hp g0
  exact h.2.mono (by omega) (by omega)
theorem Nb.pow (hp : isPr p = true) (hx : Nb x a) : ∀ k : Nat, Nb (x ^ k) (k * a)
  | 0 => by
    have e : x ^ 0 = 1 := rfl
    rw [e]; exact (Nb.one hp).le (by omega)
  | k + 1 => by
    have e : x ^ (k + 1) = x ^ k * x := rfl
    rw [e, Nat.succ_mul]; exact (Nb.pow hp hx k).mul hp hx
end
inductive EqPr (p : Int) : List D → Prop
  | nil : EqPr p []
  | cons {x y : LP p} {a : Nat} {l : List D} (h : Nb x a) (la : a < 1000) (e : x = y) (t : EqPr p l) : EqPr p (.tup [fo x, fo y] :: l)
end My

namespace My
open PySem PySem.Spec L2 DL
theorem sq_cases {d : D} {l : List D} (h : seqD d = some l) : d = .lst l ∨ d = .tup l ∨ d = .rol l := by
  cases d with
  | lst l' => cases h; exact .inl rfl
  | tup l' => cases h; exact .inr (.inl rfl)
  | rol l' => cases h; exact .inr (.inr rfl)
  | _ => cases h
theorem okD_seq {d : D} {l : List D} (h : seqD d = some l) : okD d := by
  rcases sq_cases h with rfl | rfl | rfl <;> exact ⟨_, rfl, fun c e => nomatch e⟩
theorem sq2 {a b c : DS} {E : DEnds} {ρ : DL.Env} {n : Nat} (h : ∀ R, R = c E → a { E with nx := b { E with nx := R } } ρ n) : dSeq a (dSeq b c) E ρ n := h _ rfl
def isPrD : D → Bool
  | .int p => isPr p
  | _ => false
def FG_is_prime : DF := fun _ ds n q _ => match ds with
  | [d] => okD d ∧ q (.bl (isPrD d)) n
  | _ => False
def trmB (d : D) : Bool := match seqD d with
  | some [a, b] => isInt a && isInt b
  | _ => false
def okS (d : D) : Prop := okD d ∧ ∀ l, seqD d = some l → l.length < 1000000 ∧ ∀ e ∈ l, okD e
def FG_is_term : DF := fun _ ds n q _ => match ds with
  | [d] => okS d ∧ q (.bl (trmB d)) n
  | _ => False
def PrD (t : Int × Int) (d : D) : Prop := seqD d = some [.int t.1, .int t.2]
theorem PrD.trm (t : Int × Int) : PrD t (trm t) := rfl
theorem PrD.b {t : Int × Int} {d : D} (h : PrD t d) : trmB d = true := by unfold trmB; rw [h]; rfl
theorem PrD.ok {t : Int × Int} {d : D} (h : PrD t d) : okS d := by
  refine ⟨okD_seq h, fun l e => ?_⟩
  have h' : seqD d = _ := h
  rw [h'] at e
  cases e
  refine ⟨by show 2 < 1000000; decide, fun e he => ?_⟩
  simp only [List.mem_cons, List.not_mem_nil, or_false] at he
  rcases he with rfl | rfl <;> exact ok_int _
theorem isLst_seq {d : D} {l : List D} (h : seqD d = some l) : isLst d = true := by rcases sq_cases h with rfl | rfl | rfl <;> rfl
theorem isLst_no {d : D} (h : seqD d = none) : isLst d = false := by cases d <;> first | rfl | cases h
def FlRf (xx : Xn → Nat → Prop) (n : Nat) (dp d : D) : Prop := (okD dp ∧ isPrD dp = false ∧ xx ("BadPrime", [("prime", dp)]) n) ∨ (isPrD dp = true ∧ okD d ∧ seqD d = none ∧ xx ("BadTerm", [("index", .int 0)]) n) ∨
  ∃ (Z : List (D × (Int × Int))) (b : D) (r : List D), isPrD dp = true ∧ seqD d = some (Z.map (·.1) ++ b :: r) ∧ (∀ z ∈ Z, PrD z.2 z.1) ∧ Z.length < 1000000 ∧ okS b ∧ trmB b = false ∧ xx ("BadTerm", [("index", .int (Z.length : Int))]) n
def FG_Filter___init__ : DFI := fun _ ds n q xx => (∃ (p : Int) (d : D) (Z : List (D × (Int × Int))), ds = [.int p, d] ∧ seqD d = some (Z.map (·.1)) ∧ (∀ z ∈ Z, PrD z.2 z.1) ∧ isPr p = true ∧ Z.length < 8000000 ∧ q (flt p (canon p (Z.map (·.2)))) n) ∨ ∃ dp d, ds = [dp, d] ∧ FlRf xx n dp d
theorem FG_init_trm {W : Wd} {p : Int} {d : D} {ts : Tm} {n : Nat} {q : List (Str × D) → Nat → Prop} {xx : Xn → Nat → Prop} (h : seqD d = some (ts.map trm)) (hp : isPr p = true) (hl : ts.length < 8000000) (hq : q (flt p (canon p ts)) n) : FG_Filter___init__ W [.int p, d] n q xx := by
  refine .inl ⟨p, d, ts.map fun t => (trm t, t), rfl, by rw [h, List.map_map]; rfl, fun z hz => ?_, hp, by rw [List.length_map]; exact hl, ?_⟩
  · obtain ⟨t, _, rfl⟩ := List.mem_map.mp hz
    rfl
  · rw [List.map_map, show ((fun z : D × (Int × Int) => z.2) ∘ fun t => (trm t, t)) = id from rfl, List.map_id]
    exact hq
def FG_Filter___eq__ : DF := fun W ds n q xx => F_Filter___eq__ W ds n q xx ∨ ∃ p ts d t, ds = [fob p ts, d] ∧ tyD d = some t ∧ (∀ c, t = .own c → c ∈ CS) ∧ t ≠ .own "Filter" ∧ q (.bl false) n
theorem tnrL {α : Type} {f : α → D} : ∀ l : List α, (∀ a ∈ l, nrD (f a) = true) → nrL (l.map f) = true
  | [], _ => by rw [List.map_nil, nrL]
  | a :: l, h => by rw [List.map_cons, nrL, h a (List.mem_cons_self ..), tnrL l fun b hb => h b (List.mem_cons_of_mem _ hb)]; rfl
theorem tnr_int (i : Int) : nrD (.int i) = true := by rw [nrD] <;> intros <;> contradiction
theorem tnr_bl (b : Bool) : nrD (.bl b) = true := by rw [nrD] <;> intros <;> contradiction
theorem tnrK : ∀ l : Tm, nrK (l.map kvp) = true
  | [] => by rw [List.map_nil, nrK]
  | t :: l => by
    rw [List.map_cons]
    show (nrD (.int t.2) && nrK (l.map kvp)) = true
    rw [tnrK l, tnr_int]; rfl
theorem tnr_trm (t : Int × Int) : nrD (trm t) = true := by
  unfold trm
  rw [nrD, nrL, nrL, nrL, tnr_int, tnr_int]; rfl
theorem tnr_fob (p : Int) (ts : Tm) : nrD (fob p ts) = true := by
  have e1 : nrD (.lst (ts.map trm)) = true := by rw [nrD]; exact tnrL _ fun t _ => tnr_trm t
  have e2 : nrD (.dct (ts.map kvp)) = true := by rw [nrD]; exact tnrK ts
  unfold fob flt
  rw [nrD, nrF, nrF, nrF, nrF, tnr_int, e1, e2]; rfl
def sm : Nat → D → D → Prop
  | 0, d, e => d = e ∧ match e with
    | .int _ => True
    | .bl _ => True
    | .str x => SeqAt.shaped (pyD (.str x)) = true
    | .non => True
    | _ => False
  | k + 1, d, e => match e with
    | .lst es => ∃ ds : List D, (d = .lst ds ∨ d = .rol ds) ∧ ds.length = es.length ∧ es.length < 10000000 ∧ ∀ (i : Nat) (x y : D), ds[i]? = some x → es[i]? = some y → sm k x y
    | .tup es => ∃ ds : List D, d = .tup ds ∧ ds.length = es.length ∧ es.length < 10000000 ∧ ∀ (i : Nat) (x y : D), ds[i]? = some x → es[i]? = some y → sm k x y
    | .int _ => d = e
    | .bl _ => d = e
    | .str x => d = e ∧ SeqAt.shaped (pyD (.str x)) = true
    | .non => d = e
    | _ => False
def FG__law_same (k : Nat) : DF := fun _ ds n q _ => ∃ d e, ds = [d, e] ∧ sm k d e ∧ q (.bl true) n
abbrev FG__law_same3 : DF := FG__law_same 3
theorem pl_sm : ∀ (k : Nat) (d : D), pl k d → sm k d d
  | 0, d, h => by
    cases d with
    | int i => exact ⟨rfl, trivial⟩
    | bl b => exact ⟨rfl, trivial⟩
    | _ => exact h.elim
  | k + 1, d, h => by
    cases d with
    | int i => show D.int i = D.int i; rfl
    | bl b => show D.bl b = D.bl b; rfl
    | lst es => exact ⟨es, .inl rfl, rfl, h.1, fun i x y h1 h2 => by rw [h1] at h2; cases h2; exact pl_sm k x (h.2 x (List.mem_of_getElem? h1))⟩
    | tup es => exact ⟨es, rfl, rfl, h.1, fun i x y h1 h2 => by rw [h1] at h2; cases h2; exact pl_sm k x (h.2 x (List.mem_of_getElem? h1))⟩
    | _ => exact h.elim
end My

namespace My
open PySem PySem.Spec L2 DL
def F_Filter_shift : DF := fun _ ds n q _ => ∃ p k, ds = [.int p, .int k] ∧ isPr p = true ∧ q (fo (mono p k 1)) n
def F__law_other : DF := fun W ds n q _ => ∃ s p, ds = [.hnd s, .int p] ∧ (∃ c, W = sprW s c) ∧ isPr p = true ∧ n < 900000 ∧ ∀ p', isPr p' = true → p' ≠ p → q (.int p') (n + 1)
def F__law_terms : DF := fun W ds n q _ => ∃ (s : Addr) (most : Nat), ds = [.hnd s, .int (most : Int)] ∧ (∃ c, W = sprW s c) ∧ most < 100 ∧ n < 900000 ∧ ∀ (ts : Tm) (n' : Nat), ts.length ≤ most → n' ≤ n + 1 + 6 * most → q (.lst (ts.map trm)) n'
def F__law_shows : DF := fun _ ds n q _ => ∃ (p : Int) (x : LP p), ds = [fo x, .int p, dk x] ∧ isPr p = true ∧ nt x < 1000 ∧ q (.bl true) n
def F__law_told_otherwise : DF := fun W ds n q _ => ∃ (s : Addr) (p : Int) (ts : Tm), ds = [.hnd s, .int p, .lst (ts.map trm)] ∧ (∃ c, W = sprW s c) ∧ isPr p = true ∧ ts.length < 100 ∧ n < 900000 ∧ ∀ (us : Tm) (n' : Nat), lp p us = lp p ts → us.length ≤ 2 * ts.length → n' ≤ n + 10 * ts.length → q (.lst (us.map trm)) n'
end My

open DL in
local macro_rules | `(tactic| walk_at "d") => `(tactic| simp only [dNext, dSeq, dRet, dRetN, dExp, dIfS, dBreak, dCont, dSet, dSetSl, slD, dCallE, endsE, dOwn, dFrz, dApp, dPut, dPut2, dSetIx, dAugIx, dFldSet, dPar, dPar2, dPar3, dPar4, dPar5, slV, slO, dExt, dIns, dSwap, dSetT, dSetR, dItems, dDisp, kv0, kvC, iKy, iIt, iIterO, iMixO, dListO, dLend, dClr, dAppT, dRes, withG, dAppG, dAppGF, dExtG, dPutG, dSetIxG, dFldG, dFldGF, dOG, dGO, dFrzR, dLcF, dRetSl, resG, ownQ, dStep, fDivmod, iEn, iZp, iEnO, iZpO, srcD, dNever, dNeverE, dBinO, dAugO, dEqO, dNeO, dGetO, dNegO, dTruO, dNotO, dRmulO, dLEn, dLZp, dLR2, dLR3, dStarD, iEnK, iZpK, fBoolL, dRetF, dRetO, endsF, fEqDct, dTry, dRaise, dRaise0, dLam, catchD, dLamT, catchT, dEqXT, fRepr, seqLike, fReprX, fEqE, fIsnE, fNil, dSetd, dNeX, dOrX, dSetX, dEither, dHeld, dPop, dPop0, dAsg, dFor, dAnd, dOr, dNot, dIf, dAndT, dOrT, dNotT, dTest, bq, bd, dVar, bVar, dC, dOp, fI0, fI, fAdd, fSub, fRepL, fMulS, fMul, fDiv, fMod, fPow, fLt, fLe, fGt, fGe, fEq, fNe, fIs, fIsNot, fIsB, fIn, fInX, isNonD, flatD, seqD, dNil, dCons, dTup, dLst, dEmp, fIx, fDg, keyD, dCB, f1, fLen, lenD, fAbs, fInt, fList, fTuple, fSeqInts, fMin2, fMax2, fSum, fMax, fMin, fSorted, fBools, fAnyI, gN, gs0, gsC, gT, gTn, gTl, iSq, iR1, iR2, iR3, iRB, iRevN, dCall, dMeth, dMake, dMakeV, dCMeth, dCallK, dMethK0, dMethK, dMakeK, dCMethK, sel_nil, sel_cons, List.drop_succ_cons, List.drop_zero, List.take_succ_cons, List.take_zero, dCallO, dCallX, dBoolO, dLenO, dInO, dEqX, dFld, dNeg, dChain, truD, dTru, oNone, oSome, dSl, dSlT, dRev, dGet2, fDin, isD, fDict, opt, endsD, endsI, qI, startD, startI, DEnds.xx, dLc, wipeD, dYes, List.map_cons, List.map_nil, List.length_cons, List.length_nil, List.cons_append, List.nil_append, List.append_nil, List.getElem?_cons_zero, List.getElem?_cons_succ, List.set_cons_zero, List.set_cons_succ, List.replicate_succ, List.replicate_zero, Nat.reduceAdd, Nat.reduceSub, Nat.reduceLT, true_and, and_true, Bool.false_eq_true, if_true, if_false, ite_true, ite_false, My.isa_int_int, My.isa_int_bool, My.isa_int_list, My.isa_int_tuple, My.isa_int_str, My.isa_int_NoneType, My.isa_int_dict, My.isa_int_own, My.isa_bool_int, My.isa_bool_bool, My.isa_bool_list, My.isa_bool_tuple, My.isa_bool_str, My.isa_bool_NoneType, My.isa_bool_dict, My.isa_bool_own, My.isa_list_int, My.isa_list_bool, My.isa_list_list, My.isa_list_tuple, My.isa_list_str, My.isa_list_NoneType, My.isa_list_dict, My.isa_list_own, My.isa_tuple_int, My.isa_tuple_bool, My.isa_tuple_list, My.isa_tuple_tuple, My.isa_tuple_str, My.isa_tuple_NoneType, My.isa_tuple_dict, My.isa_tuple_own, My.ty_int, My.ty_bl, My.ty_str, My.ty_lst, My.ty_rol, My.ty_tup, My.ty_dct, My.ty_non, My.ty_obj, My.own_b, My.own_Filter, My.isOb_Filter, My.mem_Filter, My.isO_Filter_Filter, List.any_cons, List.any_nil, Bool.or_false, Bool.or_true, Bool.false_or, Bool.true_or, Bool.not_true, Bool.not_false, and_self, My.trm, My.ix0, My.ix1, My.get_kvp, My.put_kvp, My.keys_kvp, List.length_map, My.lk1, My.lk2, My.lk3, My.lkT, My.fob, My.fo, My.dk, My.tl, My.sh_int, My.sh_bl, My.eq_int, My.eq_bl])

namespace My
open PySem PySem.Spec L2 DL
theorem sc_Filter___eq__ : FnScope ["self", "other"] ["self", "other"] (defScope (inClass (top 22) 5)) := ⟨rfl, rfl, rfl, by decide +kernel, rfl, by decide +kernel, by decide +kernel⟩
section
variable {P : Program} {w : World} {K : PySem.W.Frag} {mg : Str → Option Value} {base : Heap}
theorem ok_Filter___eq__ (T : Top K mg) : Mg P w K mg base "Filter" "__eq__" 1 2 FG_Filter___eq__ [] := by
  obtain ⟨fd, FD⟩ := T.d_Filter___eq__
  refine ⟨T.cl_Filter, _, fd, ["self", "other"], [], [], ?_, T.m_Filter___eq__, FD.bindsN (fun _ _ _ _ _ _ us hl => match us, hl with | [_, _], _ => rfl), .nil, fun _ => .nil⟩
  refine ok_def FD sc_Filter___eq__ rfl ?_
  rintro X E W ds n q xx ⟨cdv, A, outer, s, H, rfl⟩ hr tk pso hl hF
  have hu := hr.units
  have hu1 := hu_of hr
  refine ⟨_, (pss_oneD (ps_retD (pd_and (pd_isiO T.tyf (T.ko_Filter) (by rfl) T.f_isinstance (by rfl) T.g_Filter (pb_var 1)) (pd_and (pd_eq hu (PD.pb (pd_fld ["Filter"] T.fld_Filter_prime (pb_var 0))) (PD.pb (pd_fld ["Filter"] T.fld_Filter_prime (pb_var 1)))) (pd_one (pd_eq hu (PD.pb (pd_fld ["Filter"] T.fld_Filter_kept (pb_var 0))) (PD.pb (pd_fld ["Filter"] T.fld_Filter_kept (pb_var 1))))))))), ?_⟩
  clear hr tk pso hl hu hu1
  rcases hF with ⟨p, ts, p', ts', rfl, hl1, hl2, hq⟩ | ⟨p, ts, d, t, rfl, t1, t2, t3, hq⟩
  · walk_at "d"
    rw [eqv_int, eqv_trms]
    by_cases h : p = p'
    · rw [if_pos (decide_eq_true h)]
      refine ⟨sh_trms _, sh_trms _, ?_⟩
      simpa [h] using hq
    · rw [if_neg (by simp [h])]
      simpa [h] using hq
  · walk_at "d"
    rw [t1]
    refine ⟨t2, ?_⟩
    have e : isaO sub (Str.ofString "Filter") t = false := by
      cases t with
      | b s => rfl
      | own c =>
        have hc := t2 c rfl
        have : ∀ c ∈ CS, c ≠ Str.ofString "Filter" → isaO sub (Str.ofString "Filter") (.own c) = false := by decide +kernel
        exact this c hc fun z => t3 (by rw [z])
    rw [e]
    exact hq
end

end My

namespace My
open PySem PySem.Spec L2 DL
theorem sc_is_list : FnScope ["thing"] ["thing"] (defScope (top 3)) := ⟨rfl, rfl, rfl, by decide +kernel, rfl, by decide +kernel, by decide +kernel⟩
section
variable {P : Program} {w : World} {K : PySem.W.Frag} {mg : Str → Option Value} {base : Heap}
theorem ok_is_list (T : Top K mg) : Sg P w K mg base "is_list" 1 1 F_is_list [] := by
  obtain ⟨fd, FD⟩ := T.d_is_list
  refine ⟨_, fd, ["thing"], [], [], ?_, T.g_is_list, FD.kp, FD.bindsN (fun _ _ _ _ _ _ us hl => match us, hl with | [_], _ => rfl), .nil, fun _ => .nil⟩
  refine ok_def FD sc_is_list rfl ?_
  rintro X E W ds n q xx ⟨cdv, A, outer, s, H, rfl⟩ hr tk pso hl hF
  have hu := hr.units
  have hu1 := hu_of hr
  refine ⟨_, (pss_oneD (ps_retD (pd_isiT T.tyf (T.kt_list_tuple) (by rfl) T.f_isinstance (pa_cons (pe_bltn (v := .ty "list") (by rfl) T.f_list (by decide +kernel) rfl) (pa_cons (pe_bltn (v := .ty "tuple") (by rfl) T.f_tuple (by decide +kernel) rfl) pa_nil)) (fun _ _ _ h => h) (.cons (.ty "list") (.cons (.ty "tuple") .nil)) (by decide) (pb_var 0)))), ?_⟩
  clear hr tk pso hl hu hu1
  match ds, hF with
  | [d], hF =>
    obtain ⟨⟨t, e, hc⟩, hq⟩ := hF
    walk_at "d"
    rw [e]
    refine ⟨hc, ?_⟩
    cases d <;> cases e <;> simpa [isLst, isaB] using hq
end

end My

namespace My
open PySem PySem.Spec L2 DL
theorem sc_is_integer : FnScope ["thing"] ["thing"] (defScope (top 2)) := ⟨rfl, rfl, rfl, by decide +kernel, rfl, by decide +kernel, by decide +kernel⟩
section
variable {P : Program} {w : World} {K : PySem.W.Frag} {mg : Str → Option Value} {base : Heap}
theorem ok_is_integer (T : Top K mg) : Sg P w K mg base "is_integer" 1 1 F_is_integer [] := by
  obtain ⟨fd, FD⟩ := T.d_is_integer
  refine ⟨_, fd, ["thing"], [], [], ?_, T.g_is_integer, FD.kp, FD.bindsN (fun _ _ _ _ _ _ us hl => match us, hl with | [_], _ => rfl), .nil, fun _ => .nil⟩
  refine ok_def FD sc_is_integer rfl ?_
  rintro X E W ds n q xx ⟨cdv, A, outer, s, H, rfl⟩ hr tk pso hl hF
  have hu := hr.units
  have hu1 := hu_of hr
  refine ⟨_, (pss_oneD (ps_retD (pd_and (pd_isiB T.tyf (T.kb_int) (by rfl) T.f_isinstance (by rfl) T.f_int (by decide +kernel) (pb_var 0)) (pd_one (pd_not (pd_isiB T.tyf (T.kb_bool) (by rfl) T.f_isinstance (by rfl) T.f_bool (by decide +kernel) (pb_var 0))))))), ?_⟩
  clear hr tk pso hl hu hu1
  match ds, hF with
  | [d], hF =>
    obtain ⟨⟨t, e, hc⟩, hq⟩ := hF
    walk_at "d"
    rw [e]
    refine ⟨hc, ?_⟩
    cases d <;> cases e <;> simpa [isInt, isaB] using hq
end

end My

namespace My
open PySem PySem.Spec L2 DL
theorem sc_is_prime : FnScope ["thing"] ["thing"] (defScope (top 4)) := ⟨rfl, rfl, rfl, by decide +kernel, rfl, by decide +kernel, by decide +kernel⟩
section
variable {P : Program} {w : World} {K : PySem.W.Frag} {mg : Str → Option Value} {base : Heap}
theorem ok_is_prime (T : Top K mg) : Sg P w K mg base "is_prime" 2 1 FG_is_prime [] := by
  obtain ⟨fd, FD⟩ := T.d_is_prime
  refine ⟨_, fd, ["thing"], [], [], ?_, T.g_is_prime, FD.kp, FD.bindsN (fun _ _ _ _ _ _ us hl => match us, hl with | [_], _ => rfl), .nil, fun _ => .nil⟩
  refine ok_def FD sc_is_prime rfl ?_
  rintro X E W ds n q xx ⟨cdv, A, outer, s, H, rfl⟩ hr tk pso hl hF
  have hu := hr.units
  have hu1 := hu_of hr
  refine ⟨_, (pss_oneD (ps_retD (pd_and (pd_call (ok_is_integer T) (hr.mono (by decide)) tk (by rfl) (pad_cons (pd_var 0) pad_nil)) (pd_one (pd_in (pb_var 0) (PD.pb (pd_globR (by rfl) T.g_PRIMES (T.c_PRIMES)))))))), ?_⟩
  clear hr tk pso hl hu hu1
  match ds, hF with
  | [d], hF =>
    obtain ⟨hd, hq⟩ := hF
    walk_at "d"
    refine ⟨hd, ?_⟩
    cases d with
    | int p =>
      refine ⟨rfl, rfl, ?_⟩
      have e : isPr p = (eqD (D.int 2) (D.int p) || (eqD (D.int 3) (D.int p) || (eqD (D.int 5) (D.int p) || eqD (D.int 7) (D.int p)))) := by
        rw [Bool.eq_iff_iff]
        simp only [isPr, eqD, List.contains_cons, List.contains_nil, Bool.or_false, Bool.or_eq_true, beq_iff_eq]
        omega
      rw [← e]
      exact hq
    | _ => exact hq
end

end My

namespace My
open PySem PySem.Spec L2 DL
theorem sc_is_term : FnScope ["thing"] ["thing"] (defScope (top 20)) := ⟨rfl, rfl, rfl, by decide +kernel, rfl, by decide +kernel, by decide +kernel⟩
section
variable {P : Program} {w : World} {K : PySem.W.Frag} {mg : Str → Option Value} {base : Heap}
theorem ok_is_term (T : Top K mg) : Sg P w K mg base "is_term" 2 1 FG_is_term [] := by
  obtain ⟨fd, FD⟩ := T.d_is_term
  refine ⟨_, fd, ["thing"], [], [], ?_, T.g_is_term, FD.kp, FD.bindsN (fun _ _ _ _ _ _ us hl => match us, hl with | [_], _ => rfl), .nil, fun _ => .nil⟩
  refine ok_def FD sc_is_term rfl ?_
  rintro X E W ds n q xx ⟨cdv, A, outer, s, H, rfl⟩ hr tk pso hl hF
  have hu := hr.units
  have hu1 := hu_of hr
  refine ⟨_, (pss_oneD (ps_retD (pd_and (pd_call (ok_is_list T) (hr.mono (by decide)) tk (by rfl) (pad_cons (pd_var 0) pad_nil)) (pd_and (pd_eq hu (PD.pb (pd_callB call_lenD2 dcall_len (by rfl) T.f_len (by decide +kernel) (pab_cons (pb_var 0) pab_nil))) (PD.pb pd_int)) (pd_and (pd_call (ok_is_integer T) (hr.mono (by decide)) tk (by rfl) (pad_cons (pd_ix (pb_var 0) (PD.pb pd_int)) pad_nil)) (pd_one (pd_call (ok_is_integer T) (hr.mono (by decide)) tk (by rfl) (pad_cons (pd_ix (pb_var 0) (PD.pb pd_int)) pad_nil)))))))), ?_⟩
  clear hr tk pso hl hu hu1
  match ds, hF with
  | [d], hF =>
    obtain ⟨⟨hd, hl⟩, hq⟩ := hF
    walk_at "d"
    refine ⟨hd, ?_⟩
    cases hs : seqD d with
    | none =>
      rw [isLst_no hs]
      have e : trmB d = false := by unfold trmB; rw [hs]
      rw [e] at hq
      exact hq
    | some l =>
      rw [isLst_seq hs]
      obtain ⟨hl1, hl2⟩ := hl l hs
      have no : l.length ≠ 2 → trmB d = false := fun h => by
        unfold trmB
        rw [hs]
        match l, h with
        | [], _ => rfl
        | [a], _ => rfl
        | [a, b], h => exact absurd rfl h
        | a :: b :: c :: l, _ => rfl
      by_cases h2 : l.length = 2
      · match l, h2, hl2 with
        | [a, b], _, hl2 =>
          have e : trmB d = (isInt a && isInt b) := by unfold trmB; rw [hs]
          rw [e] at hq
          have oa := hl2 a (by simp)
          have ob := hl2 b (by simp)
          rcases sq_cases hs with rfl | rfl | rfl
          all_goals
            walk_at "d"
            refine ⟨oa, ?_⟩
            cases ha : isInt a with
            | false => rw [ha] at hq; exact hq
            | true =>
              rw [ha] at hq
              exact ⟨ob, hq⟩
      · rw [no h2] at hq
        rcases sq_cases hs with rfl | rfl | rfl
        all_goals
          walk_at "d"
          rw [eqv_int, decide_eq_false (show ¬ (l.length : Int) = 2 by omega), if_neg (by decide)]
          exact hq
end

end My

namespace My
open PySem PySem.Spec L2 DL
theorem sc_Filter___init__ : FnScope ["self", "prime", "terms", "sums", "index", "term", "offsets", "offset"] ["self", "prime", "terms"] (defScope (inClass (top 22) 0)) := ⟨rfl, rfl, rfl, by decide +kernel, rfl, by decide +kernel, by decide +kernel⟩
section
variable {P : Program} {w : World} {K : PySem.W.Frag} {mg : Str → Option Value} {base : Heap}
theorem init_loop {E : DEnds} {L : Nat} (hL : L = 2) {p : Int} (hp : 0 < p) (o t : Option Sl) (rest : List D) (Z : List (D × (Int × Int))) : ∀ (m : Tm) (i : Nat) (x y : Option Sl) (n : Nat), m.length + Z.length < 10000000 → (∀ z ∈ Z, PrD z.2 z.1) →
    (∀ x y, forD (gTn L (gsC (gN 4) (gsC (gN 5) gs0))) (dSeq (dIfS (dNotT (dTest (dCall 1 FG_is_term [] (dCons (dVar 5) dNil)))) (dRaise (Str.ofString "BadTerm") (Str.ofString "index") (dCons (dVar 4) dNil)) dNext) (dPut 3 (dOp fIx (bVar 5) (dC (.int 0))) (dOp fMod (dOp fAdd (dGet2 (bVar 3) (dOp fIx (bVar 5) (dC (.int 0))) (dC (.int 0))) (dOp fIx (bVar 5) (dC (.int 1)))) (bVar 1)))) (enumF (i + Z.length) rest) E [o, some (.val (.int p)), t, some (.own (.dct (((Z.map (·.2)).foldl (hstep p) m).map kvp))), x, y, none, none] n) →
    forD (gTn L (gsC (gN 4) (gsC (gN 5) gs0))) (dSeq (dIfS (dNotT (dTest (dCall 1 FG_is_term [] (dCons (dVar 5) dNil)))) (dRaise (Str.ofString "BadTerm") (Str.ofString "index") (dCons (dVar 4) dNil)) dNext) (dPut 3 (dOp fIx (bVar 5) (dC (.int 0))) (dOp fMod (dOp fAdd (dGet2 (bVar 3) (dOp fIx (bVar 5) (dC (.int 0))) (dC (.int 0))) (dOp fIx (bVar 5) (dC (.int 1)))) (bVar 1)))) (enumF i (Z.map (·.1) ++ rest)) E [o, some (.val (.int p)), t, some (.own (.dct (m.map kvp))), x, y, none, none] n := by
  subst hL
  induction Z with
  | nil => intro m i x y n _ _ h; exact h x y
  | cons a Z ih =>
    intro m i x y n hl hZ h
    obtain ⟨d, t1, t2⟩ := a
    have h0 : PrD (t1, t2) d := hZ _ (List.mem_cons_self ..)
    rw [List.map_cons, List.cons_append, enumF, forD_cons]
    have key : ∀ K : Prop, (0 < p → (m.length < 16777216) → K) → K := fun K k => k hp (by rw [List.length_cons] at hl; omega)
    walk_at "d"
    refine ⟨h0.ok, ?_⟩
    rw [h0.b]
    rcases sq_cases h0 with rfl | rfl | rfl
    all_goals
      walk_at "d"
      rw [List.length_cons] at hl
      refine ⟨hp, by omega, ?_⟩
      refine ih _ _ _ _ _ ?_ (fun z hz => hZ z (List.mem_cons_of_mem _ hz)) fun x y => ?_
      · have := putI_length m t1 ((getI m t1 + t2) % p)
        omega
      · have := h x y
        rw [List.length_cons, show i + (Z.length + 1) = i + 1 + Z.length by omega] at this
        exact this
theorem ok_Filter___init__ (T : Top K mg) : Ig P w K mg base "Filter" 3 3 FG_Filter___init__ [] := by
  obtain ⟨fd, FD⟩ := T.d_Filter___init__
  obtain ⟨ds0, rv, hb⟩ := FD.binds1 (ps := ["self", "prime", "terms"]) 3 1 (by intro z; cases z) rfl (fun T kV doc pm an cdv ct us its h1 h2 => match us, h1, its, h2 with | [_, _, _], _, [_], _ => ⟨_, rfl, rfl⟩)
  cases rv
  refine ⟨T.g_Filter, _, fd, ["self", "prime", "terms"], [], [], ?_, T.mk_Filter, hb, .nil, fun _ => .nil⟩
  refine ok_init FD sc_Filter___init__ rfl ?_
  rintro X E W ds n q xx ⟨cdv, A, outer, s, H, rfl⟩ hr tk pso hl hF
  have hu := hr.units
  have hu1 := hu_of hr
  refine ⟨_, (pss_consD (ps_ifD (ptd_not (pt_valD (PD.pb (pd_call (ok_is_prime T) (hr.mono (by decide)) tk (by rfl) (pad_cons (pd_var 1) pad_nil))))) (pss_oneD (ps_raiseD (xg_BadPrime T) (hr.mono (by decide)) rfl tk (by rfl) (pad_cons (pd_var 1) pad_nil))) pss_nilD)
      (pss_consD (ps_ifD (ptd_not (pt_valD (PD.pb (pd_call (ok_is_list T) (hr.mono (by decide)) tk (by rfl) (pad_cons (pd_var 2) pad_nil))))) (pss_oneD (ps_raiseD (xg_BadTerm T) (hr.mono (by decide)) rfl tk (by rfl) (pad_cons pd_int pad_nil))) pss_nilD)
      (pss_consD (ps_ownD 3 pf_dct0 sc_Filter___init__.nd)
      (pss_consD (ps_forD pso rfl (pid_enumK (by rfl) T.f_enumerate (pad_cons (pd_var 2) pad_nil)) (pgd_tup (m := 2) rfl (pgsd_cons (pgd_name 4 sc_Filter___init__.nd) (pgsd_cons (pgd_name 5 sc_Filter___init__.nd) pgsd_nil))) (pss_consD (ps_ifD (ptd_not (pt_valD (PD.pb (pd_call (ok_is_term T) (hr.mono (by decide)) tk (by rfl) (pad_cons (pd_var 5) pad_nil))))) (pss_oneD (ps_raiseD (xg_BadTerm T) (hr.mono (by decide)) rfl tk (by rfl) (pad_cons (pd_var 4) pad_nil))) pss_nilD)
      (pss_oneD (ps_putD 3 hu1 (PD.pb (pd_ix (pb_var 5) (PD.pb pd_int))) (pd_mod (PD.pb (pd_add (PD.pb (pd_get2 hu1 (pb_var 3) (PD.pb (pd_ix (pb_var 5) (PD.pb pd_int))) pd_int)) (PD.pb (pd_ix (pb_var 5) (PD.pb pd_int))))) (pb_var 1))))))
      (pss_frz 3 (pss_consD (ps_setD 6 (pd_callB cr_sortedI dcall_sorted (by rfl) T.f_sorted (by decide +kernel) (pab_cons (PD.pb (PF.pd (pf_lc [("offset", 7)] rfl sc_Filter___init__.nd (pid_keys (pd_var 3)) (blkOk_by (own := [("offset", 7)]) (N := ["self", "prime", "terms", "sums", "index", "term", "offsets", "offset"]) (sc := defScope (inClass (top 22) 0)) (by decide +kernel)) (fun _ _ _ _ _ => (pgd_name 7 sc_Filter___init__.nd)) (fun _ _ _ _ _ => ptsD_nil) (fun _ _ _ _ _ => (pd_callTy call_int1 dcall_int (by rfl) T.f_int (by decide +kernel) (pab_cons (pb_var 7) pab_nil)))))) pab_nil)) sc_Filter___init__.nd)
      (pss_consD (ps_fldD 0 (T.fld_Filter_prime _ (List.mem_singleton_self _)).1 (T.fld_Filter_prime _ (List.mem_singleton_self _)).2 (pd_var 1))
      (pss_consD (ps_fldD 0 (T.fld_Filter_kept _ (List.mem_singleton_self _)).1 (T.fld_Filter_kept _ (List.mem_singleton_self _)).2 (PF.pd (pf_lc [("offset", 7)] rfl sc_Filter___init__.nd (pid_seq (pd_var 6)) (blkOk_by (own := [("offset", 7)]) (N := ["self", "prime", "terms", "sums", "index", "term", "offsets", "offset"]) (sc := defScope (inClass (top 22) 0)) (by decide +kernel)) (fun _ _ _ _ _ => (pgd_name 7 sc_Filter___init__.nd)) (fun _ _ _ _ _ => (ptsD_one (pt_gt (PD.pb (pd_dg hu1 (pb_var 3) (pb_var 7))) (PD.pb pd_int)))) (fun _ _ _ _ _ => (pd_tup (pad_cons (pd_var 7) (pad_cons (pd_dg hu1 (pb_var 3) (pb_var 7)) pad_nil)))))))
      (pss_oneD (ps_fldD 0 (T.fld_Filter_held _ (List.mem_singleton_self _)).1 (T.fld_Filter_held _ (List.mem_singleton_self _)).2 (PF.pd (pf_dictP rfl (by rfl) T.f_dict (pad_cons (pd_fld ["Filter"] T.fld_Filter_kept (pb_var 0)) pad_nil))))))))))))), ?_⟩
  clear hr tk pso hl hu hu1
  rcases hF with ⟨p, d, Z, rfl, hsq, hZ, hp, hl, hq⟩ | ⟨dp, d, rfl, hF⟩
  · have hp0 := isPr_pos hp
    have ll : (Z.map (·.2)).length = Z.length := List.length_map ..
    rcases sq_cases hsq with rfl | rfl | rfl
    all_goals (
      walk_at "d"
      refine ⟨ok_int _, ?_⟩
      simp only [isPrD, bq, hp, F_is_list]
      refine if_run (fun z => absurd z (by decide)) (fun _ => ⟨⟨_, rfl, fun c e => (nomatch e)⟩, if_run (fun z => (nomatch (show false = true from z))) (fun _ => ?_)⟩)
      rw [enumD_eq, show Z.map (·.1) = Z.map (·.1) ++ [] from (List.append_nil _).symm]
      refine init_loop rfl hp0.1 _ _ [] Z [] 0 _ _ n (by rw [List.length_nil]; omega) hZ fun x y => ?_
      walk_at "d"
      rw [enumF, forD_nil]
      obtain ⟨ts, hts⟩ : ∃ ts, ts = Z.map (·.2) := ⟨_, rfl⟩
      rw [← hts] at ll hq ⊢
      have hl' : ts.length < 8000000 := by omega
      have eh : List.foldl (hstep p) [] ts = hsum p ts := rfl
      rw [eh]
      have hlen := hsum_length p ts
      walk_at "d"
      refine lcD_map some _ _ _ (fun d hd K h => ?_) (by simp; omega) ?_
      · obtain ⟨k, _, rfl⟩ := List.mem_map.mp hd
        walk_at "d"
        exact h
      rw [fm_some, List.nil_append, intsD_map]
      intro ms hperm hsort
      obtain rfl := srt_of hperm hsort
      refine ⟨by show 1 < 1000; decide, ?_⟩
      refine lcD_map (keepF (hsum p ts)) _ _ _ (fun d hd K h => ?_) ?_ ?_
      · obtain ⟨k, hk, rfl⟩ := List.mem_map.mp hd
        walk_at "d"
        rw [get_kvp' (hsum_key hk)]
        walk_at "d"
        simp only [keepF] at h
        by_cases c : 0 < getI (hsum p ts) k
        · simp only [c, decide_true, if_true] at h ⊢
          exact ⟨by decide, h⟩
        · simp only [c, decide_false] at h ⊢
          exact h
      · rw [List.length_map, List.length_nil, (srt_perm _).length_eq, List.length_map]
        omega
      · rw [List.nil_append, keepF_eq]
        refine ⟨by show 2 < 1000; decide, ?_⟩
        rw [lk_kept]
        simp only []
        rw [pairs_trm]
        show q (setF "held" (.dct (mergeD [] ((canon p ts).map kvp))) (setF "kept" (.lst ((canon p ts).map trm)) (setF "prime" (.int p) []))) n
        rw [merge_kvp0 (canon_nodup p ts)]
        exact hq)
  · refine dSeq_at fun R1 hR1 => ?_
    walk_at "d"
    have opd : okD dp := by
      rcases hF with ⟨h, _⟩ | ⟨h, _⟩ | ⟨_, _, _, h, _⟩
      · exact h
      · cases dp with
        | int i => exact ok_int i
        | _ => cases h
      · cases dp with
        | int i => exact ok_int i
        | _ => cases h
    refine ⟨opd, ?_⟩
    dsimp only [bq]
    rcases hF with ⟨_, h1, hx⟩ | hF
    · rw [h1]
      exact hx
    have hpr : isPrD dp = true := by
      rcases hF with ⟨h1, _⟩ | ⟨_, _, _, h1, _⟩
      · exact h1
      · exact h1
    rw [hpr, if_neg (by decide)]
    obtain ⟨p, rfl, hp⟩ : ∃ p, dp = .int p ∧ isPr p = true := by
      cases dp with
      | int i => exact ⟨i, rfl, hpr⟩
      | _ => cases hpr
    have hp0 := isPr_pos hp
    subst hR1
    refine dSeq_at fun R1 hR1 => ?_
    walk_at "d"
    rcases hF with ⟨_, od, hn, hx⟩ | ⟨Z, b, r, _, hsq, hZ, hl, ob, hb, hx⟩
    · refine ⟨od, ?_⟩
      dsimp only [bq]
      rw [isLst_no hn]
      exact hx
    refine ⟨okD_seq hsq, ?_⟩
    dsimp only [bq]
    rw [isLst_seq hsq]
    refine if_run (fun z => absurd z (by decide)) (fun _ => ?_)
    subst hR1
    rcases sq_cases hsq with rfl | rfl | rfl
    all_goals
      walk_at "d"
      rw [enumD_eq]
      refine init_loop rfl hp0.1 _ _ (b :: r) Z [] 0 _ _ n (by rw [List.length_nil]; omega) hZ fun x y => ?_
      rw [enumF, forD_cons, Nat.zero_add]
      walk_at "d"
      refine ⟨ob, ?_⟩
      rw [hb]
      exact hx
theorem ok_Filter___init___d1 (T : Top K mg) : Ig P w K mg base "Filter" 3 3 FG_Filter___init__ [.tup []] := by
  obtain ⟨fd, FD⟩ := T.d_Filter___init__
  obtain ⟨ds0, rv, hb⟩ := FD.binds1 (ps := ["self", "prime", "terms"]) 2 0 (by intro z; cases z) rfl (fun T kV doc pm an cdv ct us its h1 h2 => match us, h1, its, h2 with | [_, _], _, [_], _ => ⟨_, rfl, rfl⟩)
  refine ⟨T.g_Filter, _, fd, ["self", "prime", "terms"], ds0, _, ?_, T.mk_Filter, hb, rv, fun G => .cons (T.dfl_Filter___init__ G) .nil⟩
  refine ok_init FD sc_Filter___init__ rfl ?_
  rintro X E W ds n q xx ⟨cdv, A, outer, s, H, rfl⟩ hr tk pso hl hF
  have hu := hr.units
  have hu1 := hu_of hr
  refine ⟨_, (pss_consD (ps_ifD (ptd_not (pt_valD (PD.pb (pd_call (ok_is_prime T) (hr.mono (by decide)) tk (by rfl) (pad_cons (pd_var 1) pad_nil))))) (pss_oneD (ps_raiseD (xg_BadPrime T) (hr.mono (by decide)) rfl tk (by rfl) (pad_cons (pd_var 1) pad_nil))) pss_nilD)
      (pss_consD (ps_ifD (ptd_not (pt_valD (PD.pb (pd_call (ok_is_list T) (hr.mono (by decide)) tk (by rfl) (pad_cons (pd_var 2) pad_nil))))) (pss_oneD (ps_raiseD (xg_BadTerm T) (hr.mono (by decide)) rfl tk (by rfl) (pad_cons pd_int pad_nil))) pss_nilD)
      (pss_consD (ps_ownD 3 pf_dct0 sc_Filter___init__.nd)
      (pss_consD (ps_forD pso rfl (pid_enumK (by rfl) T.f_enumerate (pad_cons (pd_var 2) pad_nil)) (pgd_tup (m := 2) rfl (pgsd_cons (pgd_name 4 sc_Filter___init__.nd) (pgsd_cons (pgd_name 5 sc_Filter___init__.nd) pgsd_nil))) (pss_consD (ps_ifD (ptd_not (pt_valD (PD.pb (pd_call (ok_is_term T) (hr.mono (by decide)) tk (by rfl) (pad_cons (pd_var 5) pad_nil))))) (pss_oneD (ps_raiseD (xg_BadTerm T) (hr.mono (by decide)) rfl tk (by rfl) (pad_cons (pd_var 4) pad_nil))) pss_nilD)
      (pss_oneD (ps_putD 3 hu1 (PD.pb (pd_ix (pb_var 5) (PD.pb pd_int))) (pd_mod (PD.pb (pd_add (PD.pb (pd_get2 hu1 (pb_var 3) (PD.pb (pd_ix (pb_var 5) (PD.pb pd_int))) pd_int)) (PD.pb (pd_ix (pb_var 5) (PD.pb pd_int))))) (pb_var 1))))))
      (pss_frz 3 (pss_consD (ps_setD 6 (pd_callB cr_sortedI dcall_sorted (by rfl) T.f_sorted (by decide +kernel) (pab_cons (PD.pb (PF.pd (pf_lc [("offset", 7)] rfl sc_Filter___init__.nd (pid_keys (pd_var 3)) (blkOk_by (own := [("offset", 7)]) (N := ["self", "prime", "terms", "sums", "index", "term", "offsets", "offset"]) (sc := defScope (inClass (top 22) 0)) (by decide +kernel)) (fun _ _ _ _ _ => (pgd_name 7 sc_Filter___init__.nd)) (fun _ _ _ _ _ => ptsD_nil) (fun _ _ _ _ _ => (pd_callTy call_int1 dcall_int (by rfl) T.f_int (by decide +kernel) (pab_cons (pb_var 7) pab_nil)))))) pab_nil)) sc_Filter___init__.nd)
      (pss_consD (ps_fldD 0 (T.fld_Filter_prime _ (List.mem_singleton_self _)).1 (T.fld_Filter_prime _ (List.mem_singleton_self _)).2 (pd_var 1))
      (pss_consD (ps_fldD 0 (T.fld_Filter_kept _ (List.mem_singleton_self _)).1 (T.fld_Filter_kept _ (List.mem_singleton_self _)).2 (PF.pd (pf_lc [("offset", 7)] rfl sc_Filter___init__.nd (pid_seq (pd_var 6)) (blkOk_by (own := [("offset", 7)]) (N := ["self", "prime", "terms", "sums", "index", "term", "offsets", "offset"]) (sc := defScope (inClass (top 22) 0)) (by decide +kernel)) (fun _ _ _ _ _ => (pgd_name 7 sc_Filter___init__.nd)) (fun _ _ _ _ _ => (ptsD_one (pt_gt (PD.pb (pd_dg hu1 (pb_var 3) (pb_var 7))) (PD.pb pd_int)))) (fun _ _ _ _ _ => (pd_tup (pad_cons (pd_var 7) (pad_cons (pd_dg hu1 (pb_var 3) (pb_var 7)) pad_nil)))))))
      (pss_oneD (ps_fldD 0 (T.fld_Filter_held _ (List.mem_singleton_self _)).1 (T.fld_Filter_held _ (List.mem_singleton_self _)).2 (PF.pd (pf_dictP rfl (by rfl) T.f_dict (pad_cons (pd_fld ["Filter"] T.fld_Filter_kept (pb_var 0)) pad_nil))))))))))))), ?_⟩
  clear hr tk pso hl hu hu1
  rcases hF with ⟨p, d, Z, rfl, hsq, hZ, hp, hl, hq⟩ | ⟨dp, d, rfl, hF⟩
  · have hp0 := isPr_pos hp
    have ll : (Z.map (·.2)).length = Z.length := List.length_map ..
    rcases sq_cases hsq with rfl | rfl | rfl
    all_goals (
      walk_at "d"
      refine ⟨ok_int _, ?_⟩
      simp only [isPrD, bq, hp, F_is_list]
      refine if_run (fun z => absurd z (by decide)) (fun _ => ⟨⟨_, rfl, fun c e => (nomatch e)⟩, if_run (fun z => (nomatch (show false = true from z))) (fun _ => ?_)⟩)
      rw [enumD_eq, show Z.map (·.1) = Z.map (·.1) ++ [] from (List.append_nil _).symm]
      refine init_loop rfl hp0.1 _ _ [] Z [] 0 _ _ n (by rw [List.length_nil]; omega) hZ fun x y => ?_
      walk_at "d"
      rw [enumF, forD_nil]
      obtain ⟨ts, hts⟩ : ∃ ts, ts = Z.map (·.2) := ⟨_, rfl⟩
      rw [← hts] at ll hq ⊢
      have hl' : ts.length < 8000000 := by omega
      have eh : List.foldl (hstep p) [] ts = hsum p ts := rfl
      rw [eh]
      have hlen := hsum_length p ts
      walk_at "d"
      refine lcD_map some _ _ _ (fun d hd K h => ?_) (by simp; omega) ?_
      · obtain ⟨k, _, rfl⟩ := List.mem_map.mp hd
        walk_at "d"
        exact h
      rw [fm_some, List.nil_append, intsD_map]
      intro ms hperm hsort
      obtain rfl := srt_of hperm hsort
      refine ⟨by show 1 < 1000; decide, ?_⟩
      refine lcD_map (keepF (hsum p ts)) _ _ _ (fun d hd K h => ?_) ?_ ?_
      · obtain ⟨k, hk, rfl⟩ := List.mem_map.mp hd
        walk_at "d"
        rw [get_kvp' (hsum_key hk)]
        walk_at "d"
        simp only [keepF] at h
        by_cases c : 0 < getI (hsum p ts) k
        · simp only [c, decide_true, if_true] at h ⊢
          exact ⟨by decide, h⟩
        · simp only [c, decide_false] at h ⊢
          exact h
      · rw [List.length_map, List.length_nil, (srt_perm _).length_eq, List.length_map]
        omega
      · rw [List.nil_append, keepF_eq]
        refine ⟨by show 2 < 1000; decide, ?_⟩
        rw [lk_kept]
        simp only []
        rw [pairs_trm]
        show q (setF "held" (.dct (mergeD [] ((canon p ts).map kvp))) (setF "kept" (.lst ((canon p ts).map trm)) (setF "prime" (.int p) []))) n
        rw [merge_kvp0 (canon_nodup p ts)]
        exact hq)
  · refine dSeq_at fun R1 hR1 => ?_
    walk_at "d"
    have opd : okD dp := by
      rcases hF with ⟨h, _⟩ | ⟨h, _⟩ | ⟨_, _, _, h, _⟩
      · exact h
      · cases dp with
        | int i => exact ok_int i
        | _ => cases h
      · cases dp with
        | int i => exact ok_int i
        | _ => cases h
    refine ⟨opd, ?_⟩
    dsimp only [bq]
    rcases hF with ⟨_, h1, hx⟩ | hF
    · rw [h1]
      exact hx
    have hpr : isPrD dp = true := by
      rcases hF with ⟨h1, _⟩ | ⟨_, _, _, h1, _⟩
      · exact h1
      · exact h1
    rw [hpr, if_neg (by decide)]
    obtain ⟨p, rfl, hp⟩ : ∃ p, dp = .int p ∧ isPr p = true := by
      cases dp with
      | int i => exact ⟨i, rfl, hpr⟩
      | _ => cases hpr
    have hp0 := isPr_pos hp
    subst hR1
    refine dSeq_at fun R1 hR1 => ?_
    walk_at "d"
    rcases hF with ⟨_, od, hn, hx⟩ | ⟨Z, b, r, _, hsq, hZ, hl, ob, hb, hx⟩
    · refine ⟨od, ?_⟩
      dsimp only [bq]
      rw [isLst_no hn]
      exact hx
    refine ⟨okD_seq hsq, ?_⟩
    dsimp only [bq]
    rw [isLst_seq hsq]
    refine if_run (fun z => absurd z (by decide)) (fun _ => ?_)
    subst hR1
    rcases sq_cases hsq with rfl | rfl | rfl
    all_goals
      walk_at "d"
      rw [enumD_eq]
      refine init_loop rfl hp0.1 _ _ (b :: r) Z [] 0 _ _ n (by rw [List.length_nil]; omega) hZ fun x y => ?_
      rw [enumF, forD_cons, Nat.zero_add]
      walk_at "d"
      refine ⟨ob, ?_⟩
      rw [hb]
      exact hx
end

end My

namespace My
open PySem PySem.Spec L2 DL
theorem sc_Filter_shift : FnScope ["cls", "prime", "offset"] ["cls", "prime", "offset"] (defScope (inClass (top 22) 1)) := ⟨rfl, rfl, rfl, by decide +kernel, rfl, by decide +kernel, by decide +kernel⟩
section
variable {P : Program} {w : World} {K : PySem.W.Frag} {mg : Str → Option Value} {base : Heap}
theorem ok_Filter_shift (T : Top K mg) : Cg P w K mg base "Filter" "shift" 5 3 F_Filter_shift [] := by
  obtain ⟨fd, FD⟩ := T.d_Filter_shift
  refine ⟨T.g_Filter, T.cr_Filter, _, _, fd, ["cls", "prime", "offset"], [], [], ?_, T.cm_Filter_shift, FD.bindsN (fun _ _ _ _ _ _ us hl => match us, hl with | [_, _, _], _ => rfl), .nil, fun _ => .nil⟩
  refine ok_def FD sc_Filter_shift rfl ?_
  rintro X E W ds n q xx ⟨cdv, A, outer, s, H, rfl⟩ hr tk pso hl hF
  have hu := hr.units
  have hu1 := hu_of hr
  refine ⟨_, (pss_oneD (ps_retD (pd_makeV 0 (ok_Filter___init__ T) (hr.mono (by decide)) tk (pad_cons (pd_var 1) (pad_cons (PF.pd (pf_lst (pad_cons (pd_tup (pad_cons (pd_var 2) (pad_cons pd_int pad_nil))) pad_nil))) pad_nil))))), ?_⟩
  clear hr tk pso hl hu hu1
  obtain ⟨ds, rfl, hF⟩ := hF
  obtain ⟨p, k, rfl, hp, hq⟩ := hF
  have hp0 := isPr_pos hp
  walk_at "d"
  refine ⟨rfl, by decide, by decide, FG_init_trm (ts := [(k, 1)]) rfl hp (by rw [List.length_singleton]; decide) ?_⟩
  rw [can_of hp0.1 (x := mono p k 1) rfl]
  exact hq
end

end My

namespace My
open PySem PySem.Spec L2 DL
theorem sc_Filter_terms : FnScope ["self"] ["self"] (defScope (inClass (top 22) 7)) := ⟨rfl, rfl, rfl, by decide +kernel, rfl, by decide +kernel, by decide +kernel⟩
section
variable {P : Program} {w : World} {K : PySem.W.Frag} {mg : Str → Option Value} {base : Heap}
theorem ok_Filter_terms (T : Top K mg) : MgF P w K mg base "Filter" "terms" 1 1 F_Filter_terms [] := by
  obtain ⟨fd, FD⟩ := T.d_Filter_terms
  refine ⟨T.cl_Filter, _, fd, ["self"], [], [], ?_, T.m_Filter_terms, FD.bindsN (fun _ _ _ _ _ _ us hl => match us, hl with | [_], _ => rfl), .nil, fun _ => .nil⟩
  refine ok_defF FD sc_Filter_terms rfl ?_
  rintro X E W ds n q xx ⟨cdv, A, outer, s, H, rfl⟩ hr tk pso hl hF
  have hu := hr.units
  have hu1 := hu_of hr
  refine ⟨_, (pss_oneD (ps_retFD (pf_list (by rfl) T.f_list (pab_cons (PD.pb (pd_fld ["Filter"] T.fld_Filter_kept (pb_var 0))) pab_nil)))), ?_⟩
  clear hr tk pso hl hu hu1
  obtain ⟨p, ts, rfl, hq⟩ := hF
  walk_at "d"
  exact hq
end

end My

namespace My
open PySem PySem.Spec L2 DL
theorem sc__law_held : FnScope ["_law_prime_here", "_law_terms_here", "_law_sums", "_law_found", "_law_offset", "_law_coefficient", "_law_k"] ["_law_prime_here", "_law_terms_here"] (defScope (top 28)) := ⟨rfl, rfl, rfl, by decide +kernel, rfl, by decide +kernel, by decide +kernel⟩
section
variable {P : Program} {w : World} {K : PySem.W.Frag} {mg : Str → Option Value} {base : Heap}
theorem held_loop {E : DEnds} {L : Nat} (hL : L = 2) {p : Int} (hp : 0 < p) (o t : Option Sl) (ts : Tm) : ∀ (m : Tm) (x y : Option Sl) (n : Nat), m.length + ts.length < 2000000 → (∀ x y, E.nx [some (.val (.int p)), o, some (.own (.dct ((ts.foldl (hstep p) m).map kvp))), t, x, y, none] n) →
    forD (gTn L (gsC (gN 4) (gsC (gN 5) gs0))) (dPut 2 (bVar 4) (dOp fMod (dCB fInt (dCons (dOp fAdd (dGet2 (bVar 2) (bVar 4) (dC (.int 0))) (bVar 5)) dNil)) (bVar 0))) (ts.map trm) E [some (.val (.int p)), o, some (.own (.dct (m.map kvp))), t, x, y, none] n := by
  subst hL
  induction ts with
  | nil => intro m x y n _ h; exact h x y
  | cons a ts ih =>
    intro m x y n hl h
    rw [List.map_cons, forD_cons]
    walk_at "d"
    rw [List.length_cons] at hl
    refine ⟨hp, by omega, ?_⟩
    refine ih _ _ _ _ ?_ h
    have := putI_length m a.1 ((getI m a.1 + a.2) % p)
    omega
theorem held_loop2 {E : DEnds} (S : Tm) (o p : Option Sl) (ks : List Int) : ∀ (m : Tm) (x y : Option Sl) (n : Nat), m.length + ks.length < 2000000 → (m.map (·.1) ++ ks).Nodup → (∀ k ∈ ks, k ∈ S.map (·.1)) → (∀ x, E.nx [p, o, some (.val (.dct (S.map kvp))), some (.own (.dct ((m ++ (ks.filter fun k => decide (0 < getI S k)).map fun k => (k, getI S k)).map kvp))), x, y, none] n) →
    forD (gN 4) (dIfS (dTest (dOp fGt (dOp fDg (bVar 2) (bVar 4)) (dC (.int 0)))) (dPut 3 (bVar 4) (dOp fDg (bVar 2) (bVar 4))) dNext) (ks.map D.int) E [p, o, some (.val (.dct (S.map kvp))), some (.own (.dct (m.map kvp))), x, y, none] n := by
  induction ks with
  | nil => intro m x y n _ _ _ h; have z := h x; rw [List.filter_nil, List.map_nil, List.append_nil] at z; exact z
  | cons k ks ih =>
    intro m x y n hl hn hk h
    rw [List.map_cons, forD_cons]
    walk_at "d"
    rw [get_kvp' (hk k (List.mem_cons_self ..))]
    walk_at "d"
    rw [List.length_cons] at hl
    have nk : k ∉ m.map (·.1) := fun z => by
      rw [List.nodup_append] at hn
      exact hn.2.2 k z k (List.mem_cons_self ..) rfl
    rw [List.filter_cons] at h
    by_cases c : 0 < getI S k
    · simp only [c, decide_true, if_true] at h ⊢
      refine ⟨by omega, ?_⟩
      rw [putI_new _ nk]
      refine ih _ _ _ _ (by rw [List.length_append, List.length_singleton]; omega) ?_ (fun j hj => hk j (List.mem_cons_of_mem _ hj)) ?_
      · rw [List.map_append, List.append_assoc]; exact hn
      · rw [List.append_assoc]; exact h
    · simp only [c, decide_false] at h ⊢
      refine ih _ _ _ _ (by omega) ?_ (fun j hj => hk j (List.mem_cons_of_mem _ hj)) h
      exact List.Nodup.sublist (List.Sublist.append (List.Sublist.refl _) (List.sublist_cons_self ..)) hn
theorem ok__law_held (T : Top K mg) : SgF P w K mg base "_law_held" 1 2 F__law_held [] := by
  obtain ⟨fd, FD⟩ := T.d__law_held
  refine ⟨_, fd, ["_law_prime_here", "_law_terms_here"], [], [], ?_, T.g__law_held, FD.kp, FD.bindsN (fun _ _ _ _ _ _ us hl => match us, hl with | [_, _], _ => rfl), .nil, fun _ => .nil⟩
  refine ok_defF FD sc__law_held rfl ?_
  rintro X E W ds n q xx ⟨cdv, A, outer, s, H, rfl⟩ hr tk pso hl hF
  have hu := hr.units
  have hu1 := hu_of hr
  refine ⟨_, (pss_consD (ps_par2 2 3 rfl sc__law_held.nd (PF.sl pf_dct0) (PF.sl pf_dct0))
      (pss_consD (ps_forD pso rfl (pid_seq (pd_var 1)) (pgd_tup (m := 2) rfl (pgsd_cons (pgd_name 4 sc__law_held.nd) (pgsd_cons (pgd_name 5 sc__law_held.nd) pgsd_nil))) (pss_oneD (ps_putD 2 hu1 (pb_var 4) (pd_mod (PD.pb (pd_callTy call_int1 dcall_int (by rfl) T.f_int (by decide +kernel) (pab_cons (PD.pb (pd_add (PD.pb (pd_get2 hu1 (pb_var 2) (pb_var 4) pd_int)) (pb_var 5))) pab_nil))) (pb_var 0)))))
      (pss_frz 2 (pss_consD (ps_forD pso rfl (pid_seq (pd_callB cr_sortedI dcall_sorted (by rfl) T.f_sorted (by decide +kernel) (pab_cons (PD.pb (PF.pd (pf_lc [("_law_k", 6)] rfl sc__law_held.nd (pid_keys (pd_var 2)) (blkOk_by (own := [("_law_k", 6)]) (N := ["_law_prime_here", "_law_terms_here", "_law_sums", "_law_found", "_law_offset", "_law_coefficient", "_law_k"]) (sc := defScope (top 28)) (by decide +kernel)) (fun _ _ _ _ _ => (pgd_name 6 sc__law_held.nd)) (fun _ _ _ _ _ => ptsD_nil) (fun _ _ _ _ _ => (pd_callTy call_int1 dcall_int (by rfl) T.f_int (by decide +kernel) (pab_cons (pb_var 6) pab_nil)))))) pab_nil))) (pgd_name 4 sc__law_held.nd) (pss_oneD (ps_ifD (pt_gt (PD.pb (pd_dg hu1 (pb_var 2) (pb_var 4))) (PD.pb pd_int)) (pss_oneD (ps_putD 3 hu1 (pb_var 4) (pd_dg hu1 (pb_var 2) (pb_var 4)))) pss_nilD)))
      (pss_oneD (ps_retOD 3)))))), ?_⟩
  clear hr tk pso hl hu hu1
  obtain ⟨p, ts, rfl, hp, hl2, hq⟩ := hF
  walk_at "d"
  refine held_loop rfl hp _ _ ts [] _ _ n (by rw [List.length_nil]; omega) fun x y => ?_
  walk_at "d"
  have eh : List.foldl (hstep p) [] ts = hsum p ts := rfl
  rw [eh]
  have hlen := hsum_length p ts
  refine lcD_map some _ _ _ (fun d hd K h => ?_) (by simp; omega) ?_
  · obtain ⟨k, _, rfl⟩ := List.mem_map.mp hd
    walk_at "d"
    exact h
  rw [fm_some, List.nil_append, intsD_map]
  intro ms hperm hsort
  obtain rfl := srt_of hperm hsort
  refine held_loop2 (hsum p ts) _ _ _ [] _ _ n ?_ ?_ (fun k hk => hsum_key hk) fun x => ?_
  · rw [List.length_nil, (srt_perm _).length_eq, List.length_map]; omega
  · exact (srt_perm _).symm.nodup (hsum_nodup p ts)
  · walk_at "d"
    exact hq
end

end My

namespace My
open PySem PySem.Spec L2 DL
theorem sc__law_pick : FnScope ["_law_spring_here", "_law_things"] ["_law_spring_here", "_law_things"] (defScope (top 26)) := ⟨rfl, rfl, rfl, by decide +kernel, rfl, by decide +kernel, by decide +kernel⟩
section
variable {P : Program} {w : World} {K : PySem.W.Frag} {mg : Str → Option Value} {base : Heap}
theorem ok__law_pick (T : Top K mg) : Sg P w K mg base "_law_pick" 2 2 F__law_pick [] := by
  obtain ⟨fd, FD⟩ := T.d__law_pick
  refine ⟨_, fd, ["_law_spring_here", "_law_things"], [], [], ?_, T.g__law_pick, FD.kp, FD.bindsN (fun _ _ _ _ _ _ us hl => match us, hl with | [_, _], _ => rfl), .nil, fun _ => .nil⟩
  refine ok_def FD sc__law_pick rfl ?_
  rintro X E W ds n q xx ⟨cdv, A, outer, s, H, rfl⟩ hr tk pso hl hF
  have hu := hr.units
  have hu1 := hu_of hr
  refine ⟨_, (pss_oneD (ps_retD (pd_ix (pb_var 1) (PD.pb (pd_call (ok__law_draw T) (hr.mono (by decide)) tk (by rfl) (pad_cons (pd_var 0) (pad_cons (pd_callB call_lenD2 dcall_len (by rfl) T.f_len (by decide +kernel) (pab_cons (pb_var 1) pab_nil)) pad_nil))))))), ?_⟩
  clear hr tk pso hl hu hu1
  match ds, hF with
  | [.hnd s, .lst es], hF =>
    obtain ⟨hW, h0, h1, h2, hq⟩ := hF
    walk_at "d"
    refine ⟨hW, by omega, by omega, h2, fun k hk => ?_⟩
    have hk' : k < es.length := by omega
    have e : atI es (k : Int) = some es[k] := atI_nat (List.getElem?_eq_getElem hk')
    show (match atI es (k : Int) with | some d => q d (n + 1) | none => False)
    rw [e]
    exact hq _ (List.getElem_mem hk')
end

end My

namespace My
open PySem PySem.Spec L2 DL
theorem sc__law_other : FnScope ["_law_spring_here", "_law_p", "_law_one"] ["_law_spring_here", "_law_p"] (defScope (top 31)) := ⟨rfl, rfl, rfl, by decide +kernel, rfl, by decide +kernel, by decide +kernel⟩
section
variable {P : Program} {w : World} {K : PySem.W.Frag} {mg : Str → Option Value} {base : Heap}
theorem ok__law_other (T : Top K mg) : Sg P w K mg base "_law_other" 3 2 F__law_other [] := by
  obtain ⟨fd, FD⟩ := T.d__law_other
  refine ⟨_, fd, ["_law_spring_here", "_law_p"], [], [], ?_, T.g__law_other, FD.kp, FD.bindsN (fun _ _ _ _ _ _ us hl => match us, hl with | [_, _], _ => rfl), .nil, fun _ => .nil⟩
  refine ok_def FD sc__law_other rfl ?_
  rintro X E W ds n q xx ⟨cdv, A, outer, s, H, rfl⟩ hr tk pso hl hF
  have hu := hr.units
  have hu1 := hu_of hr
  refine ⟨_, (pss_oneD (ps_retD (pd_call (ok__law_pick T) (hr.mono (by decide)) tk (by rfl) (pad_cons (pd_var 0) (pad_cons (PF.pd (pf_lc [("_law_one", 2)] rfl sc__law_other.nd (pid_seq (PF.pd (pf_lst (pad_cons pd_int (pad_cons pd_int (pad_cons pd_int (pad_cons pd_int pad_nil))))))) (blkOk_by (own := [("_law_one", 2)]) (N := ["_law_spring_here", "_law_p", "_law_one"]) (sc := defScope (top 31)) (by decide +kernel)) (fun _ _ _ _ _ => (pgd_name 2 sc__law_other.nd)) (fun _ _ _ _ _ => (ptsD_one (pt_ne hu (pb_var 2) (pb_var 1)))) (fun _ _ _ _ _ => (pd_var 2)))) pad_nil))))), ?_⟩
  clear hr tk pso hl hu hu1
  obtain ⟨s0, p, rfl, hW, hp, hn, hq⟩ := hF
  walk_at "d"
  refine ⟨by decide, ?_⟩
  refine lcD_of D.int (fun i => if i = p then none else some (.int i)) [2, 3, 5, 7] [] _ (fun a _ K h => ?_) (by decide) ?_
  · walk_at "d"
    rw [show (pyD (.int a)).eqv (pyD (.int p)) = decide (a = p) from eqv_int a p]
    by_cases e : a = p
    · simpa [e] using h
    · simpa [e] using h
  · have key : ∀ p' : Int, isPr p' = true → p' ≠ p → q (.int p') (n + 1) := hq
    refine ⟨hW, ?_, ?_, by omega, fun d hd => ?_⟩
    · rcases isPr_cases hp with rfl | rfl | rfl | rfl <;> decide
    · rcases isPr_cases hp with rfl | rfl | rfl | rfl <;> decide
    · obtain ⟨i, hi, hm⟩ := List.mem_filterMap.mp hd
      by_cases e : i = p
      · rw [if_pos e] at hm; cases hm
      · rw [if_neg e] at hm
        cases hm
        refine key i ?_ e
        simp only [List.mem_cons, List.not_mem_nil, or_false] at hi
        rcases hi with rfl | rfl | rfl | rfl <;> rfl
end

end My

namespace My
open PySem PySem.Spec L2 DL
theorem sc__law_prime : FnScope ["_law_spring_here"] ["_law_spring_here"] (defScope (top 30)) := ⟨rfl, rfl, rfl, by decide +kernel, rfl, by decide +kernel, by decide +kernel⟩
section
variable {P : Program} {w : World} {K : PySem.W.Frag} {mg : Str → Option Value} {base : Heap}
theorem ok__law_prime (T : Top K mg) : Sg P w K mg base "_law_prime" 3 1 F__law_prime [] := by
  obtain ⟨fd, FD⟩ := T.d__law_prime
  refine ⟨_, fd, ["_law_spring_here"], [], [], ?_, T.g__law_prime, FD.kp, FD.bindsN (fun _ _ _ _ _ _ us hl => match us, hl with | [_], _ => rfl), .nil, fun _ => .nil⟩
  refine ok_def FD sc__law_prime rfl ?_
  rintro X E W ds n q xx ⟨cdv, A, outer, s, H, rfl⟩ hr tk pso hl hF
  have hu := hr.units
  have hu1 := hu_of hr
  refine ⟨_, (pss_oneD (ps_retD (pd_call (ok__law_pick T) (hr.mono (by decide)) tk (by rfl) (pad_cons (pd_var 0) (pad_cons (PF.pd (pf_lst (pad_cons pd_int (pad_cons pd_int (pad_cons pd_int (pad_cons pd_int pad_nil)))))) pad_nil))))), ?_⟩
  clear hr tk pso hl hu hu1
  obtain ⟨s0, rfl, hW, hn, hq⟩ := hF
  walk_at "d"
  refine ⟨by decide, hW, by decide, by decide, hn, fun d hd => ?_⟩
  simp only [List.mem_cons, List.not_mem_nil, or_false] at hd
  rcases hd with rfl | rfl | rfl | rfl <;> exact hq _ (by decide)
end

end My

namespace My
open PySem PySem.Spec L2 DL
theorem sc__law_same : FnScope ["_law_found", "_law_due", "_law_x", "_law_y"] ["_law_found", "_law_due"] (defScope (top 27)) := ⟨rfl, rfl, rfl, by decide +kernel, rfl, by decide +kernel, by decide +kernel⟩
section
variable {P : Program} {w : World} {K : PySem.W.Frag} {mg : Str → Option Value} {base : Heap}
theorem shp1 {d : PyData} (h : SeqAt.shaped d = true) : d.canLay0 = true := by
  unfold SeqAt.shaped at h
  exact (Bool.and_eq_true_iff.mp h).1
theorem yes_b : ∀ L : List D, boolsD (L.map fun _ => D.bl true) = some (L.map fun _ => true)
  | [] => rfl
  | d :: L => by
    have := yes_b L
    rw [List.map_cons, List.map_cons]
    unfold boolsD
    rw [this]
    rfl
theorem same_loop {W : Wd} {T : DE} {k : Nat} {γ : DG} {ρ : DL.Env} {n : Nat} (q : List D → Nat → Prop) (ds es : List D) (hl : ds.length = es.length) (h3 : es.length < 10000000) (hk : ∀ (i : Nat) (x y : D), ds[i]? = some x → es[i]? = some y → sm k x y)
    (step : ∀ (x y : D), sm k x y → ∀ K : Option D → Nat → Prop, K (some (.bl true)) n → γ (.tup [x, y]) ρ fun ρ1 => dYes (x0 W) ρ1 n fun b n1 => if b = true then T (x0 W) ρ1 n1 (fun y n2 => K (some y) n2) else K none n1)
    (hq : q (List.replicate es.length (.bl true)) n) : lcD W γ dYes T (zipD ds es) ρ n [] q := by
  have e0 : zipD ds es = (List.range es.length).map fun i => D.tup [ds.getD i .non, es.getD i .non] := by
    refine List.ext_getElem? fun i => ?_
    unfold zipD
    rw [List.getElem?_map, List.getElem?_map]
    by_cases hi : i < es.length
    · have hi2 : i < ds.length := by omega
      rw [List.getElem?_range hi]
      have e1 : (ds.zip es)[i]? = some (ds[i], es[i]) := by
        rw [List.getElem?_eq_getElem (by rw [List.length_zip]; omega), List.getElem_zip]
      rw [e1]
      simp [hi, hi2, List.getD_eq_getElem?_getD]
    · rw [List.getElem?_eq_none (by rw [List.length_zip]; omega), List.getElem?_eq_none (by rw [List.length_range]; omega)]
      rfl
  rw [e0]
  refine lcD_all _ (fun _ => D.bl true) _ _ (fun i hi K h => ?_) (by rw [List.length_range]; omega) ?_
  · rw [List.mem_range] at hi
    have hi2 : i < ds.length := by omega
    have e1 : ds[i]? = some (ds.getD i .non) := by simp [List.getD_eq_getElem?_getD, hi2]
    have e2 : es[i]? = some (es.getD i .non) := by simp [List.getD_eq_getElem?_getD, hi]
    exact step _ _ (hk i _ _ e1 e2) K h
  · rw [List.map_const', List.length_range]
    exact hq
theorem ok__law_same (T : Top K mg) : ∀ k, Sg P w K mg base "_law_same" (k + 1) 2 (FG__law_same k) []
  | 0 => by
    obtain ⟨fd, FD⟩ := T.d__law_same
    refine ⟨_, fd, ["_law_found", "_law_due"], [], [], ?_, T.g__law_same, FD.kp, FD.bindsN (fun _ _ _ _ _ _ us hl => match us, hl with | [_, _], _ => rfl), .nil, fun _ => .nil⟩
    refine ok_def FD sc__law_same rfl ?_
    rintro X E W ds n q xx ⟨cdv, A, outer, s, H, rfl⟩ hr tk pso hl hF
    have hu := hr.units
    have hu1 := hu_of hr
    refine ⟨_, (pss_consD (ps_ifD (pt_valD (PD.pb (pd_isiT T.tyf (T.kt_list_tuple) (by rfl) T.f_isinstance (pa_cons (pe_bltn (v := .ty "list") (by rfl) T.f_list (by decide +kernel) rfl) (pa_cons (pe_bltn (v := .ty "tuple") (by rfl) T.f_tuple (by decide +kernel) rfl) pa_nil)) (fun _ _ _ h => h) (.cons (.ty "list") (.cons (.ty "tuple") .nil)) (by decide) (pb_var 1)))) (pss_consD (ps_ifD (PWD.pt (pwd_or (pt_ne hu (PD.pb (pd_isiB T.tyf (T.kb_list) (by rfl) T.f_isinstance (by rfl) T.f_list (by decide +kernel) (pb_var 0))) (PD.pb (pd_isiB T.tyf (T.kb_list) (by rfl) T.f_isinstance (by rfl) T.f_list (by decide +kernel) (pb_var 1)))) (pwd_or1 (pt_ne hu (PD.pb (pd_isiB T.tyf (T.kb_tuple) (by rfl) T.f_isinstance (by rfl) T.f_tuple (by decide +kernel) (pb_var 0))) (PD.pb (pd_isiB T.tyf (T.kb_tuple) (by rfl) T.f_isinstance (by rfl) T.f_tuple (by decide +kernel) (pb_var 1))))))) (pss_oneD (ps_retD pd_bl)) pss_nilD)
      (pss_oneD (ps_retD (pd_and (pd_eq hu (PD.pb (pd_callB call_lenD2 dcall_len (by rfl) T.f_len (by decide +kernel) (pab_cons (pb_var 0) pab_nil))) (PD.pb (pd_callB call_lenD2 dcall_len (by rfl) T.f_len (by decide +kernel) (pab_cons (pb_var 1) pab_nil)))) (pd_one (pd_callB (cr_all rfl) dcall_all (by rfl) T.f_all (by decide +kernel) (pab_cons (PD.pb (PF.pd (pf_lc [("_law_x", 2), ("_law_y", 3)] rfl sc__law_same.nd (pid_zipK (by rfl) T.f_zip (pad_cons (pd_var 0) (pad_cons (pd_var 1) pad_nil))) (blkOk_by (own := [("_law_x", 2), ("_law_y", 3)]) (N := ["_law_found", "_law_due", "_law_x", "_law_y"]) (sc := defScope (top 27)) (by decide +kernel)) (fun _ _ _ _ _ => (pgd_tup (m := 2) rfl (pgsd_cons (pgd_name 2 sc__law_same.nd) (pgsd_cons (pgd_name 3 sc__law_same.nd) pgsd_nil)))) (fun _ _ _ _ _ => ptsD_nil) (fun _ _ _ _ _ => pd_never)))) pab_nil))))))) pss_nilD)
      (pss_consD (ps_ifD (pt_valD (PD.pb (pd_isiB T.tyf (T.kb_int) (by rfl) T.f_isinstance (by rfl) T.f_int (by decide +kernel) (pb_var 1)))) (pss_oneD (ps_retD (pd_and (pd_isiB T.tyf (T.kb_int) (by rfl) T.f_isinstance (by rfl) T.f_int (by decide +kernel) (pb_var 0)) (pd_and (pd_eq hu (PD.pb (pd_isiB T.tyf (T.kb_bool) (by rfl) T.f_isinstance (by rfl) T.f_bool (by decide +kernel) (pb_var 0))) (PD.pb (pd_isiB T.tyf (T.kb_bool) (by rfl) T.f_isinstance (by rfl) T.f_bool (by decide +kernel) (pb_var 1)))) (pd_one (pd_eq hu (pb_var 0) (pb_var 1))))))) pss_nilD)
      (pss_oneD (ps_retD (pd_and (pd_isB (PD.pb (pd_isiT T.tyf (T.kt_int_list_tuple) (by rfl) T.f_isinstance (pa_cons (pe_bltn (v := .ty "int") (by rfl) T.f_int (by decide +kernel) rfl) (pa_cons (pe_bltn (v := .ty "list") (by rfl) T.f_list (by decide +kernel) rfl) (pa_cons (pe_bltn (v := .ty "tuple") (by rfl) T.f_tuple (by decide +kernel) rfl) pa_nil))) (fun _ _ _ h => h) (.cons (.ty "int") (.cons (.ty "list") (.cons (.ty "tuple") .nil))) (by decide) (pb_var 0))) (PD.pb pd_bl)) (pd_one (pd_eq hu (pb_var 0) (pb_var 1)))))))), ?_⟩
    obtain ⟨d, e, rfl, ⟨rfl, he⟩, hq⟩ := hF
    cases d with
    | int i =>
      walk_at "d"
      exact hq
    | bl b =>
      walk_at "d"
      exact hq
    | str x =>
      walk_at "d"
      rw [if_pos (by simp)]
      refine ⟨he, he, ?_⟩
      rw [SeqAt.eqv_refl _ (shp1 he)]
      exact hq
    | non =>
      walk_at "d"
      rw [if_pos (by simp)]
      refine ⟨rfl, rfl, ?_⟩
      rw [SeqAt.eqv_refl _ rfl]
      exact hq
    | _ => exact he.elim
  | k + 1 => by
    obtain ⟨fd, FD⟩ := T.d__law_same
    refine ⟨_, fd, ["_law_found", "_law_due"], [], [], ?_, T.g__law_same, FD.kp, FD.bindsN (fun _ _ _ _ _ _ us hl => match us, hl with | [_, _], _ => rfl), .nil, fun _ => .nil⟩
    refine ok_def FD sc__law_same rfl ?_
    rintro X E W ds n q xx ⟨cdv, A, outer, s, H, rfl⟩ hr tk pso hl hF
    have hu := hr.units
    have hu1 := hu_of hr
    refine ⟨_, (pss_consD (ps_ifD (pt_valD (PD.pb (pd_isiT T.tyf (T.kt_list_tuple) (by rfl) T.f_isinstance (pa_cons (pe_bltn (v := .ty "list") (by rfl) T.f_list (by decide +kernel) rfl) (pa_cons (pe_bltn (v := .ty "tuple") (by rfl) T.f_tuple (by decide +kernel) rfl) pa_nil)) (fun _ _ _ h => h) (.cons (.ty "list") (.cons (.ty "tuple") .nil)) (by decide) (pb_var 1)))) (pss_consD (ps_ifD (PWD.pt (pwd_or (pt_ne hu (PD.pb (pd_isiB T.tyf (T.kb_list) (by rfl) T.f_isinstance (by rfl) T.f_list (by decide +kernel) (pb_var 0))) (PD.pb (pd_isiB T.tyf (T.kb_list) (by rfl) T.f_isinstance (by rfl) T.f_list (by decide +kernel) (pb_var 1)))) (pwd_or1 (pt_ne hu (PD.pb (pd_isiB T.tyf (T.kb_tuple) (by rfl) T.f_isinstance (by rfl) T.f_tuple (by decide +kernel) (pb_var 0))) (PD.pb (pd_isiB T.tyf (T.kb_tuple) (by rfl) T.f_isinstance (by rfl) T.f_tuple (by decide +kernel) (pb_var 1))))))) (pss_oneD (ps_retD pd_bl)) pss_nilD)
      (pss_oneD (ps_retD (pd_and (pd_eq hu (PD.pb (pd_callB call_lenD2 dcall_len (by rfl) T.f_len (by decide +kernel) (pab_cons (pb_var 0) pab_nil))) (PD.pb (pd_callB call_lenD2 dcall_len (by rfl) T.f_len (by decide +kernel) (pab_cons (pb_var 1) pab_nil)))) (pd_one (pd_callB (cr_all rfl) dcall_all (by rfl) T.f_all (by decide +kernel) (pab_cons (PD.pb (PF.pd (pf_lc [("_law_x", 2), ("_law_y", 3)] rfl sc__law_same.nd (pid_zipK (by rfl) T.f_zip (pad_cons (pd_var 0) (pad_cons (pd_var 1) pad_nil))) (blkOk_by (own := [("_law_x", 2), ("_law_y", 3)]) (N := ["_law_found", "_law_due", "_law_x", "_law_y"]) (sc := defScope (top 27)) (by decide +kernel)) (fun _ _ _ _ _ => (pgd_tup (m := 2) rfl (pgsd_cons (pgd_name 2 sc__law_same.nd) (pgsd_cons (pgd_name 3 sc__law_same.nd) pgsd_nil)))) (fun _ _ _ _ _ => ptsD_nil) (fun _ _ _ _ _ => (pd_call (ok__law_same T k) hr DL.takes0 (by rfl) (pad_cons (pd_var 2) (pad_cons (pd_var 3) pad_nil))))))) pab_nil))))))) pss_nilD)
      (pss_consD (ps_ifD (pt_valD (PD.pb (pd_isiB T.tyf (T.kb_int) (by rfl) T.f_isinstance (by rfl) T.f_int (by decide +kernel) (pb_var 1)))) (pss_oneD (ps_retD (pd_and (pd_isiB T.tyf (T.kb_int) (by rfl) T.f_isinstance (by rfl) T.f_int (by decide +kernel) (pb_var 0)) (pd_and (pd_eq hu (PD.pb (pd_isiB T.tyf (T.kb_bool) (by rfl) T.f_isinstance (by rfl) T.f_bool (by decide +kernel) (pb_var 0))) (PD.pb (pd_isiB T.tyf (T.kb_bool) (by rfl) T.f_isinstance (by rfl) T.f_bool (by decide +kernel) (pb_var 1)))) (pd_one (pd_eq hu (pb_var 0) (pb_var 1))))))) pss_nilD)
      (pss_oneD (ps_retD (pd_and (pd_isB (PD.pb (pd_isiT T.tyf (T.kt_int_list_tuple) (by rfl) T.f_isinstance (pa_cons (pe_bltn (v := .ty "int") (by rfl) T.f_int (by decide +kernel) rfl) (pa_cons (pe_bltn (v := .ty "list") (by rfl) T.f_list (by decide +kernel) rfl) (pa_cons (pe_bltn (v := .ty "tuple") (by rfl) T.f_tuple (by decide +kernel) rfl) pa_nil))) (fun _ _ _ h => h) (.cons (.ty "int") (.cons (.ty "list") (.cons (.ty "tuple") .nil))) (by decide) (pb_var 0))) (PD.pb pd_bl)) (pd_one (pd_eq hu (pb_var 0) (pb_var 1)))))))), ?_⟩
    obtain ⟨d, e, rfl, hs, hq⟩ := hF
    cases e with
    | lst es =>
      obtain ⟨ds, hd, hle, h3, hk⟩ := hs
      rcases hd with rfl | rfl
      all_goals
        walk_at "d"
        rw [eqv_int, decide_eq_true (show (ds.length : Int) = es.length by omega), if_pos rfl]
        refine same_loop _ ds es hle h3 hk (fun x y hxy K h => ?_) ?_
        · walk_at "d"
          exact ⟨x, y, rfl, hxy, h⟩
        rw [show List.replicate es.length (D.bl true) = es.map fun _ => D.bl true from List.map_const'.symm, yes_b]
        simp only []
        rw [show (es.map fun _ => true).all id = true by simp]
        exact hq
    | tup es =>
      obtain ⟨ds, rfl, hle, h3, hk⟩ := hs
      walk_at "d"
      rw [eqv_int, decide_eq_true (show (ds.length : Int) = es.length by omega), if_pos rfl]
      refine same_loop _ ds es hle h3 hk (fun x y hxy K h => ?_) ?_
      · walk_at "d"
        exact ⟨x, y, rfl, hxy, h⟩
      rw [show List.replicate es.length (D.bl true) = es.map fun _ => D.bl true from List.map_const'.symm, yes_b]
      simp only []
      rw [show (es.map fun _ => true).all id = true by simp]
      exact hq
    | int i =>
      cases hs
      walk_at "d"
      exact hq
    | bl b =>
      cases hs
      walk_at "d"
      exact hq
    | str x =>
      obtain ⟨rfl, hs⟩ := hs
      walk_at "d"
      rw [if_pos (by simp)]
      refine ⟨hs, hs, ?_⟩
      rw [SeqAt.eqv_refl _ (shp1 hs)]
      exact hq
    | non =>
      cases hs
      walk_at "d"
      rw [if_pos (by simp)]
      refine ⟨rfl, rfl, ?_⟩
      rw [SeqAt.eqv_refl _ rfl]
      exact hq
    | _ => exact hs.elim
theorem ok__law_same3 (T : Top K mg) : Sg P w K mg base "_law_same" 4 2 FG__law_same3 [] := ok__law_same T 3
end

end My

namespace My
open PySem PySem.Spec L2 DL
theorem sc_Filter___bool__ : FnScope ["self"] ["self"] (defScope (inClass (top 22) 4)) := ⟨rfl, rfl, rfl, by decide +kernel, rfl, by decide +kernel, by decide +kernel⟩
section
variable {P : Program} {w : World} {K : PySem.W.Frag} {mg : Str → Option Value} {base : Heap}
theorem ok_Filter___bool__ (T : Top K mg) : Mg P w K mg base "Filter" "__bool__" 1 1 F_Filter___bool__ [] := by
  obtain ⟨fd, FD⟩ := T.d_Filter___bool__
  refine ⟨T.cl_Filter, _, fd, ["self"], [], [], ?_, T.m_Filter___bool__, FD.bindsN (fun _ _ _ _ _ _ us hl => match us, hl with | [_], _ => rfl), .nil, fun _ => .nil⟩
  refine ok_def FD sc_Filter___bool__ rfl ?_
  rintro X E W ds n q xx ⟨cdv, A, outer, s, H, rfl⟩ hr tk pso hl hF
  have hu := hr.units
  have hu1 := hu_of hr
  refine ⟨_, (pss_oneD (ps_retD (pd_callTy call_boolL dcall_boolL (by rfl) T.f_bool (by decide +kernel) (pab_cons (PD.pb (pd_fld ["Filter"] T.fld_Filter_kept (pb_var 0))) pab_nil)))), ?_⟩
  clear hr tk pso hl hu hu1
  obtain ⟨p, ts, rfl, hq⟩ := hF
  walk_at "d"
  rw [List.isEmpty_map]
  exact hq
end

end My

namespace My
open PySem PySem.Spec L2 DL
theorem sc_Filter___getitem__ : FnScope ["self", "offset"] ["self", "offset"] (defScope (inClass (top 22) 2)) := ⟨rfl, rfl, rfl, by decide +kernel, rfl, by decide +kernel, by decide +kernel⟩
section
variable {P : Program} {w : World} {K : PySem.W.Frag} {mg : Str → Option Value} {base : Heap}
theorem ok_Filter___getitem__ (T : Top K mg) : Mg P w K mg base "Filter" "__getitem__" 1 2 F_Filter___getitem__ [] := by
  obtain ⟨fd, FD⟩ := T.d_Filter___getitem__
  refine ⟨T.cl_Filter, _, fd, ["self", "offset"], [], [], ?_, T.m_Filter___getitem__, FD.bindsN (fun _ _ _ _ _ _ us hl => match us, hl with | [_, _], _ => rfl), .nil, fun _ => .nil⟩
  refine ok_def FD sc_Filter___getitem__ rfl ?_
  rintro X E W ds n q xx ⟨cdv, A, outer, s, H, rfl⟩ hr tk pso hl hF
  have hu := hr.units
  have hu1 := hu_of hr
  refine ⟨_, (pss_oneD (ps_retD (pd_get2 hu1 (PD.pb (pd_fld ["Filter"] T.fld_Filter_held (pb_var 0))) (pb_var 1) pd_int))), ?_⟩
  clear hr tk pso hl hu hu1
  obtain ⟨p, ts, k, rfl, hq⟩ := hF
  walk_at "d"
  exact hq
end

end My

namespace My
open PySem PySem.Spec L2 DL
theorem sc_Filter_high : FnScope ["self"] ["self"] (defScope (inClass (top 22) 9)) := ⟨rfl, rfl, rfl, by decide +kernel, rfl, by decide +kernel, by decide +kernel⟩
section
variable {P : Program} {w : World} {K : PySem.W.Frag} {mg : Str → Option Value} {base : Heap}
theorem ok_Filter_high (T : Top K mg) : Mg P w K mg base "Filter" "high" 1 1 F_Filter_high [] := by
  obtain ⟨fd, FD⟩ := T.d_Filter_high
  refine ⟨T.cl_Filter, _, fd, ["self"], [], [], ?_, T.m_Filter_high, FD.bindsN (fun _ _ _ _ _ _ us hl => match us, hl with | [_], _ => rfl), .nil, fun _ => .nil⟩
  refine ok_def FD sc_Filter_high rfl ?_
  rintro X E W ds n q xx ⟨cdv, A, outer, s, H, rfl⟩ hr tk pso hl hF
  have hu := hr.units
  have hu1 := hu_of hr
  refine ⟨_, (pss_oneD (ps_retD (pd_if (pt_truD (PD.pb (pd_fld ["Filter"] T.fld_Filter_kept (pb_var 0)))) (pd_ix (PD.pb (pd_ix (PD.pb (pd_fld ["Filter"] T.fld_Filter_kept (pb_var 0))) (PD.pb (pd_neg (PD.pb pd_int))))) (PD.pb pd_int)) pd_non))), ?_⟩
  clear hr tk pso hl hu hu1
  obtain ⟨p, ts, rfl, hq⟩ := hF
  walk_at "d"
  cases e : ts.getLast? with
  | none =>
    obtain rfl := List.getLast?_eq_none_iff.mp e
    exact hq
  | some t =>
    rw [e] at hq
    have e2 : (ts.map trm).getLast? = some (trm t) := by rw [List.getLast?_map, e]; rfl
    have e3 : (ts.map trm).isEmpty = false := by cases ts with | nil => cases e | cons _ _ => rfl
    rw [atLast e2, e3]
    exact hq
end

end My

namespace My
open PySem PySem.Spec L2 DL
theorem sc_Filter_low : FnScope ["self"] ["self"] (defScope (inClass (top 22) 8)) := ⟨rfl, rfl, rfl, by decide +kernel, rfl, by decide +kernel, by decide +kernel⟩
section
variable {P : Program} {w : World} {K : PySem.W.Frag} {mg : Str → Option Value} {base : Heap}
theorem ok_Filter_low (T : Top K mg) : Mg P w K mg base "Filter" "low" 1 1 F_Filter_low [] := by
  obtain ⟨fd, FD⟩ := T.d_Filter_low
  refine ⟨T.cl_Filter, _, fd, ["self"], [], [], ?_, T.m_Filter_low, FD.bindsN (fun _ _ _ _ _ _ us hl => match us, hl with | [_], _ => rfl), .nil, fun _ => .nil⟩
  refine ok_def FD sc_Filter_low rfl ?_
  rintro X E W ds n q xx ⟨cdv, A, outer, s, H, rfl⟩ hr tk pso hl hF
  have hu := hr.units
  have hu1 := hu_of hr
  refine ⟨_, (pss_oneD (ps_retD (pd_if (pt_truD (PD.pb (pd_fld ["Filter"] T.fld_Filter_kept (pb_var 0)))) (pd_ix (PD.pb (pd_ix (PD.pb (pd_fld ["Filter"] T.fld_Filter_kept (pb_var 0))) (PD.pb pd_int))) (PD.pb pd_int)) pd_non))), ?_⟩
  clear hr tk pso hl hu hu1
  obtain ⟨p, ts, rfl, hq⟩ := hF
  walk_at "d"
  cases ts with
  | nil => exact hq
  | cons t ts =>
    rw [List.map_cons, at0]
    exact hq
end

end My

namespace My
open PySem PySem.Spec L2 DL
theorem sc_Filter_span : FnScope ["self"] ["self"] (defScope (inClass (top 22) 10)) := ⟨rfl, rfl, rfl, by decide +kernel, rfl, by decide +kernel, by decide +kernel⟩
section
variable {P : Program} {w : World} {K : PySem.W.Frag} {mg : Str → Option Value} {base : Heap}
theorem ok_Filter_span (T : Top K mg) : Mg P w K mg base "Filter" "span" 1 1 F_Filter_span [] := by
  obtain ⟨fd, FD⟩ := T.d_Filter_span
  refine ⟨T.cl_Filter, _, fd, ["self"], [], [], ?_, T.m_Filter_span, FD.bindsN (fun _ _ _ _ _ _ us hl => match us, hl with | [_], _ => rfl), .nil, fun _ => .nil⟩
  refine ok_def FD sc_Filter_span rfl ?_
  rintro X E W ds n q xx ⟨cdv, A, outer, s, H, rfl⟩ hr tk pso hl hF
  have hu := hr.units
  have hu1 := hu_of hr
  refine ⟨_, (pss_oneD (ps_retD (pd_if (pt_truD (PD.pb (pd_fld ["Filter"] T.fld_Filter_kept (pb_var 0)))) (pd_sub (PD.pb (pd_ix (PD.pb (pd_ix (PD.pb (pd_fld ["Filter"] T.fld_Filter_kept (pb_var 0))) (PD.pb (pd_neg (PD.pb pd_int))))) (PD.pb pd_int))) (PD.pb (pd_ix (PD.pb (pd_ix (PD.pb (pd_fld ["Filter"] T.fld_Filter_kept (pb_var 0))) (PD.pb pd_int))) (PD.pb pd_int)))) pd_non))), ?_⟩
  clear hr tk pso hl hu hu1
  obtain ⟨p, ts, rfl, hq⟩ := hF
  walk_at "d"
  cases e : ts.getLast? with
  | none =>
    obtain rfl := List.getLast?_eq_none_iff.mp e
    exact hq
  | some t =>
    rw [e] at hq
    have e2 : (ts.map trm).getLast? = some (trm t) := by rw [List.getLast?_map, e]; rfl
    have e3 : (ts.map trm).isEmpty = false := by cases ts with | nil => cases e | cons _ _ => rfl
    rw [atLast e2, e3]
    cases ts with
    | nil => cases e
    | cons a ts =>
      rw [List.map_cons, at0]
      exact hq
end

end My

namespace My
open PySem PySem.Spec L2 DL
theorem sc__law_pairs : FnScope ["_law_held_here", "_law_offset"] ["_law_held_here"] (defScope (top 29)) := ⟨rfl, rfl, rfl, by decide +kernel, rfl, by decide +kernel, by decide +kernel⟩
section
variable {P : Program} {w : World} {K : PySem.W.Frag} {mg : Str → Option Value} {base : Heap}
theorem ok__law_pairs (T : Top K mg) : Sg P w K mg base "_law_pairs" 1 1 F__law_pairs [] := by
  obtain ⟨fd, FD⟩ := T.d__law_pairs
  refine ⟨_, fd, ["_law_held_here"], [], [], ?_, T.g__law_pairs, FD.kp, FD.bindsN (fun _ _ _ _ _ _ us hl => match us, hl with | [_], _ => rfl), .nil, fun _ => .nil⟩
  refine ok_def FD sc__law_pairs rfl ?_
  rintro X E W ds n q xx ⟨cdv, A, outer, s, H, rfl⟩ hr tk pso hl hF
  have hu := hr.units
  have hu1 := hu_of hr
  refine ⟨_, (pss_oneD (ps_retD (PF.pd (pf_lc [("_law_offset", 1)] rfl sc__law_pairs.nd (pid_keys (pd_var 0)) (blkOk_by (own := [("_law_offset", 1)]) (N := ["_law_held_here", "_law_offset"]) (sc := defScope (top 29)) (by decide +kernel)) (fun _ _ _ _ _ => (pgd_name 1 sc__law_pairs.nd)) (fun _ _ _ _ _ => ptsD_nil) (fun _ _ _ _ _ => (pd_tup (pad_cons (pd_var 1) (pad_cons (pd_dg hu1 (pb_var 0) (pb_var 1)) pad_nil)))))))), ?_⟩
  clear hr tk pso hl hu hu1
  obtain ⟨ts, rfl, hn, hl2, hq⟩ := hF
  walk_at "d"
  refine lcD_map (pairF ts) _ _ _ (fun d hd K h => ?_) (by simp; omega) ?_
  · obtain ⟨k, hk, rfl⟩ := List.mem_map.mp hd
    walk_at "d"
    rw [get_kvp' hk]
    exact ⟨by decide, h⟩
  · rw [List.nil_append, pairF_eq hn]
    exact hq
end

end My

namespace My
open PySem PySem.Spec L2 DL
theorem sc__law_shows : FnScope ["_law_f", "_law_p", "_law_held_here", "_law_pairs_here", "_law_due", "_law_low", "_law_high", "_law_places", "_law_offset"] ["_law_f", "_law_p", "_law_held_here"] (defScope (top 33)) := ⟨rfl, rfl, rfl, by decide +kernel, rfl, by decide +kernel, by decide +kernel⟩
section
variable {P : Program} {w : World} {K : PySem.W.Frag} {mg : Str → Option Value} {base : Heap}
theorem ok__law_shows (T : Top K mg) : Sg P w K mg base "_law_shows" 5 3 F__law_shows [] := by
  obtain ⟨fd, FD⟩ := T.d__law_shows
  refine ⟨_, fd, ["_law_f", "_law_p", "_law_held_here"], [], [], ?_, T.g__law_shows, FD.kp, FD.bindsN (fun _ _ _ _ _ _ us hl => match us, hl with | [_, _, _], _ => rfl), .nil, fun _ => .nil⟩
  refine ok_def FD sc__law_shows rfl ?_
  rintro X E W ds n q xx ⟨cdv, A, outer, s, H, rfl⟩ hr tk pso hl hF
  have hu := hr.units
  have hu1 := hu_of hr
  refine ⟨_, (pss_consD (ps_setD 3 (pd_call (ok__law_pairs T) (hr.mono (by decide)) tk (by rfl) (pad_cons (pd_var 2) pad_nil)) sc__law_shows.nd)
      (pss_consD (ps_ifD (ptd_not (pt_valD (PD.pb (pd_call (ok__law_same3 T) (hr.mono (by decide)) tk (by rfl) (pad_cons (PF.pd (pf_lst (pad_cons (pd_fld ["Filter"] T.fld_Filter_prime (pb_var 0)) (pad_cons (PF.pd (pf_meth0 (ok_Filter_terms T) (hr.mono (by decide)) tk (pd_var 0))) pad_nil)))) (pad_cons (PF.pd (pf_lst (pad_cons (pd_var 1) (pad_cons (pd_var 3) pad_nil)))) pad_nil)))))) (pss_oneD (ps_retD pd_bl)) pss_nilD)
      (pss_consD (ps_setD 4 (PF.pd (pf_lst (pad_cons pd_non (pad_cons pd_non (pad_cons pd_non pad_nil))))) sc__law_shows.nd)
      (pss_consD (ps_ifD (pt_ne hu (pb_var 3) (PD.pb (PF.pd (pf_lst pad_nil)))) (pss_consD (ps_parD 5 6 rfl sc__law_shows.nd (pad_cons (pd_ix (PD.pb (pd_ix (pb_var 3) (PD.pb pd_int))) (PD.pb pd_int)) (pad_cons (pd_ix (PD.pb (pd_ix (pb_var 3) (PD.pb (pd_neg (PD.pb pd_int))))) (PD.pb pd_int)) pad_nil)))
      (pss_oneD (ps_setD 4 (PF.pd (pf_lst (pad_cons (pd_var 5) (pad_cons (pd_var 6) (pad_cons (pd_sub (pb_var 6) (pb_var 5)) pad_nil))))) sc__law_shows.nd))) pss_nilD)
      (pss_consD (ps_ifD (ptd_not (pt_valD (PD.pb (pd_call (ok__law_same3 T) (hr.mono (by decide)) tk (by rfl) (pad_cons (PF.pd (pf_lst (pad_cons (pd_meth0 (ok_Filter_low T) (hr.mono (by decide)) tk (pd_var 0)) (pad_cons (pd_meth0 (ok_Filter_high T) (hr.mono (by decide)) tk (pd_var 0)) (pad_cons (pd_meth0 (ok_Filter_span T) (hr.mono (by decide)) tk (pd_var 0)) (pad_cons (pd_boolO (ok_Filter___bool__ T) (hr.mono (by decide)) tk (pad_cons (pd_var 0) pad_nil) (by rfl) T.f_bool) pad_nil)))))) (pad_cons (pd_add (pb_var 4) (PD.pb (PF.pd (pf_lst (pad_cons (pd_ne hu (pb_var 3) (PD.pb (PF.pd (pf_lst pad_nil)))) pad_nil))))) pad_nil)))))) (pss_oneD (ps_retD pd_bl)) pss_nilD)
      (pss_consD (ps_setD 7 (pd_add (PD.pb (PF.pd (pf_lc [("_law_offset", 8)] rfl sc__law_shows.nd (pid_keys (pd_var 2)) (blkOk_by (own := [("_law_offset", 8)]) (N := ["_law_f", "_law_p", "_law_held_here", "_law_pairs_here", "_law_due", "_law_low", "_law_high", "_law_places", "_law_offset"]) (sc := defScope (top 33)) (by decide +kernel)) (fun _ _ _ _ _ => (pgd_name 8 sc__law_shows.nd)) (fun _ _ _ _ _ => ptsD_nil) (fun _ _ _ _ _ => (pd_var 8))))) (PD.pb (PF.pd (pf_lst (pad_cons pd_int (pad_cons pd_int (pad_cons (pd_neg (PD.pb pd_int)) (pad_cons pd_int (pad_cons (pd_neg (PD.pb pd_int)) (pad_cons (pd_pow (PD.pb pd_int) (PD.pb pd_int)) (pad_cons (pd_sub (PD.pb (pd_pow (PD.pb pd_int) (PD.pb pd_int))) (PD.pb pd_int)) (pad_cons (pd_sub (PD.pb pd_int) (PD.pb (pd_pow (PD.pb pd_int) (PD.pb pd_int)))) pad_nil)))))))))))) sc__law_shows.nd)
      (pss_oneD (ps_retD (pd_callB (cr_all rfl) dcall_all (by rfl) T.f_all (by decide +kernel) (pab_cons (PD.pb (PF.pd (pf_lc [("_law_offset", 8)] rfl sc__law_shows.nd (pid_seq (pd_var 7)) (blkOk_by (own := [("_law_offset", 8)]) (N := ["_law_f", "_law_p", "_law_held_here", "_law_pairs_here", "_law_due", "_law_low", "_law_high", "_law_places", "_law_offset"]) (sc := defScope (top 33)) (by decide +kernel)) (fun _ _ _ _ _ => (pgd_name 8 sc__law_shows.nd)) (fun _ _ _ _ _ => ptsD_nil) (fun _ _ _ _ _ => (pd_call (ok__law_same3 T) (hr.mono (by decide)) DL.takes0 (by rfl) (pad_cons (pd_getO T.get_Filter (ok_Filter___getitem__ T) (hr.mono (by decide)) DL.takes0 (pd_var 0) (pd_var 8)) (pad_cons (pd_get2 hu1 (pb_var 2) (pb_var 8) pd_int) pad_nil))))))) pab_nil)))))))))), ?_⟩
  clear hr tk pso hl hu hu1
  obtain ⟨p, x, rfl, hp, hx, hq⟩ := hF
  have hp0 := isPr_pos hp
  have hnd : ((can x).map (·.1)).Nodup := by rw [← lp_can hp0.1 x, can_lp hp0.1]; exact canon_nodup p _
  obtain ⟨ts, hts⟩ : ∃ ts, ts = can x := ⟨_, rfl⟩
  have hlen : ts.length < 1000 := by rw [hts]; exact hx
  refine dSeq_at fun R1 hR1 => ?_
  walk_at "d"
  refine ⟨_, rfl, hnd, by have : (can x).length < 1000 := hx; omega, ?_⟩
  rw [← hts] at hnd ⊢
  subst hR1
  refine dSeq_at fun R1 hR1 => ?_
  walk_at "d"
  refine ⟨p, ts, rfl, ?_⟩
  have sml : sm 3 (D.lst [D.int p, D.lst (ts.map trm)]) (D.lst [D.int p, D.lst (ts.map trm)]) := pl_sm 3 _ ⟨by show 2 < 10000000; decide, fun d hd => by
    simp only [List.mem_cons, List.not_mem_nil, or_false] at hd
    rcases hd with rfl | rfl
    · exact trivial
    · exact ⟨by rw [List.length_map]; omega, fun e he => by
        obtain ⟨t, _, rfl⟩ := List.mem_map.mp he
        exact ⟨by show 2 < 10000000; decide, fun a ha => by
          simp only [List.mem_cons, List.not_mem_nil, or_false] at ha
          rcases ha with rfl | rfl <;> exact trivial⟩⟩⟩
  refine ⟨by decide, by decide, _, _, rfl, sml, ?_⟩
  walk_at "d"
  subst hR1
  refine dSeq_at fun R1 hR1 => ?_
  walk_at "d"
  refine ⟨by decide, ?_⟩
  subst hR1
  refine dSeq_at fun R1 hR1 => ?_
  walk_at "d"
  refine ⟨by decide, sh_trms _, rfl, ?_⟩
  rw [show (pyD (D.lst (ts.map trm))).eqv (pyD (D.lst [])) = decide (ts = []) from eqv_trms ts []]
  have go : ∀ (l h s : D) (y5 y6 : Option Sl), l = oi (ts.head?.map (·.1)) → h = oi (ts.getLast?.map (·.1)) → s = oi (ts.getLast?.bind fun b => ts.head?.map fun a => b.1 - a.1) → R1 [some (Sl.val (D.obj (Str.ofString "Filter") (flt p ts))), some (Sl.val (D.int p)), some (Sl.val (D.dct (List.map kvp ts))), some (Sl.val (D.lst (List.map trm ts))), some (Sl.val (D.lst [l, h, s])), y5, y6, none, none] n := by
    intro l h s y5 y6 hl hh hs
    subst hR1
    refine dSeq_at fun R1 hR1 => ?_
    walk_at "d"
    refine ⟨rfl, p, ts, rfl, rfl, p, ts, rfl, rfl, p, ts, rfl, ⟨_, rfl, p, ts, rfl, ?_⟩⟩
    dsimp only
    refine ⟨by decide, by decide, sh_trms _, rfl, by decide, by decide, ?_⟩
    have ee : (!(pyD (D.lst (List.map trm ts))).eqv (pyD (D.lst []))) = !ts.isEmpty := by
      rw [show (pyD (D.lst (ts.map trm))).eqv (pyD (D.lst [])) = decide (ts = []) from eqv_trms ts []]
      cases ts <;> rfl
    rw [ee, ← hl, ← hh, ← hs]
    have oiS : ∀ (o : Option Int) (k : Nat), sm k (oi o) (oi o) := fun o k => by
      cases o with
      | none => cases k with
        | zero => exact ⟨rfl, trivial⟩
        | succ k => show D.non = D.non; rfl
      | some i => cases k with
        | zero => exact ⟨rfl, trivial⟩
        | succ k => show D.int i = D.int i; rfl
    refine ⟨_, _, rfl, ⟨_, .inl rfl, rfl, by show 4 < 10000000; decide, fun i x y h1 h2 => ?_⟩, ?_⟩
    · rw [h1] at h2
      cases h2
      have hx : x ∈ [l, h, s, D.bl !ts.isEmpty] := List.mem_of_getElem? h1
      simp only [List.mem_cons, List.not_mem_nil, or_false] at hx
      rcases hx with rfl | rfl | rfl | rfl
      · rw [hl]; exact oiS _ _
      · rw [hh]; exact oiS _ _
      · rw [hs]; exact oiS _ _
      · show D.bl _ = D.bl _; rfl
    walk_at "d"
    subst hR1
    refine dSeq_at fun R1 hR1 => ?_
    walk_at "d"
    refine lcD_all D.int D.int _ _ (fun k hk K h => ?_) (by rw [List.length_map]; omega) ?_
    · walk_at "d"
      exact h
    refine ⟨⟨by decide, by decide, by decide⟩, ⟨by decide, by decide, by decide⟩, ⟨by decide, by decide, by decide⟩, by decide, by simp only [List.length_map]; omega, ?_⟩
    obtain ⟨ks, hks, lks⟩ : ∃ ks : List Int, (ts.map (·.1)).map D.int ++ [D.int 0, D.int 1, D.int (-1), D.int 12, D.int (-13), D.int (10 ^ Int.toNat 30), D.int (10 ^ Int.toNat 30 - 1), D.int (0 - 10 ^ Int.toNat 30)] = ks.map D.int ∧ ks.length < 10000 :=
      ⟨ts.map (·.1) ++ [0, 1, -1, 12, -13, 10 ^ Int.toNat 30, 10 ^ Int.toNat 30 - 1, 0 - 10 ^ Int.toNat 30], by rw [List.map_append]; rfl, by rw [List.length_append, List.length_map]; show ts.length + 8 < 10000; omega⟩
    rw [hks]
    subst hR1
    walk_at "d"
    refine lcD_all D.int (fun _ => D.bl true) _ _ (fun k hk K h => ?_) (by omega) ?_
    · walk_at "d"
      refine ⟨⟨_, rfl⟩, p, ts, k, rfl, ?_⟩
      refine ⟨_, _, rfl, rfl, ?_⟩
      exact h
    rw [show (ks.map fun _ => D.bl true) = (ks.map fun _ => D.bl true) from rfl]
    have eb : ∀ L : List Int, boolsD (L.map fun _ => D.bl true) = some (L.map fun _ => true) := fun L => by
      induction L with
      | nil => rfl
      | cons k L ih =>
        rw [List.map_cons, List.map_cons]
        unfold boolsD
        rw [ih]
        rfl
    rw [eb]
    dsimp only
    rw [show (ks.map fun _ => true).all id = true by simp]
    exact hq
  cases ts with
  | nil =>
    rw [if_neg (by simp)]
    exact go _ _ _ _ _ rfl rfl rfl
  | cons t us =>
    rw [if_pos (by simp)]
    obtain ⟨z, hz⟩ : ∃ z, (t :: us).getLast? = some z := ⟨_, List.getLast?_eq_some_getLast (by simp)⟩
    have e1 : atI ((t :: us).map trm) (-1) = some (trm z) := atLast (by rw [List.getLast?_map, hz]; rfl)
    rw [e1, List.map_cons, at0]
    walk_at "d"
    refine ⟨by decide, ?_⟩
    have := go (.int t.1) (.int z.1) (.int (z.1 - t.1)) (some (.val (.int t.1))) (some (.val (.int z.1))) rfl (by rw [hz]; rfl) (by rw [hz]; rfl)
    exact this
end

end My

namespace My
open PySem PySem.Spec L2 DL
theorem sc__law_terms : FnScope ["_law_spring_here", "_law_most", "_law_found", "_law_k", "_law_offset", "_law_coefficient"] ["_law_spring_here", "_law_most"] (defScope (top 32)) := ⟨rfl, rfl, rfl, by decide +kernel, rfl, by decide +kernel, by decide +kernel⟩
section
variable {P : Program} {w : World} {K : PySem.W.Frag} {mg : Str → Option Value} {base : Heap}
theorem ok__law_terms (T : Top K mg) : Sg P w K mg base "_law_terms" 3 2 F__law_terms [] := by
  obtain ⟨fd, FD⟩ := T.d__law_terms
  refine ⟨_, fd, ["_law_spring_here", "_law_most"], [], [], ?_, T.g__law_terms, FD.kp, FD.bindsN (fun _ _ _ _ _ _ us hl => match us, hl with | [_, _], _ => rfl), .nil, fun _ => .nil⟩
  refine ok_def FD sc__law_terms rfl ?_
  rintro X E W ds n q xx ⟨cdv, A, outer, s, H, rfl⟩ hr tk pso hl hF
  have hu := hr.units
  have hu1 := hu_of hr
  refine ⟨_, (pss_consD (ps_ownD 2 (pf_lst pad_nil) sc__law_terms.nd)
      (pss_consD (ps_forD pso rfl (pid_r1 (by rfl) T.f_range (pab_cons (PD.pb (pd_call (ok__law_draw T) (hr.mono (by decide)) tk (by rfl) (pad_cons (pd_var 0) (pad_cons (pd_add (pb_var 1) (PD.pb pd_int)) pad_nil)))) pab_nil)) (pgd_name 3 sc__law_terms.nd) (pss_consD (ps_setD 4 (pd_sub (PD.pb (pd_call (ok__law_draw T) (hr.mono (by decide)) tk (by rfl) (pad_cons (pd_var 0) (pad_cons pd_int pad_nil)))) (PD.pb pd_int)) sc__law_terms.nd)
      (pss_consD (ps_ifD (pt_eq hu (PD.pb (pd_call (ok__law_draw T) (hr.mono (by decide)) tk (by rfl) (pad_cons (pd_var 0) (pad_cons pd_int pad_nil)))) (PD.pb pd_int)) (pss_oneD (ps_setD 4 (pd_call (ok__law_pick T) (hr.mono (by decide)) tk (by rfl) (pad_cons (pd_var 0) (pad_cons (PF.pd (pf_lst (pad_cons (pd_pow (PD.pb pd_int) (PD.pb pd_int)) (pad_cons (pd_sub (PD.pb pd_int) (PD.pb (pd_pow (PD.pb pd_int) (PD.pb pd_int)))) (pad_cons (pd_add (PD.pb (pd_pow (PD.pb pd_int) (PD.pb pd_int))) (PD.pb pd_int)) (pad_cons (pd_sub (PD.pb pd_int) (PD.pb (pd_pow (PD.pb pd_int) (PD.pb pd_int)))) (pad_cons pd_int (pad_cons pd_int (pad_cons pd_int pad_nil))))))))) pad_nil))) sc__law_terms.nd)) pss_nilD)
      (pss_consD (ps_setD 5 (pd_sub (PD.pb (pd_call (ok__law_draw T) (hr.mono (by decide)) tk (by rfl) (pad_cons (pd_var 0) (pad_cons pd_int pad_nil)))) (PD.pb pd_int)) sc__law_terms.nd)
      (pss_consD (ps_ifD (pt_eq hu (PD.pb (pd_call (ok__law_draw T) (hr.mono (by decide)) tk (by rfl) (pad_cons (pd_var 0) (pad_cons pd_int pad_nil)))) (PD.pb pd_int)) (pss_oneD (ps_setD 5 (pd_call (ok__law_pick T) (hr.mono (by decide)) tk (by rfl) (pad_cons (pd_var 0) (pad_cons (PF.pd (pf_lst (pad_cons (pd_sub (PD.pb (pd_pow (PD.pb pd_int) (PD.pb pd_int))) (PD.pb pd_int)) (pad_cons (pd_sub (PD.pb pd_int) (PD.pb (pd_pow (PD.pb pd_int) (PD.pb pd_int)))) (pad_cons pd_int (pad_cons pd_int (pad_cons (pd_sub (PD.pb pd_int) (PD.pb pd_int)) pad_nil))))))) pad_nil))) sc__law_terms.nd)) pss_nilD)
      (pss_oneD (ps_appD 2 (pd_tup (pad_cons (pd_var 4) (pad_cons (pd_var 5) pad_nil))))))))))
      (pss_frz 2 (pss_oneD (ps_retD (pd_var 2)))))), ?_⟩
  clear hr tk pso hl hu hu1
  obtain ⟨s0, most, rfl, hW, hm, hn, hq⟩ := hF
  walk_at "d"
  refine ⟨by decide, hW, by omega, by omega, by omega, fun k hk => ?_⟩
  walk_at "d"
  refine ⟨⟨by omega, by omega⟩, ?_⟩
  refine forD_ind (fun ρ n' j => ∃ (ts : Tm) (a b c : Option Sl), ρ = [some (.val (.hnd s0)), some (.val (.int (most : Int))), some (.own (.lst (ts.map trm))), a, b, c] ∧ n' + 6 * j ≤ n + 1 + 6 * most ∧ ts.length + j ≤ most) (fun ρ n' j d R hI hR => ?_) (fun ρ n' hI => ?_) _ _ _ ⟨[], _, _, _, rfl, by rw [rng_len]; omega, by rw [rng_len, List.length_nil]; omega⟩
  · obtain ⟨ts, y1, y2, y3, rfl, h1, h2⟩ := hI
    simp only [gN]
    refine sq2 fun R1 hR1 => ?_
    have fin : ∀ (o c : Int) (n2 : Nat) (w1 w2 w3 : Option Sl), n2 ≤ n' + 6 → R [some (.val (.hnd s0)), some (.val (.int (most : Int))), some (.own (.lst (ts.map trm ++ [D.tup [D.int o, D.int c]]))), w1, w2, w3] n2 := fun o c n2 w1 w2 w3 h => by
      rw [show ts.map trm ++ [D.tup [D.int o, D.int c]] = (ts ++ [(o, c)]).map trm by rw [List.map_append]; rfl]
      exact hR _ _ ⟨_, _, _, _, rfl, by omega, by rw [List.length_append, List.length_singleton]; omega⟩
    have go : ∀ (o : Int) (n2 : Nat) (y : Option Sl), n2 ≤ n' + 3 → R1 [some (.val (.hnd s0)), some (.val (.int (most : Int))), some (.own (.lst (ts.map trm))), some (.val d), some (.val (.int o)), y] n2 := by
      intro o n2 y hn2
      subst hR1
      walk_at "d"
      refine ⟨hW, by decide, by decide, by omega, fun i hi => ?_⟩
      refine ⟨hW, by decide, by decide, by omega, fun m hm => ?_⟩
      dsimp only
      refine ⟨rfl, ?_⟩
      rw [eqv_int]
      by_cases e : (m : Int) = 0
      · rw [decide_eq_true e, if_pos rfl]
        refine ⟨⟨by decide, by decide, by decide⟩, ⟨by decide, by decide, by decide⟩, by decide, ?_⟩
        refine ⟨hW, by show 0 < 5; decide, by show 5 < 1000000; decide, by omega, fun d2 hd2 => ?_⟩
        obtain ⟨c, rfl⟩ : ∃ c, d2 = D.int c := by
          simp only [List.mem_cons, List.not_mem_nil, or_false] at hd2
          rcases hd2 with rfl | rfl | rfl | rfl | rfl <;> exact ⟨_, rfl⟩
        exact ⟨by decide, by omega, fin _ _ _ _ _ _ (by omega)⟩
      · rw [decide_eq_false e, if_neg (by decide)]
        exact ⟨by decide, by omega, fin _ _ _ _ _ _ (by omega)⟩
    walk_at "d"
    refine ⟨hW, by decide, by decide, by omega, fun i hi => ?_⟩
    refine ⟨hW, by decide, by decide, by omega, fun m hm => ?_⟩
    refine ⟨rfl, ?_⟩
    rw [eqv_int]
    by_cases e : (m : Int) = 0
    · rw [decide_eq_true e, if_pos rfl]
      refine ⟨⟨by decide, by decide, by decide⟩, ⟨by decide, by decide, by decide⟩, ⟨by decide, by decide, by decide⟩, ⟨by decide, by decide, by decide⟩, by decide, ?_⟩
      refine ⟨hW, by show 0 < 7; decide, by show 7 < 1000000; decide, by omega, fun d2 hd2 => ?_⟩
      obtain ⟨c, rfl⟩ : ∃ c, d2 = D.int c := by
        simp only [List.mem_cons, List.not_mem_nil, or_false] at hd2
        rcases hd2 with rfl | rfl | rfl | rfl | rfl | rfl | rfl <;> exact ⟨_, rfl⟩
      exact go _ _ _ (by omega)
    · rw [decide_eq_false e, if_neg (by decide)]
      exact go _ _ _ (by omega)
  · obtain ⟨ts, y1, y2, y3, rfl, h1, h2⟩ := hI
    walk_at "d"
    exact hq ts _ (by omega) (by omega)
end

end My

namespace My
open PySem PySem.Spec L2 DL
theorem sc__law_told_otherwise : FnScope ["_law_spring_here", "_law_p", "_law_rows", "_law_found", "_law_offset", "_law_coefficient", "_law_part"] ["_law_spring_here", "_law_p", "_law_rows"] (defScope (top 34)) := ⟨rfl, rfl, rfl, by decide +kernel, rfl, by decide +kernel, by decide +kernel⟩
section
variable {P : Program} {w : World} {K : PySem.W.Frag} {mg : Str → Option Value} {base : Heap}
theorem ok__law_told_otherwise (T : Top K mg) : Sg P w K mg base "_law_told_otherwise" 2 3 F__law_told_otherwise [] := by
  obtain ⟨fd, FD⟩ := T.d__law_told_otherwise
  refine ⟨_, fd, ["_law_spring_here", "_law_p", "_law_rows"], [], [], ?_, T.g__law_told_otherwise, FD.kp, FD.bindsN (fun _ _ _ _ _ _ us hl => match us, hl with | [_, _, _], _ => rfl), .nil, fun _ => .nil⟩
  refine ok_def FD sc__law_told_otherwise rfl ?_
  rintro X E W ds n q xx ⟨cdv, A, outer, s, H, rfl⟩ hr tk pso hl hF
  have hu := hr.units
  have hu1 := hu_of hr
  refine ⟨_, (pss_consD (ps_ownD 3 (pf_lst pad_nil) sc__law_told_otherwise.nd)
      (pss_consD (ps_forD pso rfl (pid_seq (pd_rev (pb_var 2))) (pgd_tup (m := 2) rfl (pgsd_cons (pgd_name 4 sc__law_told_otherwise.nd) (pgsd_cons (pgd_name 5 sc__law_told_otherwise.nd) pgsd_nil))) (pss_consD (ps_setD 6 (pd_call (ok__law_draw T) (hr.mono (by decide)) tk (by rfl) (pad_cons (pd_var 0) (pad_cons pd_int pad_nil))) sc__law_told_otherwise.nd)
      (pss_consD (ps_appD 3 (pd_tup (pad_cons (pd_var 4) (pad_cons (pd_sub (PD.pb (pd_add (pb_var 5) (PD.pb (pd_mul (pb_var 1) (PD.pb (pd_sub (PD.pb (pd_call (ok__law_draw T) (hr.mono (by decide)) tk (by rfl) (pad_cons (pd_var 0) (pad_cons pd_int pad_nil)))) (PD.pb pd_int))))))) (pb_var 6)) pad_nil))))
      (pss_oneD (ps_insD 3 (pd_call (ok__law_draw T) (hr.mono (by decide)) tk (by rfl) (pad_cons (pd_var 0) (pad_cons (pd_add (PD.pb (pd_callB call_lenD2 dcall_len (by rfl) T.f_len (by decide +kernel) (pab_cons (pb_var 3) pab_nil))) (PD.pb pd_int)) pad_nil))) (pd_tup (pad_cons (pd_var 4) (pad_cons (pd_var 6) pad_nil))))))))
      (pss_frz 3 (pss_oneD (ps_retD (pd_var 3)))))), ?_⟩
  clear hr tk pso hl hu hu1
  obtain ⟨s0, p, ts, rfl, hW, hp, hl, hn, hq⟩ := hF
  walk_at "d"
  refine ⟨by decide, ?_⟩
  rw [← List.map_reverse]
  refine forD_pre ts.reverse (fun pre ρ n' => ∃ (us : Tm) (a b c : Option Sl), ρ = [some (.val (.hnd s0)), some (.val (.int p)), some (.val (.lst (ts.map trm))), some (.own (.lst (us.map trm))), a, b, c] ∧ n' ≤ n + 10 * pre.length ∧ us.length = 2 * pre.length ∧ lp p us = lp p pre) (fun pre t post e ρ n' R hI hR => ?_) (fun ρ n' hI => ?_) ⟨[], _, _, _, rfl, by simp, by simp, rfl⟩
  · obtain ⟨us, y1, y2, y3, rfl, h1, h2, h3⟩ := hI
    have hpl : pre.length < ts.length := by have := congrArg List.length e; rw [List.length_reverse] at this; simp at this; omega
    walk_at "d"
    refine ⟨hW, by decide, by decide, by omega, fun m hm => ?_⟩
    refine ⟨hW, by decide, by decide, by omega, fun k hk => ?_⟩
    dsimp only
    refine ⟨?_, by decide, by omega, hW, by omega, by simp; omega, by omega, fun z hz => ?_⟩
    · first
      | exact .inl (.inl ⟨by omega, by omega⟩)
      | exact .inl (.inr ⟨by omega, by omega⟩)
      | exact .inr (by constructor <;> omega)
    obtain ⟨vs, hvs⟩ : ∃ vs, vs = us ++ [(t.1, t.2 + p * ((k : Int) - 2) - (m : Int))] := ⟨_, rfl⟩
    have ev : us.map trm ++ [D.tup [D.int t.1, D.int (t.2 + p * ((k : Int) - 2) - (m : Int))]] = vs.map trm := by rw [hvs, List.map_append]; rfl
    rw [ev] at hz ⊢
    have lv : vs.length = us.length + 1 := by rw [hvs, List.length_append, List.length_singleton]
    rw [List.length_map] at hz ⊢
    refine ⟨by decide, by omega, by omega, by omega, ?_⟩
    rw [show ((z : Int)).toNat = z from Int.toNat_natCast z, ← List.map_take, ← List.map_drop, show [D.tup [D.int t.1, D.int (m : Int)]] = [(t.1, (m : Int))].map trm from rfl, ← List.map_append, ← List.map_append]
    refine hR _ _ ⟨_, _, _, _, rfl, by rw [List.length_append, List.length_singleton]; omega, by simp only [List.length_append, List.length_take, List.length_drop, List.length_singleton]; omega, ?_⟩
    rw [← lp_add, ← lp_add, ← lp_add, ← h3]
    have e2 : lp p (vs.take z) + lp p (vs.drop z) = lp p us + mono p t.1 (t.2 + p * ((k : Int) - 2) - (m : Int)) := by
      rw [lp_add, List.take_append_drop, hvs, ← lp_add]
      rfl
    have e3 : mono p t.1 (t.2 + p * ((k : Int) - 2) - (m : Int)) + mono p t.1 (m : Int) = mono p t.1 t.2 := by
      rw [mono_add, ← mono_mod, show (t.2 + p * ((k : Int) - 2) - (m : Int) + (m : Int)) % p = t.2 % p by rw [show t.2 + p * ((k : Int) - 2) - (m : Int) + (m : Int) = t.2 + p * ((k : Int) - 2) by omega, Int.add_mul_emod_self_left], mono_mod]
    show lp p (vs.take z) + mono p t.1 (m : Int) + lp p (vs.drop z) = lp p us + mono p t.1 t.2
    rw [← e3]
    grind
  · obtain ⟨us, y1, y2, y3, rfl, h1, h2, h3⟩ := hI
    walk_at "d"
    refine hq us _ ?_ (by rw [h2, List.length_reverse]; omega) (by rw [List.length_reverse] at h1; exact h1)
    rw [h3]
    have rv : ∀ L : Tm, lp p L.reverse = lp p L := fun L => by
      induction L with
      | nil => rfl
      | cons t L ih =>
        rw [List.reverse_cons, ← lp_add, ih]
        show lp p L + mono p t.1 t.2 = mono p t.1 t.2 + lp p L
        grind
    exact rv ts
end

end My

namespace My
open PySem PySem.Spec L2 DL
theorem sc__law_spring : FnScope ["_law_script"] ["_law_script"] (defScope (top 24)) := ⟨rfl, rfl, rfl, by decide +kernel, rfl, by decide +kernel, by decide +kernel⟩
theorem sc_law : FnScope ["_law_script", "_law_spring_here", "_law_turn", "_law_p", "_law_rows", "_law_held_here", "_law_handed", "_law_row", "_law_f", "_law_told", "_law_twin", "_law_offset", "_law_more", "_law_strange", "_law_thing"] ["_law_script"] (defScope (top 35)) := ⟨rfl, rfl, rfl, by decide +kernel, rfl, by decide +kernel, by decide +kernel⟩
section
variable {P : Program} {w : World} {K : PySem.W.Frag} {mg : Str → Option Value} {base : Heap}


def spSpring (K : PySem.W.Frag) : Sp := fun vs H Q _ => ∃ (a : Addr) (ns : List Int), vs = [.ref a] ∧ SqL K H a (ns.map V.int) ∧ ns.length ≤ 63 ∧ ∀ c s0, H c = none → H s0 = none → s0 ≠ c → Q (.ref s0) (upd (upd H c (.lst (ns.map V.int))) s0 (.lst [.ref c, .int 0, .int 0, .int 7]))
theorem ok__law_spring (T : Top K mg) : ∃ fd, FnOk P w K mg base (L2.CX P w) 1 (ca K "_law_spring") fd ["_law_script"] (spSpring K) ∧ PySem.W.keepIn K (.ref (ca K "_law_spring")) = true ∧ Binds K fd ["_law_script"] [] := by
  obtain ⟨fd, FD⟩ := T.d__law_spring
  refine ⟨fd, ?_, FD.kp, FD.bindsN (fun _ _ _ _ _ _ us hl => match us, hl with | [_], _ => rfl)⟩
  refine FD.ok sc__law_spring (fun vs H Q E h => ?_) (fun cdv A outer sh H vs Q E hr h => ?_)
  · obtain ⟨a, ns, rfl, _⟩ := h
    rfl
  · obtain ⟨a, ns, rfl, hS, hl, hQ⟩ := h
    refine ⟨_, pss_one (ps_ret (pe_lst (pa_cons (pe_callTy call_list_of (by rfl) T.f_list (by decide +kernel) (pa_cons (pv 0) pa_nil)) (pa_cons pe_int (pa_cons pe_int (pa_cons pe_int pa_nil)))))), ?_⟩
    refine ⟨_, rfl, a, _, rfl, .inl hS, fun c nc => ?_⟩
    refine ⟨by show 4 ≤ sizeLine; decide, fun s0 ns0 => ?_⟩
    have ne : s0 ≠ c := fun z => by rw [z, upd_same] at ns0; cases ns0
    rw [upd_ne ne] at ns0
    exact hQ c s0 nc ns0 ne
def spLaw (K : PySem.W.Frag) : Sp := fun vs H Q _ => ∃ (a : Addr) (ns : List Int), vs = [.ref a] ∧ SqL K H a (ns.map V.int) ∧ ns.length ≤ 63 ∧ (∀ x ∈ tfn, H (He.cT K (x, none)).2 = some (.tbl #[])) ∧ ∀ H', Q (.bl true) H'
theorem ok_law (T : Top K mg) {fd : FuncData} (FD : FunD K "law" "law" (defArgs (top 35)) (defBody (top 35)) (defScope (top 35)) [] [] (ca K "law") fd) (TBS : TBs K mg base) : FnOk P w K mg base (L2.CX P w) 6 (ca K "law") fd ["_law_script"] (spLaw K) := by
  refine okC (p := ("law", none)) FD sc_law (fun vs H Q E h => ?_) (fun cdv A outer sh H vs Q E hcdv hr h => ?_)
  · obtain ⟨a, ns, rfl, _⟩ := h
    rfl
  · obtain ⟨a, ns, rfl, hS, hl, hTb, hQ⟩ := h

    obtain ⟨fdS, okS, kpS, hbS⟩ := ok__law_spring (P := P) (w := w) (base := base) T
    have hu := hr.units
    have hu1 := hu_of hr
    have tk : Takes (cxOf (L2.CX P w) P w K mg base ["_law_script", "_law_spring_here", "_law_turn", "_law_p", "_law_rows", "_law_held_here", "_law_handed", "_law_row", "_law_f", "_law_told", "_law_twin", "_law_offset", "_law_more", "_law_strange", "_law_thing"] "law" (defScope (top 35)) (ca K "law") cdv A outer sh H E) (fun c d _ H => E c d H) := takes_of rfl rfl rfl rfl
    have pso : PassesOwn (model P w) (cxOf (L2.CX P w) P w K mg base ["_law_script", "_law_spring_here", "_law_turn", "_law_p", "_law_rows", "_law_held_here", "_law_handed", "_law_row", "_law_f", "_law_told", "_law_twin", "_law_offset", "_law_more", "_law_strange", "_law_thing"] "law" (defScope (top 35)) (ca K "law") cdv A outer sh H E).A (cxOf (L2.CX P w) P w K mg base ["_law_script", "_law_spring_here", "_law_turn", "_law_p", "_law_rows", "_law_held_here", "_law_handed", "_law_row", "_law_f", "_law_told", "_law_twin", "_law_offset", "_law_more", "_law_strange", "_law_thing"] "law" (defScope (top 35)) (ca K "law") cdv A outer sh H E).env (cxOf (L2.CX P w) P w K mg base ["_law_script", "_law_spring_here", "_law_turn", "_law_p", "_law_rows", "_law_held_here", "_law_handed", "_law_row", "_law_f", "_law_told", "_law_twin", "_law_offset", "_law_more", "_law_strange", "_law_thing"] "law" (defScope (top 35)) (ca K "law") cdv A outer sh H E).xe := passes_of rfl
    obtain ⟨δ, ⟨t2, p2, e2⟩, h2⟩ : ∃ δ, PSsD (cxOf (L2.CX P w) P w K mg base ["_law_script", "_law_spring_here", "_law_turn", "_law_p", "_law_rows", "_law_held_here", "_law_handed", "_law_row", "_law_f", "_law_told", "_law_twin", "_law_offset", "_law_more", "_law_strange", "_law_thing"] "law" (defScope (top 35)) (ca K "law") cdv A outer sh H E) (fun c d _ H => E c d H) ((defBody (top 35)).drop 1) δ ∧ ∀ (W : Wd) (s0 : Addr) (c : SpC), W = sprW s0 c → (∀ x ∈ tfn, LW K x W) → δ (endsD W (fun d _ => d = .bl true) (fun _ _ => False)) [none, some (.val (.hnd s0)), none, none, none, none, none, none, none, none, none, none, none, none, none] 0 := by
      refine ⟨_, (pss_consD (ps_forD pso rfl (pid_r1 (by rfl) T.f_range (pab_cons (PD.pb pd_int) pab_nil)) (pgd_name 2 sc_law.nd) (pss_consD (ps_parD 3 4 rfl sc_law.nd (pad_cons (pd_call (ok__law_prime T) (hr.mono (by decide)) tk (by rfl) (pad_cons (pd_var 1) pad_nil)) (pad_cons (pd_call (ok__law_terms T) (hr.mono (by decide)) tk (by rfl) (pad_cons (pd_var 1) (pad_cons pd_int pad_nil))) pad_nil)))
      (pss_consD (ps_par2 5 6 rfl sc_law.nd (PD.sl (PF.pd (pf_call (ok__law_held T) (hr.mono (by decide)) tk (by rfl) (pad_cons (pd_var 3) (pad_cons (pd_var 4) pad_nil))))) (psl_lcF [("_law_row", 7)] rfl sc_law.nd (pid_seq (pd_var 4)) (blkOk_by (own := [("_law_row", 7)]) (N := ["_law_script", "_law_spring_here", "_law_turn", "_law_p", "_law_rows", "_law_held_here", "_law_handed", "_law_row", "_law_f", "_law_told", "_law_twin", "_law_offset", "_law_more", "_law_strange", "_law_thing"]) (sc := defScope (top 35)) (by decide +kernel)) (fun _ _ _ _ _ => (pgd_name 7 sc_law.nd)) (fun _ _ _ _ _ => ptsD_nil) (fun _ _ _ _ _ => (pf_list (by rfl) T.f_list (pab_cons (pb_var 7) pab_nil)))))
      (pss_consD (ps_setD 8 (pd_lendG 6 (pd_make (ok_Filter___init__ T) (hr.mono (by decide)) tk (by rfl) (pad_cons (pd_var 3) (pad_cons (pd_var 6) pad_nil)))) sc_law.nd)
      (pss_consD (ps_ifD (ptd_not (pt_valD (PD.pb (pd_lendG 6 (pd_call (ok__law_same3 T) (hr.mono (by decide)) tk (by rfl) (pad_cons (pd_var 6) (pad_cons (PF.pd (pf_lc [("_law_row", 7)] rfl sc_law.nd (pid_seq (pd_var 4)) (blkOk_by (own := [("_law_row", 7)]) (N := ["_law_script", "_law_spring_here", "_law_turn", "_law_p", "_law_rows", "_law_held_here", "_law_handed", "_law_row", "_law_f", "_law_told", "_law_twin", "_law_offset", "_law_more", "_law_strange", "_law_thing"]) (sc := defScope (top 35)) (by decide +kernel)) (fun _ _ _ _ _ => (pgd_name 7 sc_law.nd)) (fun _ _ _ _ _ => ptsD_nil) (fun _ _ _ _ _ => (PF.pd (pf_list (by rfl) T.f_list (pab_cons (pb_var 7) pab_nil)))))) pad_nil))))))) (pss_oneD (ps_retD pd_bl)) pss_nilD)
      (pss_consD (ps_ifD (pt_neNil hu (pb_res 6 (pd_var 6)) (PD.pb (PF.pd (pf_lst pad_nil)))) (pss_consD (ps_setD 7 (pd_ix (pb_res 6 (pd_var 6)) (PD.pb pd_int)) sc_law.nd)
      (pss_oneD (ps_setIxG 6 (pd_var 7) (PD.pb pd_int) (pd_add (PD.pb (pd_ix (pb_res 6 (pd_var 7)) (PD.pb pd_int))) (PD.pb pd_int))))) pss_nilD)
      (pss_consD (ps_appG 6 (pd_var 6) (PF.pd (pf_lst (pad_cons pd_int (pad_cons pd_int pad_nil)))))
      (pss_consD (ps_ownD 9 (pf_meth0 (ok_Filter_terms T) (hr.mono (by decide)) tk (pd_var 8)) sc_law.nd)
      (pss_consD (ps_appD 9 (pd_tup (pad_cons pd_int (pad_cons pd_int pad_nil))))
      (pss_consD (ps_setD 10 (pd_make (ok_Filter___init__ T) (hr.mono (by decide)) tk (by rfl) (pad_cons (pd_var 3) (pad_cons (pd_callTy call_tuple_of dcall_tuple (by rfl) T.f_tuple (by decide +kernel) (pab_cons (PD.pb (pd_call (ok__law_told_otherwise T) (hr.mono (by decide)) tk (by rfl) (pad_cons (pd_var 1) (pad_cons (pd_var 3) (pad_cons (pd_var 4) pad_nil))))) pab_nil)) pad_nil))) sc_law.nd)
      (pss_consD (ps_ifD (PWD.pt (pwd_or (ptd_not (pt_valD (PD.pb (pd_call (ok__law_shows T) (hr.mono (by decide)) tk (by rfl) (pad_cons (pd_var 8) (pad_cons (pd_var 3) (pad_cons (pd_var 5) pad_nil))))))) (pwd_or (ptd_not (pt_valD (PD.pb (pd_call (ok__law_shows T) (hr.mono (by decide)) tk (by rfl) (pad_cons (pd_var 10) (pad_cons (pd_var 3) (pad_cons (pd_var 5) pad_nil))))))) (pwd_or (pt_cmpV (pd_neO T.tyf T.ne_Filter (ok_Filter___eq__ T) (hr.mono (by decide)) tk (pd_var 8) (pd_var 10))) (pwd_or1 (ptd_not (pt_cmpV (pd_eqO T.tyf T.eq_Filter (ok_Filter___eq__ T) (hr.mono (by decide)) tk (pd_var 8) (pd_var 10))))))))) (pss_oneD (ps_retD pd_bl)) pss_nilD)
      (pss_consD (ps_setD 11 (pd_call (ok__law_pick T) (hr.mono (by decide)) tk (by rfl) (pad_cons (pd_var 1) (pad_cons (pd_add (PD.pb (PF.pd (pf_lc [("_law_row", 7)] rfl sc_law.nd (pid_seq (pd_var 4)) (blkOk_by (own := [("_law_row", 7)]) (N := ["_law_script", "_law_spring_here", "_law_turn", "_law_p", "_law_rows", "_law_held_here", "_law_handed", "_law_row", "_law_f", "_law_told", "_law_twin", "_law_offset", "_law_more", "_law_strange", "_law_thing"]) (sc := defScope (top 35)) (by decide +kernel)) (fun _ _ _ _ _ => (pgd_name 7 sc_law.nd)) (fun _ _ _ _ _ => ptsD_nil) (fun _ _ _ _ _ => (pd_ix (pb_var 7) (PD.pb pd_int)))))) (PD.pb (PF.pd (pf_lst (pad_cons pd_int pad_nil))))) pad_nil))) sc_law.nd)
      (pss_consD (ps_setD 12 (pd_make (ok_Filter___init__ T) (hr.mono (by decide)) tk (by rfl) (pad_cons (pd_var 3) (pad_cons (pd_add (pb_var 4) (PD.pb (PF.pd (pf_lst (pad_cons (pd_tup (pad_cons (pd_var 11) (pad_cons pd_int pad_nil))) pad_nil))))) pad_nil))) sc_law.nd)
      (pss_consD (ps_setD 13 (pd_make (ok_Filter___init__ T) (hr.mono (by decide)) tk (by rfl) (pad_cons (pd_call (ok__law_other T) (hr.mono (by decide)) tk (by rfl) (pad_cons (pd_var 1) (pad_cons (pd_var 3) pad_nil))) (pad_cons (PF.pd (pf_meth0 (ok_Filter_terms T) (hr.mono (by decide)) tk (pd_var 8))) pad_nil))) sc_law.nd)
      (pss_consD (ps_ifD (PWD.pt (pwd_or (pt_cmpV (pd_eqO T.tyf T.eq_Filter (ok_Filter___eq__ T) (hr.mono (by decide)) tk (pd_var 8) (pd_var 12))) (pwd_or (ptd_not (pt_cmpV (pd_neO T.tyf T.ne_Filter (ok_Filter___eq__ T) (hr.mono (by decide)) tk (pd_var 8) (pd_var 12)))) (pwd_or (pt_cmpV (pd_eqO T.tyf T.eq_Filter (ok_Filter___eq__ T) (hr.mono (by decide)) tk (pd_var 12) (pd_var 8))) (pwd_or (pt_cmpV (pd_eqO T.tyf T.eq_Filter (ok_Filter___eq__ T) (hr.mono (by decide)) tk (pd_var 8) (pd_var 13))) (pwd_or1 (ptd_not (pt_cmpV (pd_neO T.tyf T.ne_Filter (ok_Filter___eq__ T) (hr.mono (by decide)) tk (pd_var 13) (pd_var 8)))))))))) (pss_oneD (ps_retD pd_bl)) pss_nilD)
      (pss_consD (ps_ifD (pt_valD (PD.pb (pd_callB (cr_any rfl) dcall_any (by rfl) T.f_any (by decide +kernel) (pab_cons (PD.pb (PF.pd (pf_lc [("_law_thing", 14)] rfl sc_law.nd (pid_seq (PF.pd (pf_lst (pad_cons pd_non (pad_cons pd_int (pad_cons (PF.pd (pf_meth0 (ok_Filter_terms T) (hr.mono (by decide)) tk (pd_var 8))) (pad_cons (pd_var 3) (pad_cons (pd_tup (pad_cons (pd_var 3) (pad_cons (PF.pd (pf_meth0 (ok_Filter_terms T) (hr.mono (by decide)) tk (pd_var 8))) pad_nil))) (pad_cons pd_str pad_nil))))))))) (blkOk_by (own := [("_law_thing", 14)]) (N := ["_law_script", "_law_spring_here", "_law_turn", "_law_p", "_law_rows", "_law_held_here", "_law_handed", "_law_row", "_law_f", "_law_told", "_law_twin", "_law_offset", "_law_more", "_law_strange", "_law_thing"]) (sc := defScope (top 35)) (by decide +kernel)) (fun _ _ _ _ _ => (pgd_name 14 sc_law.nd)) (fun _ _ _ _ _ => ptsD_nil) (fun _ _ _ _ _ => (pd_eqO T.tyf T.eq_Filter (ok_Filter___eq__ T) (hr.mono (by decide)) DL.takes0 (pd_var 8) (pd_var 14)))))) pab_nil)))) (pss_oneD (ps_retD pd_bl)) pss_nilD)
      (pss_consD (ps_ifD (ptd_not (pt_valD (PD.pb (pd_call (ok__law_shows T) (hr.mono (by decide)) tk (by rfl) (pad_cons (pd_cmeth (ok_Filter_shift T) (hr.mono (by decide)) tk (by rfl) (pad_cons (pd_var 3) (pad_cons (pd_var 11) pad_nil))) (pad_cons (pd_var 3) (pad_cons (PF.pd (pf_call (ok__law_held T) (hr.mono (by decide)) tk (by rfl) (pad_cons (pd_var 3) (pad_cons (PF.pd (pf_lst (pad_cons (pd_tup (pad_cons (pd_var 11) (pad_cons pd_int pad_nil))) pad_nil))) pad_nil)))) pad_nil))))))) (pss_oneD (ps_retD pd_bl)) pss_nilD)
      (pss_oneD (ps_ifD (PWD.pt (pwd_or (ptd_not (pt_valD (PD.pb (pd_call (ok__law_shows T) (hr.mono (by decide)) tk (by rfl) (pad_cons (pd_make (ok_Filter___init___d1 T) (hr.mono (by decide)) tk (by rfl) (pad_cons (pd_var 3) pad_nil)) (pad_cons (pd_var 3) (pad_cons (PF.pd pf_dct0) pad_nil))))))) (pwd_or1 (pt_cmpV (pd_neO T.tyf T.ne_Filter (ok_Filter___eq__ T) (hr.mono (by decide)) tk (pd_make (ok_Filter___init___d1 T) (hr.mono (by decide)) tk (by rfl) (pad_cons (pd_var 3) pad_nil)) (pd_make (ok_Filter___init__ T) (hr.mono (by decide)) tk (by rfl) (pad_cons (pd_var 3) (pad_cons (pd_tup pad_nil) pad_nil)))))))) (pss_oneD (ps_retD pd_bl)) pss_nilD)))))))))))))))))))
      (pss_oneD (ps_retD pd_bl))), ?_⟩
      intro W s0 c hW hL
      have hW' : ∃ c, W = sprW s0 c := ⟨c, hW⟩
      clear hr hu hu1 tk pso okS kpS hbS hS hQ hTb TBS
      walk_at "d"
      refine ⟨by decide, ?_⟩
      refine forD_ind (fun ρ n k => (∃ (y_turn y_p y_rows y_held_here y_handed y_row y_f y_told y_twin y_offset y_more y_strange y_thing : Option Sl), ρ = [none, some (.val (.hnd s0)), y_turn, y_p, y_rows, y_held_here, y_handed, y_row, y_f, y_told, y_twin, y_offset, y_more, y_strange, y_thing]) ∧ n + 1000 * k ≤ 9000) (fun ρ n k d R hI hR => ?_) (fun ρ n hI => ?_) _ _ _ ⟨⟨_, _, _, _, _, _, _, _, _, _, _, _, _, rfl⟩, by rw [rng_len]; decide⟩
      · obtain ⟨⟨y_turn, y_p, y_rows, y_held_here, y_handed, y_row, y_f, y_told, y_twin, y_offset, y_more, y_strange, y_thing, rfl⟩, hn⟩ := hI
        simp only [gN]
        refine dSeq_at fun R1 hR1 => ?_
        walk_at "d"
        refine ⟨s0, rfl, hW', by omega, fun p hp => ?_⟩
        have hp0 := isPr_pos hp
        refine ⟨s0, 8, rfl, hW', by decide, by omega, fun ts n1 hts hn1 => ?_⟩
        subst hR1
        refine dSeq_at fun R1 hR1 => ?_
        walk_at "d"
        refine ⟨p, ts, rfl, hp0.1, by omega, ?_⟩
        obtain ⟨x, hx⟩ : ∃ x, x = lp p ts := ⟨_, rfl⟩
        have ecx : canon p ts = can x := by rw [hx, can_lp hp0.1]
        have hnx : nt x ≤ 8 := by rw [hx]; exact Nat.le_trans (nt_lp hp0.1 ts) hts
        rw [ecx]
        obtain ⟨cs, hcs⟩ : ∃ cs, cs = ts.map fun t => [D.int t.1, D.int t.2] := ⟨_, rfl⟩
        have lcs : cs.length = ts.length := by rw [hcs, List.length_map]
        have ecs : ts.map (fun t => D.lst [D.int t.1, D.int t.2]) = cs.map D.lst := by rw [hcs, List.map_map]; rfl
        refine lcD_all _ (fun (t : Int × Int) => D.lst [D.int t.1, D.int t.2]) _ _ (fun t ht K h => ?_) (by omega) ?_
        · walk_at "d"
          exact h
        rw [ecs]
        intro a bs hbs hnd
        have hbl : bs.length = cs.length := by rw [hbs, List.length_map]
        subst hR1
        refine dSeq_at fun R1 hR1 => ?_
        simp only [dSet]
        have lend := ro_list (a := a) hbl
        refine dLendG_at rfl lend.1 lend.2 ?_
        walk_at "d"
        have hZ : cs.map D.rol = (ts.map fun t => (D.rol [D.int t.1, D.int t.2], t)).map (·.1) := by rw [hcs, List.map_map, List.map_map]; rfl
        have hZ2 : (ts.map fun t => (D.rol [D.int t.1, D.int t.2], t)).map (·.2) = ts := by rw [List.map_map]; exact List.map_id ts
        refine .inl ⟨p, _, ts.map fun t => (D.rol [D.int t.1, D.int t.2], t), rfl, congrArg some hZ, fun z hz => ?_, hp, by rw [List.length_map]; omega, ?_⟩
        · obtain ⟨t, _, rfl⟩ := List.mem_map.mp hz
          rfl
        rw [hZ2, ecx]
        refine ⟨tnr_fob _ _, ?_⟩
        subst hR1
        refine dSeq_at fun R1 hR1 => ?_
        simp only [dIfS, dNotT, dTest]
        refine dLendG_at rfl lend.1 lend.2 ?_
        walk_at "d"
        refine lcD_all _ (fun (t : Int × Int) => D.lst [D.int t.1, D.int t.2]) _ _ (fun t ht K h => ?_) (by omega) ?_
        · walk_at "d"
          exact h
        rw [ecs]
        refine ⟨_, _, rfl, ⟨cs.map D.rol, .inr rfl, by rw [List.length_map, List.length_map], by rw [List.length_map]; omega, fun i u v h1 h2 => ?_⟩, ?_⟩
        · rw [List.getElem?_map] at h1 h2
          cases hc : cs[i]? with
          | none => rw [hc] at h1; cases h1
          | some c =>
            rw [hc] at h1 h2
            cases h1
            cases h2
            have hm := List.mem_of_getElem? hc
            rw [hcs] at hm
            obtain ⟨t, _, rfl⟩ := List.mem_map.mp hm
            refine ⟨_, .inr rfl, rfl, by show 2 < 10000000; decide, fun i u v h1 h2 => ?_⟩
            rw [h1] at h2
            cases h2
            have hx := List.mem_of_getElem? h1
            simp only [List.mem_cons, List.not_mem_nil, or_false] at hx
            rcases hx with rfl | rfl <;> exact rfl
        refine ⟨tnr_bl _, ?_⟩
        dsimp only
        rw [if_neg (by decide)]
        subst hR1
        refine dSeq_at fun R1 hR1 => ?_
        have go : ∀ (gs : List (Addr × D)) (hs : List D) (y_row : Option Sl), lkG gs a = some (.lst hs) → hs.length < 1000 → R1 [none, some (Sl.val (D.hnd s0)), some (Sl.val d), some (Sl.val (D.int p)),
              some (Sl.val (D.lst (List.map trm ts))), some (Sl.val (D.dct (List.map kvp (can x)))),
              some (Sl.gst (D.hnd a) gs), y_row,
              some (Sl.val (D.obj (Str.ofString "Filter") (flt p (can x)))), y_told, y_twin, y_offset, y_more,
              y_strange, y_thing] n1 := by
          intro gs hs y_row hlk hhs
          subst hR1
          refine dSeq_at fun R1 hR1 => ?_
          walk_at "d"
          rw [hlk]
          dsimp only
          refine ⟨by decide, by omega, ?_⟩
          obtain ⟨Y, hY⟩ : ∃ Y, Y = some (Sl.gst (D.hnd a) (upG gs a (D.lst (hs ++ [D.lst [D.int 1, D.int 1]])))) := ⟨_, rfl⟩
          rw [← hY]
          clear hY hlk hhs
          subst hR1
          refine dSeq_at fun R1 hR1 => ?_
          walk_at "d"
          refine ⟨p, can x, rfl, ?_⟩
          subst hR1
          refine dSeq_at fun R1 hR1 => ?_
          walk_at "d"
          refine ⟨by decide, by have : (can x).length ≤ 8 := hnx; omega, ?_⟩
          subst hR1
          refine dSeq_at fun R1 hR1 => ?_
          walk_at "d"
          refine ⟨s0, p, ts, rfl, hW', hp, by omega, by omega, fun us n2 hus lus hn2 => ?_⟩
          dsimp only
          refine FG_init_trm rfl hp (by omega) ?_
          have eus : canon p us = can x := by rw [← can_lp hp0.1, hus, ← hx]
          rw [eus]
          subst hR1
          refine dSeq_at fun R1 hR1 => ?_
          walk_at "d"
          refine ⟨p, x, rfl, hp, by omega, ?_⟩
          have lcx : (can x).length ≤ 8 := hnx
          have eqT : ∀ {n : Nat} {q : DQ} {xx : Xn → Nat → Prop}, q (.bl true) n → FG_Filter___eq__ W [fob p (can x), fob p (can x)] n q xx := fun {n q xx} h => .inl ⟨p, can x, p, can x, rfl, by omega, by omega, by rw [decide_eq_true ⟨rfl, rfl⟩]; exact h⟩
          have eqN : ∀ {n : Nat} {q : DQ} {xx : Xn → Nat → Prop} (p1 p2 : Int) (u v : Tm), u.length < 1000000 → v.length < 1000000 → ¬ (p1 = p2 ∧ u = v) → q (.bl false) n → FG_Filter___eq__ W [fob p1 u, fob p2 v] n q xx := fun {n q xx} p1 p2 u v h1 h2 h3 h => .inl ⟨p1, u, p2, v, rfl, h1, h2, by rw [decide_eq_false h3]; exact h⟩
          walk_at "d"
          refine ⟨p, x, rfl, hp, by omega, ?_⟩
          walk_at "d"
          refine ⟨⟨_, rfl⟩, eqT ?_⟩
          walk_at "d"
          refine ⟨⟨_, rfl⟩, eqT ?_⟩
          walk_at "d"
          subst hR1
          refine dSeq_at fun R1 hR1 => ?_
          walk_at "d"
          refine lcD_all _ (fun (t : Int × Int) => D.int t.1) _ _ (fun t ht K h => ?_) (by omega) ?_
          · walk_at "d"
            exact h
          refine ⟨by decide, by rw [List.length_map]; omega, hW', by simp, by simp; omega, by omega, fun dk hdk => ?_⟩
          obtain ⟨k, rfl⟩ : ∃ k : Int, dk = D.int k := by
            rcases List.mem_append.mp hdk with h | h
            · obtain ⟨t, _, rfl⟩ := List.mem_map.mp h
              exact ⟨_, rfl⟩
            · rw [List.mem_singleton.mp h]; exact ⟨_, rfl⟩
          subst hR1
          refine dSeq_at fun R1 hR1 => ?_
          walk_at "d"
          obtain ⟨cm, hcm⟩ : ∃ cm, cm = canon p (ts ++ [(k, 1)]) := ⟨_, rfl⟩
          have lcm : cm.length ≤ 9 := by rw [hcm]; have := canon_length p (ts ++ [(k, 1)]); rw [List.length_append, List.length_singleton] at this; omega
          have ncm : can x ≠ cm := fun z => by
            have e1 : x = x + mono p k 1 := by
              have e2 : lp p (can x) = lp p cm := by rw [z]
              rw [lp_can hp0.1, hcm, lp_canon hp0.1, ← lp_add, ← hx] at e2
              exact e2
            have e3 : mono p k 1 = 0 := by
              have : x + mono p k 1 - x = x - x := by rw [← e1]
              grind
            have e4 := cf_mono (p := p) k 1 k
            rw [e3, if_pos rfl, cf_zero] at e4
            have : (1 : Int) % p = 1 := Int.emod_eq_of_lt (by decide) (by rcases isPr_cases hp with h | h | h | h <;> omega)
            omega
          refine ⟨by decide, by decide, by omega, FG_init_trm (ts := ts ++ [(k, 1)]) (by rw [List.map_append]; rfl) hp (by rw [List.length_append, List.length_singleton]; omega) ?_⟩
          rw [← hcm]
          subst hR1
          refine dSeq_at fun R1 hR1 => ?_
          walk_at "d"
          refine ⟨s0, p, rfl, hW', hp, by omega, fun p2 hp2 np => ?_⟩
          refine ⟨p, can x, rfl, ?_⟩
          refine FG_init_trm rfl hp2 (by omega) ?_
          obtain ⟨cn, hcn⟩ : ∃ cn, cn = canon p2 (can x) := ⟨_, rfl⟩
          have lcn : cn.length ≤ 8 := by rw [hcn]; have := canon_length p2 (can x); omega
          rw [← hcn]
          clear hcm hcn
          subst hR1
          refine dSeq_at fun R1 hR1 => ?_
          walk_at "d"
          refine ⟨⟨_, rfl⟩, eqN _ _ _ _ (by omega) (by omega) (fun z => ncm z.2) ?_⟩
          walk_at "d"
          refine ⟨⟨_, rfl⟩, eqN _ _ _ _ (by omega) (by omega) (fun z => ncm z.2) ?_⟩
          walk_at "d"
          refine ⟨⟨_, rfl⟩, eqN _ _ _ _ (by omega) (by omega) (fun z => ncm z.2.symm) ?_⟩
          walk_at "d"
          refine ⟨⟨_, rfl⟩, eqN _ _ _ _ (by omega) (by omega) (fun z => np z.1.symm) ?_⟩
          walk_at "d"
          refine ⟨⟨_, rfl⟩, eqN _ _ _ _ (by omega) (by omega) (fun z => np z.1) ?_⟩
          walk_at "d"
          subst hR1
          refine dSeq_at fun R1 hR1 => ?_
          walk_at "d"
          refine ⟨p, can x, rfl, p, can x, rfl, by decide, by decide, ?_⟩
          obtain ⟨Th, hTh⟩ : ∃ Th, Th = [D.non, D.int 0, D.lst ((can x).map trm), D.int p, D.tup [D.int p, D.lst ((can x).map trm)], D.str (Str.ofString "f")] := ⟨_, rfl⟩
          have tk : ∀ a ∈ Th, ∃ t, tyD a = some t ∧ (∀ c, t = .own c → c ∈ CS) ∧ t ≠ .own "Filter" := fun a ha => by
            rw [hTh] at ha
            simp only [List.mem_cons, List.not_mem_nil, or_false] at ha
            rcases ha with rfl | rfl | rfl | rfl | rfl | rfl
            all_goals exact ⟨_, rfl, (fun c e => nomatch e), fun e => nomatch e⟩
          rw [← hTh]
          have lTh : Th.length = 6 := by rw [hTh]; rfl
          rw [show Th = Th.map id from (List.map_id Th).symm]
          refine lcD_all id (fun _ => D.bl false) Th _ (fun a ha K' h => ?_) (by omega) ?_
          · obtain ⟨t, t1, t2, t3⟩ := tk a ha
            walk_at "d"
            refine ⟨⟨_, rfl⟩, ?_⟩
            dsimp only [id]
            rw [t1]
            exact ⟨t2, .inr ⟨p, can x, a, t, rfl, t1, t2, t3, h⟩⟩
          have eb : ∀ L : List D, boolsD (L.map fun _ => D.bl false) = some (L.map fun _ => false) := fun L => by
            induction L with
            | nil => rfl
            | cons k L ih =>
              rw [List.map_cons, List.map_cons]
              unfold boolsD
              rw [ih]
              rfl
          rw [eb]
          dsimp only
          rw [show (Th.map fun _ => false).any id = false by simp]
          rw [if_neg (by decide)]
          subst hR1
          refine dSeq_at fun R1 hR1 => ?_
          walk_at "d"
          refine ⟨p, k, rfl, hp, ?_⟩
          refine ⟨by decide, by decide, p, [(k, 1)], rfl, hp0.1, by rw [List.length_singleton]; decide, ?_⟩
          rw [show canon p [(k, 1)] = can (mono p k 1) from can_of hp0.1 rfl]
          refine ⟨p, mono p k 1, rfl, hp, by have := mono_run hp0.1 k 1; omega, ?_⟩
          walk_at "d"
          subst hR1
          walk_at "d"
          have e0 : (canon p []) = ([] : Tm) := by rw [← can_lp hp0.1, ← lp_zero]; exact can_zero hp0.1
          have ec0 : can (0 : LP p) = [] := can_zero hp0.1
          have hn0 : nt (0 : LP p) = 0 := by unfold nt; rw [can_zero hp0.1]; rfl
          refine FG_init_trm (ts := []) rfl hp (by decide) ?_
          rw [e0]
          refine ⟨p, 0, ?_, hp, by omega, ?_⟩
          · rw [dk_def, fo_def, ec0]; rfl
          walk_at "d"
          refine FG_init_trm (ts := []) rfl hp (by decide) ?_
          rw [e0]
          refine ⟨by decide, FG_init_trm (ts := []) rfl hp (by decide) ?_⟩
          rw [e0]
          refine ⟨⟨_, rfl⟩, .inl ⟨p, [], p, [], rfl, by decide, by decide, ?_⟩⟩
          rw [decide_eq_true ⟨rfl, rfl⟩]
          walk_at "d"
          exact hR _ _ ⟨⟨_, _, _, _, _, _, _, _, _, _, _, _, _, rfl⟩, by omega⟩
        have cform : ∀ c ∈ cs, ∃ i j, c = [D.int i, D.int j] := fun c hc => by
          rw [hcs] at hc
          obtain ⟨t, _, rfl⟩ := List.mem_map.mp hc
          exact ⟨_, _, rfl⟩
        have lbs : bs.length ≤ 8 := by omega
        clear hn hnx hZ hZ2 ecs hcs lcs ecx hR1 lend
        walk_at "d"
        have e0 : ∀ zs : List (Addr × D), lkG ((a, D.lst (bs.map D.hnd)) :: zs) a = some (D.lst (bs.map D.hnd)) := fun zs => by
          show (if a = a then some (D.lst (bs.map D.hnd)) else lkG zs a) = _
          rw [if_pos rfl]
        have e1 : ∀ zs : List (Addr × D), (lkG ((a, D.lst (bs.map D.hnd)) :: zs) a).getD (D.hnd a) = D.lst (bs.map D.hnd) := fun zs => by rw [e0]; rfl
        rw [e1]
        refine ⟨by decide, ?_⟩
        dsimp only
        cases bs with
        | nil =>
          rw [if_neg (by decide)]
          exact go _ _ _ (e0 _) (by simp)
        | cons b bs =>
          cases cs with
          | nil => simp at hbl
          | cons c cs =>
            obtain ⟨i, j, rfl⟩ := cform c (List.mem_cons_self ..)
            have nab : ¬ a = b := fun z => (List.nodup_cons.mp hnd).1 (z ▸ List.mem_cons_self ..)
            rw [if_pos (by rfl), List.map_cons, at0]
            dsimp only
            have e2 : ∀ (r u : D) (zs : List (Addr × D)), lkG ((a, r) :: (b, u) :: zs) b = some u := fun r u zs => by
              show (if a = b then some r else if b = b then some u else lkG zs b) = _
              rw [if_neg nab, if_pos rfl]
            rw [List.map_cons, List.zip_cons_cons, e2]
            walk_at "d"
            rw [show ixN 2 1 = some 1 from rfl]
            dsimp only
            refine go _ (List.map D.hnd (b :: bs)) _ ?_ (by rw [List.length_map]; omega)
            show lkG ((if a = b then (a, _) else (a, D.lst (D.hnd b :: bs.map D.hnd))) :: upG ((b, D.lst [D.int i, D.int j]) :: bs.zip (cs.map D.lst)) b _) a = _
            rw [if_neg nab]
            show (if a = a then some (D.lst (D.hnd b :: bs.map D.hnd)) else _) = _
            rw [if_pos rfl]
            rfl
      · obtain ⟨⟨y_turn, y_p, y_rows, y_held_here, y_handed, y_row, y_f, y_told, y_twin, y_offset, y_more, y_strange, y_thing, rfl⟩, hn⟩ := hI
        walk_at "d"
    refine ⟨_, pss_cons (ps_set (i := 1) sc_law.nd rfl (by first | exact Or.inl rfl | exact Or.inr rfl) (pe_callSD okS (hr.mono (by decide)) (by rfl) T.g__law_spring kpS hbS .nil (fun σ => passAt tk σ) (pa_cons (pv 0) pa_nil))) p2, ?_⟩
    refine ⟨_, rfl, a, ns, rfl, hS, hl, fun c s0 nc ns0 ne => ?_⟩
    have nPc : ∀ x ∈ tfn, (He.cT K (x, none)).2 ≠ c := fun x hx => ne_of_none (hTb x hx) nc
    have nPs : ∀ x ∈ tfn, (He.cT K (x, none)).2 ≠ s0 := fun x hx => ne_of_none (hTb x hx) ns0
    have j0 : (sprW s0 (c, tblOf K tfn)).J 0 (upd (upd H c (.lst (ns.map V.int))) s0 (.lst [.ref c, .int 0, .int 0, .int 7])) := ⟨⟨ne, ns, 0, 7, upd_same, by rw [upd_ne (Ne.symm ne), upd_same], by decide, by decide⟩, fun p hp => by
      obtain ⟨x, hx, rfl⟩ := List.mem_map.mp hp
      exact LamX.TabS.nil (by rw [upd_ne (nPs x hx), upd_ne (nPc x hx)]; exact hTb x hx)⟩
    refine e2 ⟨sprW s0 (c, tblOf K tfn), K, _, fun _ => none, none⟩ _ _ [none, some (.val (.hnd s0)), none, none, none, none, none, none, none, none, none, none, none, none, none] 0 (fun _ => none) (fun _ => 0) _ _ rfl ⟨.refl _ (fun a o e => nomatch e), fun _ _ => rfl, j0, rfl, fun i d h => ?_, fun i d h => ?_, fun i j d e h => ?_, (fun a d h => nomatch h), Gh.nil fun i r gs h => ?_⟩ ?_ (h2 _ s0 (c, tblOf K tfn) rfl (fun x hx => sprW_lam (List.mem_map.mpr ⟨x, hx, rfl⟩) (nodup_at T.tbl (List.mem_map.mpr ⟨x, hx, rfl⟩))))
    · match i, h with
      | 1, h => cases h; exact ⟨_, rfl, .hnd _⟩
      | 0, h => exact nomatch h
      | 2, h => exact nomatch h
      | 3, h => exact nomatch h
      | 4, h => exact nomatch h
      | 5, h => exact nomatch h
      | 6, h => exact nomatch h
      | 7, h => exact nomatch h
      | 8, h => exact nomatch h
      | 9, h => exact nomatch h
      | 10, h => exact nomatch h
      | 11, h => exact nomatch h
      | 12, h => exact nomatch h
      | 13, h => exact nomatch h
      | 14, h => exact nomatch h
      | (i + 15), h => exact nomatch h
    · match i, h with
      | 0, h => exact nomatch h
      | 1, h => exact nomatch h
      | 2, h => exact nomatch h
      | 3, h => exact nomatch h
      | 4, h => exact nomatch h
      | 5, h => exact nomatch h
      | 6, h => exact nomatch h
      | 7, h => exact nomatch h
      | 8, h => exact nomatch h
      | 9, h => exact nomatch h
      | 10, h => exact nomatch h
      | 11, h => exact nomatch h
      | 12, h => exact nomatch h
      | 13, h => exact nomatch h
      | 14, h => exact nomatch h
      | (i + 15), h => exact nomatch h
    · match i, h with
      | 0, h => exact nomatch h
      | 1, h => exact nomatch h
      | 2, h => exact nomatch h
      | 3, h => exact nomatch h
      | 4, h => exact nomatch h
      | 5, h => exact nomatch h
      | 6, h => exact nomatch h
      | 7, h => exact nomatch h
      | 8, h => exact nomatch h
      | 9, h => exact nomatch h
      | 10, h => exact nomatch h
      | 11, h => exact nomatch h
      | 12, h => exact nomatch h
      | 13, h => exact nomatch h
      | 14, h => exact nomatch h
      | (i + 15), h => exact nomatch h
    · match i, h with
      | 0, h => exact nomatch h
      | 1, h => exact nomatch h
      | 2, h => exact nomatch h
      | 3, h => exact nomatch h
      | 4, h => exact nomatch h
      | 5, h => exact nomatch h
      | 6, h => exact nomatch h
      | 7, h => exact nomatch h
      | 8, h => exact nomatch h
      | 9, h => exact nomatch h
      | 10, h => exact nomatch h
      | 11, h => exact nomatch h
      | 12, h => exact nomatch h
      | 13, h => exact nomatch h
      | 14, h => exact nomatch h
      | (i + 15), h => exact nomatch h
    · refine ⟨fun σ H' ρ n' G' α R hq => (nomatch (show D.non = D.bl true from hq)), fun v H' d n' G' st j r hq => ?_, fun _ _ _ _ _ _ _ h => False.elim h, fun _ _ _ _ _ _ _ h => False.elim h, fun c dd σ H' ρ n' G' α e R r hq => False.elim hq, rfl, fun _ _ _ _ _ _ _ _ h => False.elim h⟩
      cases hq
      cases r
      exact hQ _
end

end My

namespace My
open PySem PySem.Spec PyProof.Rows L2 DL
theorem facts {P : Program} {w : World} {K : PySem.W.Frag} {h : Heap} {mg : Str → Option Value} {f : Addr} (X : K.In h) (G : h.Ns mainGlobals mg) (hfa : mg ("law" : Str) = some (.ref f)) (c : He.SaysD fa fn K) (cm : He5.SaysA [] cmf K) (hx : exB K = true) :
    ∃ fd : FuncData, (∀ (s : Shared) (v : Value), BindsTo s fd ⟨[v], []⟩ [("_law_script", v)]) ∧ ∀ base : Heap, K.In base → base.Ns mainGlobals mg → (∀ p ∈ tf.map (He.cT K), LamX.TabB base mg p.1 p.2) → FnOk P w K mg base (L2.CX P w) 6 f fd ["_law_script"] (spLaw K) := by
  have T : Top K mg := ⟨c, hx, cm, h, X, G⟩
  obtain ⟨fd, FD⟩ := T.d_law
  have e := hfa.symm.trans T.g_law
  cases e
  have b := FunD.bindsA (ps := ["_law_script"]) FD fun _ _ _ _ _ _ us hl => match us, hl with | [_], _ => rfl
  exact ⟨fd, fun s v => b s [v] rfl, fun base _ _ hT => ok_law T FD (fun x hx => hT _ (List.mem_map.mpr ⟨(x, none), tf_mem hx, rfl⟩))⟩
end My
open PySem PySem.W PySem.Calls PyProof.Rows
theorem PySem.Challenge.cw_seenrows_k01_filters_made_holds : PySem.Challenge.rw_seenrows_k01_filters_made.Holds := by
  refine My.pre fun said => ?_
  refine HandSHeadRun.head_any (r := OpenLaw.row PySem.Challenge.rw_seenrows_k01_filters_made) (q := view (OpenLaw.row PySem.Challenge.rw_seenrows_k01_filters_made).prog [35]) (H := My.hk) (ob := My.ob) (M := 9000) (loose := My.names) (d := HandSHeadRun.topDef (OpenLaw.row PySem.Challenge.rw_seenrows_k01_filters_made).prog 35) (kwd := []) My.ob_eq
    (by kernel_rfl) (fun s => by kernel_rfl) My.run (by kernel_rfl) (by kernel_rfl) (by kernel_rfl) (by rfl) (by first | assumption | decide +kernel) (by decide +kernel) My.pre2 ?hw ?hc
  case hw => w_witness2
  case hc =>
    refine LamX.walk_ofTsE (l := PySem.Challenge.rw_seenrows_k01_filters_made) (n := 63) (k := 6) (x := "_law_script") (CX := fun w => L2.CX PySem.Challenge.pw_seenrows_k01_filters_made w) rfl (by decide) (by kernel_rfl) ⟨rfl, by decide, by decide⟩ ?F (fun w H s e s' ⟨_, _, _, _, _, _, _, _, _, _, _, _, z⟩ => z)
    intro w mg fa h Y G hmg0
    obtain ⟨K, KX, c⟩ := Y
    have hmg : mg ("law" : PySem.Str) = some (.ref fa) := by
      have e : (HandSHeadRun.topDef (OpenLaw.row PySem.Challenge.rw_seenrows_k01_filters_made).prog 35).name = ("law" : PySem.Str) := by kernel_rfl
      rw [← e]
      exact hmg0
    obtain ⟨fd, hb, hF⟩ := My.facts (P := (PySem.Challenge.rw_seenrows_k01_filters_made).prog) (w := w) KX G hmg c.d c.cm c.more
    refine ⟨K, KX, fd, My.tf.map (He.cT K), My.spLaw K, fun p hp => ?_, fun p hp => ?_, fun p hp => ?_, hb, fun H a ns hl _ hT hS => ⟨a, ns, rfl, hS, hl, fun x hx => hT _ (List.mem_map.mpr ⟨_, My.tf_mem hx, rfl⟩), fun _ => rfl⟩, hF⟩
    · obtain ⟨d, hd, rfl⟩ := List.mem_map.mp hp
      exact (c.tabs d hd).2.2
    · obtain ⟨d, hd, rfl⟩ := List.mem_map.mp hp
      exact (c.tabs d hd).2.1
    · obtain ⟨d, hd, rfl⟩ := List.mem_map.mp hp
      exact PySem.W.codeHd_of_K KX (c.tabs d hd).1
