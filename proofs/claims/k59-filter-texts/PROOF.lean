import PyProof.Rows.All
import Wide.All
import OpenK.AllK
import Wide.FinOn
import HandS.ForMost
import HandS.ForExc
import HandS.Walk
import HandS.Defaults
import HandS.HeadHook1
import HandS.IsInst
import HandS.Wide
import HandS.CallSlots
import HandS.Small
import HandS.SortInts
import HandS.Zip
import HandS.ListItems
import HandS.Style
import HandS.Head0
import HandS.Head1
import HandS.Head2
import HandS.HeadEnd
import HandS.HeadHook2
import HandS.Ends
import HandS.ExcInit
import HandS.TryOnly
import HandS.TryMany
import HandS.SlotsOwn
import HandS.Conv
import HandS.Star
import HandS.Flow
import KE.KDictZip
import KE.KDictSum
import KE.GoesNew
import KE.GoesEnum
import KE.KEqDict
import HandS.Lambda
import HandS.HeadHook4
import HandS.HeadWalk
import HandS.ClsMeth
import HandS.HeadNt
import PyProof.StrOps2
import PyProof.FitsStr
import PyProof.Rows.Range3
import HandS.OwnEq
import PyProof.LongRange
import HandS.More
import HandS.ExcField
import HandS.MakeKw
import HandS.Deep
import HandS.TupLe
import HandS.IterVal
import HandS.TupAny
import HandS.RevRange
import PyProof.PureInt
import PyProof.ReprRoads
import HandS.SetKeys
import PyProof.EqKinds
import HandS.HotCalls
import HandS.RaiseMore
import HandS.MapJoin
import HandS.MethStar
import HandS.Text
import PyProof.ListStr
import HandS.FStr
import PySem.Challenge.RW_seenrows_k59_filter_texts
set_option Elab.async false
set_option linter.all false
set_option maxRecDepth 100000
set_option maxHeartbeats 0
section
open PySem PySem.W PySem.Calls PyProof.Rows
theorem My.pre (h : PySem.Challenge.rw_seenrows_k59_filter_texts.row.wellSaid = true → PySem.Challenge.rw_seenrows_k59_filter_texts.row.Holds) : PySem.Challenge.rw_seenrows_k59_filter_texts.Holds := by
  w_on; o_law
  exact h (by assumption)
theorem My.pre2 : (OpenLaw.row PySem.Challenge.rw_seenrows_k59_filter_texts).prog.bare := ⟨rfl, rfl, rfl, rfl, rfl, by decide +kernel⟩
end
set_option maxHeartbeats 200000

section
set_option autoImplicit false
namespace DL
open PySem PySem.Spec PyProof.Rows L2

inductive D where
  | non | bl (b : Bool) | int (i : Int) | str (x : Str)
  | lst (ds : List D) | tup (ds : List D)
  | dct (kvs : List (Key × D))
  | obj (c : Str) (fs : List (Str × D))
  | hnd (a : Addr)
  | exc (a dd : Addr) (c : Str) (fs : List (Str × D))
  | rol (ds : List D)

abbrev ca (K : PySem.W.Frag) (c : Str) : Addr := He.ga K c

mutual
inductive Rep (K : PySem.W.Frag) (G : Hp) : D → V → Prop where
  | non : Rep K G .non .non
  | bl (b : Bool) : Rep K G (.bl b) (.bl b)
  | int (i : Int) : Rep K G (.int i) (.int i)
  | str (x : Str) : Rep K G (.str x) (.str x)
  | lst {a : Addr} {ds : List D} {vs : List V} : G a = some (.lst vs) → RepL K G ds vs → Rep K G (.lst ds) (.ref a)
  | tup {a : Addr} {ds : List D} {vs : List V} : SqT K G a vs → RepL K G ds vs → Rep K G (.tup ds) (.ref a)
  | dct {a : Addr} {o : Obj} {kvs : List (Key × D)} {ws : List (Key × V)} : G a = some (.frz o (.dK ws)) → RepK K G kvs ws → Rep K G (.dct kvs) (.ref a)
  | obj {a dx : Addr} {c : Str} {fs : List (Str × D)} {ws : List (Str × V)} : G a = some (.ins (ca K c) dx ws) → RepF K G fs ws → Rep K G (.obj c fs) (.ref a)
  | hnd (a : Addr) : Rep K G (.hnd a) (.ref a)
  | exc {a dd : Addr} {c : Str} {fs : List (Str × D)} {ws : List (Str × V)} : G dd = some (.xd ws) → RepF K G fs ws → Rep K G (.exc a dd c fs) (.ref a)
  | rol {a : Addr} {o : Obj} {ds : List D} {vs : List V} : G a = some (.frz o (.lst vs)) → RepL K G ds vs → Rep K G (.rol ds) (.ref a)
inductive RepL (K : PySem.W.Frag) (G : Hp) : List D → List V → Prop where
  | nil : RepL K G [] []
  | cons {d : D} {v : V} {ds : List D} {vs : List V} : Rep K G d v → RepL K G ds vs → RepL K G (d :: ds) (v :: vs)
inductive RepK (K : PySem.W.Frag) (G : Hp) : List (Key × D) → List (Key × V) → Prop where
  | nil : RepK K G [] []
  | cons {k : Key} {d : D} {v : V} {ds : List (Key × D)} {vs : List (Key × V)} : Rep K G d v → RepK K G ds vs → RepK K G ((k, d) :: ds) ((k, v) :: vs)
inductive RepF (K : PySem.W.Frag) (G : Hp) : List (Str × D) → List (Str × V) → Prop where
  | nil : RepF K G [] []
  | cons {k : Str} {d : D} {v : V} {ds : List (Str × D)} {vs : List (Str × V)} : Rep K G d v → RepF K G ds vs → RepF K G ((k, d) :: ds) ((k, v) :: vs)
end

def Le (G G' : Hp) : Prop := ∀ a o, G a = some o → ∃ o', G' a = some o' ∧ o' = o
theorem Le.refl (G : Hp) : Le G G := fun a o h => ⟨o, h, rfl⟩
theorem Le.trans {G G1 G2 : Hp} (h : Le G G1) (h' : Le G1 G2) : Le G G2 := fun a o e => by
  obtain ⟨o1, e1, c1⟩ := h a o e
  obtain ⟨o2, e2, c2⟩ := h' a o1 e1
  exact ⟨o2, e2, c2.trans c1⟩
theorem Le.get {G G' : Hp} (h : Le G G') {a : Addr} {o : HO} (e : G a = some o) : G' a = some o := by
  obtain ⟨o', e', c⟩ := h a o e
  rw [e', c]
theorem Le.of_same {G G' : Hp} (h : ∀ a o, G a = some o → G' a = some o) : Le G G' := fun a o e => ⟨o, h a o e, rfl⟩
theorem Le.lst {G G' : Hp} (h : Le G G') {a : Addr} {vs : List V} (e : G a = some (.lst vs)) : G' a = some (.lst vs) := by
  obtain ⟨o, e', c⟩ := h a _ e
  rw [e', c]
theorem Le.ins {G G' : Hp} (h : Le G G') {a C dx : Addr} {ws : List (Str × V)} (e : G a = some (.ins C dx ws)) : G' a = some (.ins C dx ws) := by
  obtain ⟨o, e', c⟩ := h a _ e
  rw [e', c]
theorem Le.sqT {G G' : Hp} (h : Le G G') {K : PySem.W.Frag} {a : Addr} {vs : List V} (e : SqT K G a vs) : SqT K G' a vs := by
  rcases e with (e | ⟨x, e⟩) | e
  · obtain ⟨o, e', c⟩ := h a _ e
    exact .inl (.inl (by rw [e', c]))
  · obtain ⟨o, e', c⟩ := h a _ e
    exact .inl (.inr ⟨x, by rw [e', c]⟩)
  · exact .inr e
mutual
theorem Rep.mono {K : PySem.W.Frag} {G G' : Hp} (h : Le G G') : ∀ {d : D} {v : V}, Rep K G d v → Rep K G' d v
  | _, _, .non => .non
  | _, _, .bl b => .bl b
  | _, _, .int i => .int i
  | _, _, .str x => .str x
  | _, _, .lst e r => .lst (h.lst e) (RepL.mono h r)
  | _, _, .tup e r => .tup (h.sqT e) (RepL.mono h r)
  | _, _, .dct e r => .dct (h.get e) (RepK.mono h r)
  | _, _, .obj e r => .obj (h.ins e) (RepF.mono h r)
  | _, _, .hnd a => .hnd a
  | _, _, .exc e r => .exc (h.get e) (RepF.mono h r)
  | _, _, .rol e r => .rol (h.get e) (RepL.mono h r)
theorem RepL.mono {K : PySem.W.Frag} {G G' : Hp} (h : Le G G') : ∀ {d : List D} {v : List V}, RepL K G d v → RepL K G' d v
  | _, _, .nil => .nil
  | _, _, .cons r t => .cons (Rep.mono h r) (RepL.mono h t)
theorem RepK.mono {K : PySem.W.Frag} {G G' : Hp} (h : Le G G') : ∀ {d : List (Key × D)} {v : List (Key × V)}, RepK K G d v → RepK K G' d v
  | _, _, .nil => .nil
  | _, _, .cons r t => .cons (Rep.mono h r) (RepK.mono h t)
theorem RepF.mono {K : PySem.W.Frag} {G G' : Hp} (h : Le G G') : ∀ {d : List (Str × D)} {v : List (Str × V)}, RepF K G d v → RepF K G' d v
  | _, _, .nil => .nil
  | _, _, .cons r t => .cons (Rep.mono h r) (RepF.mono h t)
end

section
variable {K : PySem.W.Frag} {G : Hp}
theorem RepL.length : ∀ {ds : List D} {vs : List V}, RepL K G ds vs → ds.length = vs.length
  | _, _, .nil => rfl
  | _, _, .cons _ t => by rw [List.length_cons, List.length_cons, RepL.length t]
theorem RepL.get : ∀ {ds : List D} {vs : List V} {i : Nat} {d : D}, RepL K G ds vs → ds[i]? = some d → ∃ v, vs[i]? = some v ∧ Rep K G d v
  | _, _, _, _, .nil, e => by simp at e
  | _, _, 0, _, .cons r _, e => by
    simp at e
    subst e
    exact ⟨_, rfl, r⟩
  | _, _, i + 1, d, .cons _ t, e => by
    obtain ⟨u, h1, h2⟩ := RepL.get (i := i) (d := d) t (by simpa using e)
    exact ⟨u, by simpa using h1, h2⟩
theorem RepL.getV : ∀ {ds : List D} {vs : List V} {i : Nat} {v : V}, RepL K G ds vs → vs[i]? = some v → ∃ d, ds[i]? = some d ∧ Rep K G d v
  | _, _, _, _, .nil, e => by simp at e
  | _, _, 0, _, .cons r _, e => by
    simp at e
    subst e
    exact ⟨_, rfl, r⟩
  | _, _, i + 1, d, .cons _ t, e => by
    obtain ⟨u, h1, h2⟩ := RepL.getV (i := i) (v := d) t (by simpa using e)
    exact ⟨u, by simpa using h1, h2⟩
theorem RepL.append : ∀ {ds es : List D} {vs us : List V}, RepL K G ds vs → RepL K G es us → RepL K G (ds ++ es) (vs ++ us)
  | _, _, _, _, .nil, s => s
  | _, _, _, _, .cons r t, s => .cons r (RepL.append t s)
theorem RepL.set {d : D} {v : V} (r : Rep K G d v) : ∀ {ds : List D} {vs : List V} (i : Nat), RepL K G ds vs → RepL K G (ds.set i d) (vs.set i v)
  | _, _, _, .nil => .nil
  | _, _, 0, .cons _ t => .cons r t
  | _, _, i + 1, .cons q t => .cons q (RepL.set r i t)
theorem RepL.drop : ∀ {ds : List D} {vs : List V} (n : Nat), RepL K G ds vs → RepL K G (ds.drop n) (vs.drop n)
  | _, _, 0, r => r
  | _, _, _ + 1, .nil => .nil
  | _, _, n + 1, .cons _ t => RepL.drop n t
theorem RepL.take : ∀ {ds : List D} {vs : List V} (n : Nat), RepL K G ds vs → RepL K G (ds.take n) (vs.take n)
  | _, _, 0, _ => .nil
  | _, _, _ + 1, .nil => .nil
  | _, _, n + 1, .cons r t => .cons r (RepL.take n t)
theorem RepL.snoc {ds : List D} {vs : List V} {d : D} {v : V} (t : RepL K G ds vs) (r : Rep K G d v) : RepL K G (ds ++ [d]) (vs ++ [v]) := t.append (.cons r .nil)
theorem RepL.rep {ds : List D} {vs : List V} (h : RepL K G ds vs) : ∀ k : Nat, RepL K G (List.replicate k ds).flatten (List.replicate k vs).flatten
  | 0 => .nil
  | k + 1 => by
    rw [List.replicate_succ, List.replicate_succ, List.flatten_cons, List.flatten_cons]
    exact h.append (RepL.rep h k)
theorem RepF.lookup {f : Str} {d : D} : ∀ {fs : List (Str × D)} {ws : List (Str × V)}, RepF K G fs ws → fs.lookup f = some d → ∃ v, ws.lookup f = some v ∧ Rep K G d v
  | _, _, .nil, e => by simp at e
  | _, _, .cons (k := k) (ds := ds) (vs := vs) r t, e => by
    rw [List.lookup_cons] at e ⊢
    cases q : (f == k) with
    | true =>
      rw [q] at e
      simp at e
      subst e
      exact ⟨_, rfl, r⟩
    | false =>
      rw [q] at e
      exact RepF.lookup t e
theorem RepF.lookupN {f : Str} : ∀ {fs : List (Str × D)} {ws : List (Str × V)}, RepF K G fs ws → fs.lookup f = none → ws.lookup f = none
  | _, _, .nil, e => rfl
  | _, _, .cons (k := k) (ds := ds) (vs := vs) r t, e => by
    rw [List.lookup_cons] at e ⊢
    cases q : (f == k) with
    | true =>
      rw [q] at e
      simp at e
    | false =>
      rw [q] at e
      exact RepF.lookupN t e
theorem RepF.length : ∀ {fs : List (Str × D)} {ws : List (Str × V)}, RepF K G fs ws → fs.length = ws.length
  | _, _, .nil => rfl
  | _, _, .cons _ t => by rw [List.length_cons, List.length_cons, RepF.length t]
theorem RepK.length : ∀ {fs : List (Key × D)} {ws : List (Key × V)}, RepK K G fs ws → fs.length = ws.length
  | _, _, .nil => rfl
  | _, _, .cons _ t => by rw [List.length_cons, List.length_cons, RepK.length t]
end

def getD (kvs : List (Key × D)) (k : Key) : Option D := (kvs.find? fun kv => decide (kv.1 = k)).map (·.2)
def putD (kvs : List (Key × D)) (k : Key) (d : D) : List (Key × D) :=
  if kvs.any fun kv => decide (kv.1 = k) then kvs.map fun kv => if kv.1 = k then (kv.1, d) else kv else kvs ++ [(k, d)]
def setF (f : Str) (d : D) : List (Str × D) → List (Str × D)
  | [] => [(f, d)]
  | (g, x) :: r => if g = f then (g, d) :: r else (g, x) :: setF f d r
end DL

end

section
set_option autoImplicit false
namespace DL
open PySem PySem.Spec L2
section
variable {K : PySem.W.Frag} {G : Hp}
theorem getD_cons (k j : Key) (d : D) (r : List (Key × D)) : getD ((k, d) :: r) j = if k = j then some d else getD r j := by
  unfold getD
  rw [List.find?_cons]
  by_cases e : k = j
  · simp [e]
  · simp [e]
theorem valV_cons (k j : Key) (v : V) (r : List (Key × V)) : valV ((k, v) :: r) j = if k = j then some v else valV r j := by
  by_cases e : k = j
  · rw [if_pos e]; exact valV_pos (p := (k, v)) e
  · rw [if_neg e]; exact valV_neg (p := (k, v)) e
theorem RepK.val {k : Key} : ∀ {kvs : List (Key × D)} {ws : List (Key × V)}, RepK K G kvs ws → (∃ d v, getD kvs k = some d ∧ valV ws k = some v ∧ Rep K G d v) ∨ (getD kvs k = none ∧ valV ws k = none)
  | _, _, .nil => .inr ⟨rfl, rfl⟩
  | _, _, .cons (k := j) (d := d) (v := v) r t => by
    rw [getD_cons, valV_cons]
    by_cases e : j = k
    · rw [if_pos e, if_pos e]
      exact .inl ⟨d, v, rfl, rfl, r⟩
    · rw [if_neg e, if_neg e]
      exact RepK.val t
theorem RepK.any {k : Key} : ∀ {kvs : List (Key × D)} {ws : List (Key × V)}, RepK K G kvs ws → (kvs.any fun kv => decide (kv.1 = k)) = ws.any fun kv => decide (kv.1 = k)
  | _, _, .nil => rfl
  | _, _, .cons r t => by rw [List.any_cons, List.any_cons, RepK.any t]
theorem RepK.repl {k : Key} {d : D} {v : V} (r : Rep K G d v) : ∀ {kvs : List (Key × D)} {ws : List (Key × V)}, RepK K G kvs ws → RepK K G (kvs.map fun kv => if kv.1 = k then (kv.1, d) else kv) (ws.map fun kv => if kv.1 = k then (kv.1, v) else kv)
  | _, _, .nil => .nil
  | _, _, .cons (k := j) q t => by
    rw [List.map_cons, List.map_cons]
    by_cases e : j = k
    · rw [if_pos e, if_pos e]
      exact .cons r (RepK.repl r t)
    · rw [if_neg e, if_neg e]
      exact .cons q (RepK.repl r t)
theorem RepK.snoc {k : Key} {d : D} {v : V} (r : Rep K G d v) : ∀ {kvs : List (Key × D)} {ws : List (Key × V)}, RepK K G kvs ws → RepK K G (kvs ++ [(k, d)]) (ws ++ [(k, v)])
  | _, _, .nil => .cons r .nil
  | _, _, .cons q t => .cons q (RepK.snoc r t)
theorem RepK.put {k : Key} {d : D} {v : V} (r : Rep K G d v) {kvs : List (Key × D)} {ws : List (Key × V)} (h : RepK K G kvs ws) : RepK K G (putD kvs k d) (putK ws k v) := by
  unfold putD putK
  rw [h.any (k := k)]
  cases (ws.any fun kv => decide (kv.1 = k)) with
  | true => exact h.repl r
  | false => exact h.snoc r
theorem RepF.put {f : Str} {d : D} {v : V} (r : Rep K G d v) : ∀ {fs : List (Str × D)} {ws : List (Str × V)}, RepF K G fs ws → RepF K G (setF f d fs) (putF f v ws)
  | _, _, .nil => .cons r .nil
  | _, _, .cons (k := g) q t => by
    unfold setF putF
    by_cases e : g = f
    · rw [if_pos e, if_pos e]
      exact .cons r t
    · rw [if_neg e, if_neg e]
      exact .cons q (RepF.put r t)
end

structure Wd where
  rg : Addr → Prop
  J : Nat → Hp → Prop
  stable : ∀ n H H', (∀ a, rg a → H' a = H a) → (∀ a e, H a = some (.ext e) → H' a = some (.ext e)) → J n H → J n H'
  there : ∀ n H a, J n H → rg a → H a ≠ none
def Wd.none : Wd := ⟨fun _ => False, fun _ _ => True, fun _ _ _ _ _ _ => trivial, fun _ _ _ _ h => h.elim⟩

structure Step (W : Wd) (H G H' G' : Hp) : Prop where
  fr : ∀ a o, H a = some o → ¬ W.rg a → H' a = some o
  le : Le G G'
  hh : Le G' H'
  new : ∀ a, G' a ≠ none → G a ≠ none ∨ (H a = none ∧ ¬ W.rg a)
theorem Step.refl (W : Wd) {H G : Hp} (h : Le G H) : Step W H G H G := ⟨fun _ _ e _ => e, Le.refl G, h, fun _ e => .inl e⟩
theorem Step.trans {W : Wd} {H G H1 G1 H2 G2 : Hp} (s : Step W H G H1 G1) (t : Step W H1 G1 H2 G2) : Step W H G H2 G2 := by
  refine ⟨fun a o e r => t.fr a o (s.fr a o e r) r, s.le.trans t.le, t.hh, fun a e => ?_⟩
  rcases t.new a e with e | ⟨e, r⟩
  · exact s.new a e
  · refine .inr ⟨?_, r⟩
    cases q : H a with
    | none => rfl
    | some o => rw [s.fr a o q r] at e; cases e
structure StepP (H G H' G' : Hp) : Prop where
  fr : ∀ a o, H a = some o → H' a = some o
  le : Le G G'
  hh : Le G' H'
  new : ∀ a, G' a ≠ none → G a ≠ none ∨ H a = none
theorem StepP.refl {H G : Hp} (h : Le G H) : StepP H G H G := ⟨fun _ _ e => e, Le.refl G, h, fun _ e => .inl e⟩
theorem StepP.step {W : Wd} {n : Nat} {H G H' G' : Hp} (s : StepP H G H' G') (j : W.J n H) : Step W H G H' G' :=
  ⟨fun a o e _ => s.fr a o e, s.le, s.hh, fun a e => (s.new a e).imp (fun z => z) fun z => ⟨z, fun r => W.there n H a j r z⟩⟩
theorem StepP.J {W : Wd} {n : Nat} {H G H' G' : Hp} (s : StepP H G H' G') (j : W.J n H) : W.J n H' := by
  refine W.stable n H H' (fun a r => ?_) (fun a e q => s.fr a _ q) j
  cases q : H a with
  | none => exact (W.there n H a j r q).elim
  | some o => exact s.fr a o q
theorem StepP.made {H G : Hp} {p : Addr} {o : HO} (h : Le G H) (np : H p = none) : StepP H G (upd H p o) (upd G p o) := by
  have gp : G p = none := by
    cases q : G p with
    | none => rfl
    | some u =>
      obtain ⟨o', e, _⟩ := h p u q
      rw [np] at e; cases e
  refine ⟨fun a u e => by rw [upd_ne (ne_of_none e np)]; exact e, .of_same fun a u e => by rw [upd_ne (ne_of_none e gp)]; exact e, fun a u e => ?_, fun a e => ?_⟩
  · by_cases z : a = p
    · subst z
      rw [upd_same] at e
      cases e
      exact ⟨_, upd_same, rfl⟩
    · rw [upd_ne z] at e
      obtain ⟨o', e', c⟩ := h a u e
      exact ⟨o', by rw [upd_ne z]; exact e', c⟩
  · by_cases z : a = p
    · subst z
      exact .inr np
    · rw [upd_ne z] at e
      exact .inl e
theorem StepP.laid {H G : Hp} {p : Addr} {o : HO} (h : Le G H) (np : H p = none) : StepP H G (upd H p o) G := by
  refine ⟨fun a u e => by rw [upd_ne (ne_of_none e np)]; exact e, Le.refl G, fun a u e => ?_, fun a e => .inl e⟩
  obtain ⟨o', e', c⟩ := h a u e
  exact ⟨o', by rw [upd_ne (ne_of_none e' np)]; exact e', c⟩
theorem StepP.trans {H G H1 G1 H2 G2 : Hp} (s : StepP H G H1 G1) (t : StepP H1 G1 H2 G2) : StepP H G H2 G2 := by
  refine ⟨fun a o e => t.fr a o (s.fr a o e), s.le.trans t.le, t.hh, fun a e => ?_⟩
  rcases t.new a e with e | e
  · exact s.new a e
  · refine .inr ?_
    cases q : H a with
    | none => rfl
    | some o => rw [s.fr a o q] at e; cases e

inductive Sl where
  | val (d : D)
  | own (d : D)
  | gst (r : D) (gs : List (Addr × D))
abbrev Env := List (Option Sl)
def OwnAt (K : PySem.W.Frag) (G H : Hp) (a : Addr) : D → Prop
  | .lst ds => ∃ vs, H a = some (.lst vs) ∧ RepL K G ds vs
  | .dct kvs => ∃ ws, H a = some (.dK ws) ∧ RepK K G kvs ws
  | .obj c fs => ∃ dx ws, H a = some (.ins (ca K c) dx ws) ∧ RepF K G fs ws
  | _ => False
theorem OwnAt.noExt {K : PySem.W.Frag} {G H : Hp} {a : Addr} {d : D} {e : Heap → Prop} (h : OwnAt K G H a d) (q : H a = some (.ext e)) : False := by
  cases d with
  | lst ds => obtain ⟨vs, z, _⟩ := h; rw [q] at z; cases z
  | dct ds => obtain ⟨vs, z, _⟩ := h; rw [q] at z; cases z
  | obj c fs => obtain ⟨_, vs, z, _⟩ := h; rw [q] at z; cases z
  | _ => exact h.elim
theorem OwnAt.there {K : PySem.W.Frag} {G H : Hp} {a : Addr} {d : D} (h : OwnAt K G H a d) : ∃ o, H a = some o := by
  cases d with
  | lst ds => obtain ⟨vs, e, _⟩ := h; exact ⟨_, e⟩
  | dct ds => obtain ⟨vs, e, _⟩ := h; exact ⟨_, e⟩
  | obj c fs => obtain ⟨dx, ws, e, _⟩ := h; exact ⟨_, e⟩
  | _ => exact h.elim
theorem OwnAt.mono {K : PySem.W.Frag} {G H G' H' : Hp} {a : Addr} {d : D} (h : OwnAt K G H a d) (le : Le G G') (fr : ∀ o, H a = some o → H' a = some o) : OwnAt K G' H' a d := by
  cases d with
  | lst ds => obtain ⟨vs, e, r⟩ := h; exact ⟨vs, fr _ e, r.mono le⟩
  | dct ds => obtain ⟨vs, e, r⟩ := h; exact ⟨vs, fr _ e, r.mono le⟩
  | obj c fs => obtain ⟨dx, ws, e, r⟩ := h; exact ⟨dx, ws, fr _ e, r.mono le⟩
  | _ => exact h.elim
structure Bs where
  W : Wd
  K : PySem.W.Frag
  H0 : Hp
  G0 : Hp
  self : Option Addr
structure Gh (B : Bs) (σ : St) (H : Hp) (ρ : Env) (G : Hp) (α : Nat → Addr) : Prop where
  gst : ∀ (i : Nat) (r : D) (gs : List (Addr × D)), ρ[i]? = some (some (.gst r gs)) → (∃ v, σ[i]? = some (some v) ∧ Rep B.K G r v) ∧ (gs.map (·.1)).Nodup
  at_ : ∀ (i : Nat) (r : D) (gs : List (Addr × D)), ρ[i]? = some (some (.gst r gs)) → ∀ g ∈ gs, G g.1 = none ∧ B.H0 g.1 = none ∧ ¬ B.W.rg g.1 ∧ OwnAt B.K G H g.1 g.2
  sep : ∀ (i j : Nat) (r r' : D) (gs gs' : List (Addr × D)), ρ[i]? = some (some (.gst r gs)) → ρ[j]? = some (some (.gst r' gs')) → i ≠ j → ∀ g ∈ gs, ∀ g' ∈ gs', g.1 ≠ g'.1
  off : ∀ (i j : Nat) (r : D) (gs : List (Addr × D)) (d : D), ρ[i]? = some (some (.gst r gs)) → ρ[j]? = some (some (.own d)) → ∀ g ∈ gs, g.1 ≠ α j
  p1 : ∀ (a : Addr) (r : D) (gs : List (Addr × D)), B.self = some a → ρ[0]? = some (some (.gst r gs)) → r = .hnd a
theorem Gh.nil {B : Bs} {σ : St} {H : Hp} {ρ : Env} {G : Hp} {α : Nat → Addr} (h : ∀ (i : Nat) (r : D) (gs : List (Addr × D)), ρ[i]? ≠ some (some (.gst r gs))) : Gh B σ H ρ G α :=
  ⟨fun i r gs e => (h i r gs e).elim, fun i r gs e => (h i r gs e).elim, fun i _ r _ gs _ e => (h i r gs e).elim, fun i _ r gs _ e => (h i r gs e).elim, fun _ r gs _ e => (h 0 r gs e).elim⟩
theorem Gh.of {B B' : Bs} {σ σ' : St} {H H' : Hp} {ρ ρ' : Env} {G G' : Hp} {α α' : Nat → Addr} (h : Gh B σ H ρ G α) (eK : B'.K = B.K) (eH : B'.H0 = B.H0) (eW : B'.W = B.W) (eS : B'.self = B.self)
    (hg : ∀ (j : Nat) (r : D) (gs : List (Addr × D)), ρ'[j]? = some (some (.gst r gs)) → ρ[j]? = some (some (.gst r gs)) ∧ ∀ v, σ[j]? = some (some v) → σ'[j]? = some (some v))
    (ho : ∀ (j : Nat) (d : D), ρ'[j]? = some (some (.own d)) → (∃ d', ρ[j]? = some (some (.own d')) ∧ α' j = α j) ∨ ∀ (i : Nat) (r : D) (gs : List (Addr × D)), ρ'[i]? = some (some (.gst r gs)) → ∀ g ∈ gs, g.1 ≠ α' j)
    (hh : ∀ (i : Nat) (r : D) (gs : List (Addr × D)), ρ'[i]? = some (some (.gst r gs)) → ∀ g ∈ gs, G g.1 = none → ¬ B.W.rg g.1 → (∃ o, H g.1 = some o) → G' g.1 = none ∧ ∀ o, H g.1 = some o → H' g.1 = some o)
    (le : Le G G') : Gh B' σ' H' ρ' G' α' := by
  refine ⟨fun i r gs e => ?_, fun i r gs e g hm => ?_, fun i j r r' gs gs' e e' => h.sep i j r r' gs gs' (hg i r gs e).1 (hg j r' gs' e').1, fun i j r gs d e e' => ?_, fun a r gs hs e => h.p1 a r gs (eS ▸ hs) (hg 0 r gs e).1⟩
  · obtain ⟨e1, e2⟩ := hg i r gs e
    obtain ⟨⟨v, h1, h2⟩, h3⟩ := h.gst i r gs e1
    exact ⟨⟨v, e2 v h1, eK ▸ h2.mono le⟩, h3⟩
  · obtain ⟨h1, h2, h3, h4⟩ := h.at_ i r gs (hg i r gs e).1 g hm
    obtain ⟨k1, k2⟩ := hh i r gs e g hm h1 h3 h4.there
    exact ⟨k1, eH ▸ h2, eW ▸ h3, eK ▸ h4.mono le k2⟩
  · rcases ho j d e' with ⟨d', k1, k2⟩ | k
    · rw [k2]
      exact h.off i j r gs d' (hg i r gs e).1 k1
    · exact k i r gs e
structure RelB (B : Bs) (σ : St) (H : Hp) (ρ : Env) (n : Nat) (G : Hp) (α : Nat → Addr) : Prop where
  st : Step B.W B.H0 B.G0 H G
  rg : ∀ a, B.W.rg a → G a = none
  J : B.W.J n H
  len : σ.length = ρ.length
  val : ∀ (i : Nat) (d : D), ρ[i]? = some (some (.val d)) → ∃ v, σ[i]? = some (some v) ∧ Rep B.K G d v
  own : ∀ (i : Nat) (d : D), ρ[i]? = some (some (.own d)) → σ[i]? = some (some (.ref (α i))) ∧ G (α i) = none ∧ B.H0 (α i) = none ∧ ¬ B.W.rg (α i) ∧ OwnAt B.K G H (α i) d
  inj : ∀ (i j : Nat) (d e : D), ρ[i]? = some (some (.own d)) → ρ[j]? = some (some (.own e)) → α i = α j → i = j
  p0 : ∀ (a : Addr) (d : D), B.self = some a → ρ[0]? = some (some (.own d)) → α 0 = a
  gh : Gh B σ H ρ G α
theorem RelB.step {B : Bs} {σ : St} {H : Hp} {ρ : Env} {n : Nat} {G : Hp} {α : Nat → Addr} (R : RelB B σ H ρ n G α) {H' G' : Hp} {n' : Nat} (s : Step B.W H G H' G') (j : B.W.J n' H') : RelB B σ H' ρ n' G' α := by
  refine ⟨R.st.trans s, fun a r => ?_, j, R.len, fun i d e => ?_, fun i d e => ?_, R.inj, R.p0, R.gh.of rfl rfl rfl rfl (fun j r gs e => ⟨e, fun _ h => h⟩) (fun j d e => .inl ⟨d, e, rfl⟩) (fun i r gs e g hm h1 h3 h4 => ⟨?_, fun o q => s.fr _ o q h3⟩) s.le⟩
  · cases q : G' a with
    | none => rfl
    | some o =>
      rcases s.new a (by rw [q]; exact fun z => nomatch z) with z | ⟨_, z⟩
      · exact (z (R.rg a r)).elim
      · exact (z r).elim
  · obtain ⟨v, h1, h2⟩ := R.val i d e
    exact ⟨v, h1, h2.mono s.le⟩
  · obtain ⟨h1, h2, h3, h4, h5⟩ := R.own i d e
    refine ⟨h1, ?_, h3, h4, h5.mono s.le fun o q => s.fr _ o q h4⟩
    cases q : G' (α i) with
    | none => rfl
    | some o =>
      rcases s.new (α i) (by rw [q]; exact fun z => nomatch z) with z | ⟨z, _⟩
      · exact (z h2).elim
      · obtain ⟨o', z'⟩ := h5.there
        rw [z] at z'; cases z'
  · cases q : G' g.1 with
    | none => rfl
    | some o =>
      obtain ⟨o', h4⟩ := h4
      rcases s.new g.1 (by rw [q]; exact fun z => nomatch z) with z | ⟨z, _⟩
      · exact (z h1).elim
      · rw [z] at h4; cases h4
theorem RelB.le {B : Bs} {σ : St} {H : Hp} {ρ : Env} {n : Nat} {G : Hp} {α : Nat → Addr} (R : RelB B σ H ρ n G α) : Le G H := R.st.hh

abbrev Xn := Str × List (Str × D)
structure DX where
  ex : Xn → Nat → Prop
  w : Wd
abbrev DQ := D → Nat → Prop
abbrev DE := DX → Env → Nat → DQ → Prop
abbrev DT := DX → Env → Nat → (Bool → Nat → Prop) → Prop
abbrev DA := DX → Env → Nat → (List D → Nat → Prop) → Prop
def XRep (K : PySem.W.Frag) (W : Wd) (Hs G H : Hp) (e : Xn) (c : Value) (dd : Option Addr) : Prop :=
  c = .ref (ca K e.1) ∧ match dd with
    | some a => (Hs a = none ∧ ¬ W.rg a) ∧ ∃ ws, H a = some (.xd ws) ∧ RepF K G e.2 ws
    | none => e.2 = []
theorem XRep.backF {K : PySem.W.Frag} {W : Wd} {Hs H1 G H : Hp} {e : Xn} {c : Value} {dd : Option Addr} (r : XRep K W H1 G H e c dd) (fr : ∀ a o, Hs a = some o → ¬ W.rg a → H1 a = some o) : XRep K W Hs G H e c dd := by
  obtain ⟨h1, h2⟩ := r
  refine ⟨h1, ?_⟩
  cases dd with
  | none => exact h2
  | some a =>
    obtain ⟨⟨n1, n2⟩, h3⟩ := h2
    refine ⟨⟨?_, n2⟩, h3⟩
    cases q : Hs a with
    | none => rfl
    | some o => rw [fr a o q n2] at n1; cases n1
theorem XRep.back {K : PySem.W.Frag} {W : Wd} {Hs Gs H1 G1 G H : Hp} {e : Xn} {c : Value} {dd : Option Addr} (r : XRep K W H1 G H e c dd) (s : Step W Hs Gs H1 G1) : XRep K W Hs G H e c dd := r.backF s.fr
def XL (B : Bs) (W : WX) (σ : St) (H G : Hp) (x : DX) : Prop :=
  x.w = B.W ∧ ∀ (c : Value) (dd : Option Addr) (H' G' : Hp) (e : Xn) (n' : Nat), Step B.W H G H' G' → B.W.J n' H' → XRep B.K B.W H G' H' e c dd → x.ex e n' → W c dd σ H'
theorem XL.step {B : Bs} {W : WX} {σ : St} {H G H1 G1 : Hp} {x : DX} (h : XL B W σ H G x) (s : Step B.W H G H1 G1) : XL B W σ H1 G1 x :=
  ⟨h.1, fun c dd H' G' e n' t j r q => h.2 c dd H' G' e n' (s.trans t) j (r.back s) q⟩
def RepB (K : PySem.W.Frag) (W : Wd) (G H : Hp) (d : D) (v : V) : Prop :=
  Rep K G d v ∨ ∃ a, v = .ref a ∧ G a = none ∧ ¬ W.rg a ∧ OwnAt K G H a d
theorem RepB.step {K : PySem.W.Frag} {W : Wd} {G H G' H' : Hp} {d : D} {v : V} (r : RepB K W G H d v) (s : Step W H G H' G') : RepB K W G' H' d v := by
  rcases r with r | ⟨a, e, g, h4, h5⟩
  · exact .inl (r.mono s.le)
  · refine .inr ⟨a, e, ?_, h4, h5.mono s.le fun o q => s.fr _ o q h4⟩
    cases q : G' a with
    | none => rfl
    | some o =>
      rcases s.new a (by rw [q]; exact fun z => nomatch z) with z | ⟨z, _⟩
      · exact (z g).elim
      · obtain ⟨o', z'⟩ := h5.there
        rw [z] at z'; cases z'
inductive RepBL (K : PySem.W.Frag) (W : Wd) (G H : Hp) : List D → List V → Prop where
  | nil : RepBL K W G H [] []
  | cons {d : D} {v : V} {ds : List D} {vs : List V} : RepB K W G H d v → RepBL K W G H ds vs → RepBL K W G H (d :: ds) (v :: vs)
theorem RepBL.step {K : PySem.W.Frag} {W : Wd} {G H G' H' : Hp} (s : Step W H G H' G') : ∀ {ds : List D} {vs : List V}, RepBL K W G H ds vs → RepBL K W G' H' ds vs
  | _, _, .nil => .nil
  | _, _, .cons r t => .cons (r.step s) (RepBL.step s t)

def ED (K : PySem.W.Frag) (W : WX) (t : TE) (δ : DE) : Prop :=
  ∀ (B : Bs) (σ : St) (H : Hp) (ρ : Env) (n : Nat) (G : Hp) (α : Nat → Addr) (Q : VK) (x : DX) (q : DQ), B.K = K → RelB B σ H ρ n G α → XL B W σ H G x → δ x ρ n q →
    (∀ v H' G' d n', Step B.W H G H' G' → B.W.J n' H' → Rep K G' d v → q d n' → Q v H') → t σ H Q
def EB (K : PySem.W.Frag) (W : WX) (t : TE) (δ : DE) : Prop :=
  ∀ (B : Bs) (σ : St) (H : Hp) (ρ : Env) (n : Nat) (G : Hp) (α : Nat → Addr) (Q : VK) (x : DX) (q : DQ), B.K = K → RelB B σ H ρ n G α → XL B W σ H G x → δ x ρ n q →
    (∀ v H' G' d n', Step B.W H G H' G' → B.W.J n' H' → RepB K B.W G' H' d v → q d n' → Q v H') → t σ H Q
def EF (K : PySem.W.Frag) (W : WX) (t : TE) (δ : DE) : Prop :=
  ∀ (B : Bs) (σ : St) (H : Hp) (ρ : Env) (n : Nat) (G : Hp) (α : Nat → Addr) (Q : VK) (x : DX) (q : DQ), B.K = K → RelB B σ H ρ n G α → XL B W σ H G x → δ x ρ n q →
    (∀ a H' G' d n', Step B.W H G H' G' → B.W.J n' H' → H a = none → G' a = none → ¬ B.W.rg a → OwnAt K G' H' a d → q d n' → Q (.ref a) H') → t σ H Q
def ET (K : PySem.W.Frag) (W : WX) (t : TT) (δ : DT) : Prop :=
  ∀ (B : Bs) (σ : St) (H : Hp) (ρ : Env) (n : Nat) (G : Hp) (α : Nat → Addr) (Q : Bool → Hp → Prop) (x : DX) (q : Bool → Nat → Prop), B.K = K → RelB B σ H ρ n G α → XL B W σ H G x → δ x ρ n q →
    (∀ b H' G' n', Step B.W H G H' G' → B.W.J n' H' → q b n' → Q b H') → t σ H Q
def EA (K : PySem.W.Frag) (W : WX) (t : TA) (δ : DA) : Prop :=
  ∀ (B : Bs) (σ : St) (H : Hp) (ρ : Env) (n : Nat) (G : Hp) (α : Nat → Addr) (Q : List V → Hp → Prop) (x : DX) (q : List D → Nat → Prop), B.K = K → RelB B σ H ρ n G α → XL B W σ H G x → δ x ρ n q →
    (∀ vs H' G' ds n', Step B.W H G H' G' → B.W.J n' H' → RepL K G' ds vs → q ds n' → Q vs H') → t σ H Q
def EAB (K : PySem.W.Frag) (W : WX) (t : TA) (δ : DA) : Prop :=
  ∀ (B : Bs) (σ : St) (H : Hp) (ρ : Env) (n : Nat) (G : Hp) (α : Nat → Addr) (Q : List V → Hp → Prop) (x : DX) (q : List D → Nat → Prop), B.K = K → RelB B σ H ρ n G α → XL B W σ H G x → δ x ρ n q →
    (∀ vs H' G' ds n', Step B.W H G H' G' → B.W.J n' H' → RepBL K B.W G' H' ds vs → q ds n' → Q vs H') → t σ H Q
def PD (X : Cx) (W : WX) (e : Expr) (δ : DE) : Prop := ∃ t, PE X e t ∧ ED X.K W t δ
def PB (X : Cx) (W : WX) (e : Expr) (δ : DE) : Prop := ∃ t, PE X e t ∧ EB X.K W t δ
def PF (X : Cx) (W : WX) (e : Expr) (δ : DE) : Prop := ∃ t, PE X e t ∧ EF X.K W t δ
def PTD (X : Cx) (W : WX) (e : Expr) (δ : DT) : Prop := ∃ t, PT X e t ∧ ET X.K W t δ
def PWD (X : Cx) (W : WX) (e : Expr) (δ : DT) : Prop := ∃ t, PW X e t ∧ ET X.K W t δ
def PAD (X : Cx) (W : WX) (es : List Expr) (δ : DA) : Prop := ∃ t, PA X es t ∧ EA X.K W t δ
def PAB (X : Cx) (W : WX) (es : List Expr) (δ : DA) : Prop := ∃ t, PA X es t ∧ EAB X.K W t δ
section
variable {X : Cx} {W : WX} {e : Expr} {δ : DE}
theorem PD.pb (h : PD X W e δ) : PB X W e δ := by
  obtain ⟨t, p, h⟩ := h
  exact ⟨t, p, fun B σ H ρ n G α Q x q hK R hx hd k => h B σ H ρ n G α Q x q hK R hx hd fun v H' G' d n' s j r => k v H' G' d n' s j (.inl r)⟩
theorem PWD.pt {δ : DT} (h : PWD X W e δ) : PTD X W e δ := by
  obtain ⟨t, p, h⟩ := h
  exact ⟨t, p.pt, h⟩
def LkP (Q : Hp → Prop) (H : Hp) : Prop := Q H ∨ ∃ d u, H d = some u ∧ Mut (some u) ∧ ∀ od, Q (upd H d (.frz od u))
def tLk (t : TE) : TE := fun σ H Q => t σ H fun v H' => LkP (Q v) H'
theorem LkP.inv {X : Cx} {pins : List (Addr × Obj)} {σ : St} {H : Hp} {s : Shared} {Q : Hp → Prop} (I : Inv X pins σ H s) (h : LkP Q H) : ∃ H', Inv X pins σ H' s ∧ Q H' := by
  rcases h with h | ⟨d, u, e, mu, h⟩
  · exact ⟨H, I, h⟩
  · obtain ⟨od, I1⟩ := I.lock e mu
    exact ⟨_, I1, h od⟩
theorem pe_lk {X : Cx} {e : Expr} {t : TE} (h : PE X e t) : PE X e (tLk t) := by
  refine ⟨fun pins s σ H Q I hw => thn (h.run pins s σ H _ I hw) fun v s1 ⟨x, H1, I1, r, q⟩ => ?_⟩
  obtain ⟨H2, I2, q⟩ := LkP.inv I1 q
  exact ⟨x, H2, I2, r, q⟩
theorem pss_lk {X : Cx} {st : List Stmt} {t : TS} (h : PSs X st t) : PSs X st (fun D σ H => LkP (t D σ) H) := by
  refine ⟨fun pins s σ H D I hw => ?_⟩
  obtain ⟨H2, I2, q⟩ := LkP.inv I hw
  exact h.run pins s σ H2 D I2 q
theorem freeze {K : PySem.W.Frag} {G H : Hp} {a : Addr} {d : D} {Q : Hp → Prop} (le : Le G H) (hg : G a = none) (h : OwnAt K G H a d) (k : ∀ H1 o, H1 a = some o → (∀ b, b ≠ a → H1 b = H b) → Le (upd G a o) H1 → Le G (upd G a o) → Rep K (upd G a o) d (.ref a) → Q H1) : LkP Q H := by
  have l2 : ∀ o, Le G (upd G a o) := fun o => .of_same fun b u q => by rw [upd_ne (ne_of_none q hg)]; exact q
  have l1 : ∀ o, H a = some o → Le (upd G a o) H := fun o e b u q => by
    by_cases z : b = a
    · subst z
      rw [upd_same] at q
      cases q
      exact ⟨_, e, rfl⟩
    · rw [upd_ne z] at q
      exact le b u q
  cases d with
  | lst ds =>
    obtain ⟨vs, e, r⟩ := h
    exact .inl (k H _ e (fun _ _ => rfl) (l1 _ e) (l2 _) (.lst upd_same (r.mono (l2 _))))
  | dct ds =>
    obtain ⟨vs, e, r⟩ := h
    refine .inr ⟨a, _, e, trivial, fun od => k _ _ upd_same (fun b hb => upd_ne hb) (fun b u q => ?_) (l2 _) (.dct upd_same (r.mono (l2 _)))⟩
    by_cases z : b = a
    · subst z
      rw [upd_same] at q ⊢
      cases q
      exact ⟨_, rfl, rfl⟩
    · rw [upd_ne z] at q ⊢
      exact le b u q
  | obj c fs =>
    obtain ⟨dx, ws, e, r⟩ := h
    exact .inl (k H _ e (fun _ _ => rfl) (l1 _ e) (l2 _) (.obj upd_same (r.mono (l2 _))))
  | _ => exact h.elim
theorem freezeL {K : PySem.W.Frag} {G H : Hp} {a : Addr} {d : D} (le : Le G H) (hg : G a = none) (h : OwnAt K G H a d) (nd : ∀ kvs, d ≠ .dct kvs) : ∃ o, H a = some o ∧ Le (upd G a o) H ∧ Le G (upd G a o) ∧ Rep K (upd G a o) d (.ref a) := by
  have go : ∀ o, H a = some o → Le (upd G a o) H ∧ Le G (upd G a o) := fun o e => by
    refine ⟨fun b u q => ?_, .of_same fun b u q => by rw [upd_ne (ne_of_none q hg)]; exact q⟩
    by_cases z : b = a
    · subst z
      rw [upd_same] at q
      cases q
      exact ⟨_, e, rfl⟩
    · rw [upd_ne z] at q
      exact le b u q
  cases d with
  | lst ds =>
    obtain ⟨vs, e, r⟩ := h
    obtain ⟨l1, l2⟩ := go _ e
    exact ⟨_, e, l1, l2, .lst upd_same (r.mono l2)⟩
  | dct ds => exact (nd _ rfl).elim
  | obj c fs =>
    obtain ⟨dx, ws, e, r⟩ := h
    obtain ⟨l1, l2⟩ := go _ e
    exact ⟨_, e, l1, l2, .obj upd_same (r.mono l2)⟩
  | _ => exact h.elim
theorem Step.frozen {W : Wd} {H G H' G' H1 : Hp} {a : Addr} {o : HO} (s : Step W H G H' G') (np : H a = none) (nr : ¬ W.rg a) (off : ∀ b, b ≠ a → H1 b = H' b) (l1 : Le (upd G' a o) H1) (l2 : Le G' (upd G' a o)) : Step W H G H1 (upd G' a o) := by
  refine ⟨fun b u e r => by rw [off b (ne_of_none e np)]; exact s.fr b u e r, s.le.trans l2, l1, fun b z => ?_⟩
  by_cases q : b = a
  · subst q
    exact .inr ⟨np, nr⟩
  · rw [upd_ne q] at z
    exact s.new b z
theorem PF.pd (h : PF X W e δ) : PD X W e δ := by
  obtain ⟨t, p, h⟩ := h
  refine ⟨_, pe_lk p, fun B σ H ρ n G α Q x q hK R hx hd k => h B σ H ρ n G α _ x q hK R hx hd fun a H' G' d n' s j np ng nr o hq => ?_⟩
  refine freeze s.hh ng o fun H1 ob e off l1 l2 r => ?_
  exact k _ H1 (upd G' a ob) d n' (s.frozen np nr off l1 l2) (B.W.stable _ _ _ (fun b hb => off b fun z => nr (z ▸ hb)) (fun b e q => (off b fun z => o.noExt (z ▸ q)).trans q) j) r hq
theorem PF.pb (h : PF X W e δ) : PB X W e δ := h.pd.pb
end

def dVar (i : Nat) : DE := fun _ ρ n q => match ρ[i]? with
  | some (some (.val d)) => q d n
  | some (some (.gst r _)) => q r n
  | _ => False
def lkG : List (Addr × D) → Addr → Option D
  | [], _ => none
  | g :: gs, b => if g.1 = b then some g.2 else lkG gs b
def resG (gs : List (Addr × D)) : D → D
  | .hnd a => (lkG gs a).getD (.hnd a)
  | d => d
theorem lkG_mem {b : Addr} {d : D} : ∀ {gs : List (Addr × D)}, lkG gs b = some d → (b, d) ∈ gs
  | [], h => nomatch h
  | g :: gs, h => by
    unfold lkG at h
    split at h
    · rename_i e
      cases h
      rw [← e]
      exact List.mem_cons_self ..
    · exact List.mem_cons_of_mem _ (lkG_mem h)
def bVar (i : Nat) : DE := fun _ ρ n q => match ρ[i]? with
  | some (some (.val d)) => q d n
  | some (some (.own d)) => q d n
  | some (some (.gst r gs)) => q (resG gs r) n
  | _ => False
def dC (d : D) : DE := fun _ _ n q => q d n
section
variable {X : Cx} {W : WX} {pos : Pos}
theorem pd_var (i : Nat) {x : Str} (hN : X.N[i]? = some x := by rfl) (hv : Vis X.env.scope x := by first | exact Or.inl rfl | exact Or.inr (Or.inl rfl) | exact Or.inr (Or.inr rfl)) (hd : (x == ("__debug__" : Str)) = false := by decide)
    (hcd : (x == ("__classdict__" : Str)) = false := by decide) : PD X W (.Name x pos) (dVar i) := by
  refine ⟨tVar i, pe_var hN hv hd hcd, fun B σ H ρ n G α Q x q hK R hx h k => ?_⟩
  unfold dVar at h
  split at h
  · rename_i d e
    obtain ⟨v, e1, r⟩ := R.val i d e
    exact ⟨v, e1, k v H G d n (.refl _ R.le) R.J (hK ▸ r) h⟩
  · rename_i r gs e
    obtain ⟨⟨v, e1, r⟩, _⟩ := R.gh.gst i r gs e
    exact ⟨v, e1, k v H G _ n (.refl _ R.le) R.J (hK ▸ r) h⟩
  · exact h.elim
theorem pb_var (i : Nat) {x : Str} (hN : X.N[i]? = some x := by rfl) (hv : Vis X.env.scope x := by first | exact Or.inl rfl | exact Or.inr (Or.inl rfl) | exact Or.inr (Or.inr rfl)) (hd : (x == ("__debug__" : Str)) = false := by decide)
    (hcd : (x == ("__classdict__" : Str)) = false := by decide) : PB X W (.Name x pos) (bVar i) := by
  refine ⟨tVar i, pe_var hN hv hd hcd, fun B σ H ρ n G α Q x q hK R hx h k => ?_⟩
  unfold bVar at h
  split at h
  · rename_i d e
    obtain ⟨v, e1, r⟩ := R.val i d e
    exact ⟨v, e1, k v H G d n (.refl _ R.le) R.J (.inl (hK ▸ r)) h⟩
  · rename_i d e
    obtain ⟨e1, g, _, nr, o⟩ := R.own i d e
    exact ⟨_, e1, k _ H G d n (.refl _ R.le) R.J (.inr ⟨_, rfl, g, nr, hK ▸ o⟩) h⟩
  · rename_i r gs e
    obtain ⟨⟨v, e1, hr⟩, _⟩ := R.gh.gst i r gs e
    refine ⟨v, e1, k v H G _ n (.refl _ R.le) R.J ?_ h⟩
    cases r with
    | hnd a =>
      cases hr
      cases q : lkG gs a with
      | none =>
        show RepB X.K B.W G H ((lkG gs a).getD (.hnd a)) _
        rw [q]
        exact .inl (.hnd a)
      | some d =>
        obtain ⟨h1, _, h3, h4⟩ := R.gh.at_ i _ gs e _ (lkG_mem q)
        show RepB X.K B.W G H ((lkG gs a).getD (.hnd a)) _
        rw [q]
        exact .inr ⟨a, rfl, h1, h3, hK ▸ h4⟩
    | _ => exact .inl (hK ▸ hr)
  · exact h.elim
theorem pd_c {e : Expr} {v : V} {d : D} (h : PE X e (tC v)) (r : ∀ G, Rep X.K G d v) : PD X W e (dC d) :=
  ⟨tC v, h, fun B σ H ρ n G α Q x q hK R hx h k => k v H G d n (.refl _ R.le) R.J (r G) h⟩
theorem pd_int {i j} : PD X W (.Constant (.int i) j pos) (dC (.int i)) := pd_c pe_int fun _ => .int i
theorem pd_bl {b j} : PD X W (.Constant (.bool b) j pos) (dC (.bl b)) := pd_c pe_bl fun _ => .bl b
theorem pd_non {j} : PD X W (.Constant .none j pos) (dC .non) := pd_c pe_non fun _ => .non
theorem pd_str {x j} : PD X W (.Constant (.str x) j pos) (dC (.str x)) := pd_c pe_str fun _ => .str x
end

abbrev F2 := D → D → (D → Prop) → Prop
def DOp (K : PySem.W.Frag) (r : R2) (f : F2) : Prop := ∀ (W : Wd) (H G : Hp) (x y : V) (dx dy : D) (Q : VK) (k : D → Prop), Le G H → RepB K W G H dx x → RepB K W G H dy y → f dx dy k →
  (∀ v H' G' d, StepP H G H' G' → Rep K G' d v → k d → Q v H') → r x y H Q
def dOp (f : F2) (a b : DE) : DE := fun x ρ n q => a x ρ n fun u n1 => b x ρ n1 fun v n2 => f u v fun z => q z n2
section
variable {X : Cx} {W : WX} {a b : Expr} {δa δb : DE} {pos : Pos}
theorem ed_op {K : PySem.W.Frag} {r : R2} {f : F2} {ta tb : TE} (hr : DOp K r f) (ha : EB K W ta δa) (hb : EB K W tb δb) : ED K W (tOp r ta tb) (dOp f δa δb) := by
  intro B σ H ρ n G α Q x q hK R hx h k
  refine ha B σ H ρ n G α _ x _ hK R hx h fun v1 H1 G1 d1 n1 s1 j1 r1 h1 => ?_
  refine hb B σ H1 ρ n1 G1 α _ x _ hK (R.step s1 j1) (hx.step s1) h1 fun v2 H2 G2 d2 n2 s2 j2 r2 h2 => ?_
  exact hr B.W H2 G2 v1 v2 d1 d2 Q _ s2.hh (r1.step s2) r2 h2 fun v H' G' d s r hq => k v H' G' d n2 (s1.trans (s2.trans (s.step j2))) (s.J j2) r hq
theorem pd_op {op : Operator} {r : R2} {f : F2} (ho : OpR X (binaryOp op) r) (hr : DOp X.K r f) (ha : PB X W a δa) (hb : PB X W b δb) : PD X W (.BinOp a op b pos) (dOp f δa δb) := by
  obtain ⟨ta, pa, ea⟩ := ha
  obtain ⟨tb, pb, eb⟩ := hb
  exact ⟨_, pe_op ho pa pb, ed_op hr ea eb⟩
theorem pd_cmp {op : CmpOp} {r : R2} {f : F2} (ho : OpR X (compareOp op) r) (hr : DOp X.K r f) (ha : PB X W a δa) (hb : PB X W b δb) (hm : behindInMarks op b = false) : PD X W (.Compare a [op] [b] pos) (dOp f δa δb) := by
  obtain ⟨ta, pa, ea⟩ := ha
  obtain ⟨tb, pb, eb⟩ := hb
  exact ⟨_, pe_cmpR ho pa pb hm, ed_op hr ea eb⟩
def bq (q : Bool → Nat → Prop) : DQ := fun d n => match d with
  | .bl b => q b n
  | _ => False
def dTest (δ : DE) : DT := fun x ρ n q => δ x ρ n (bq q)
theorem et_of {K : PySem.W.Frag} {t : TE} {δ : DE} (h : EB K W t δ) : ET K W (fun σ H Q => t σ H fun x H' => ∃ k, x = .bl k ∧ Q k H') (dTest δ) := by
  intro B σ H ρ n G α Q x q hK R hx hd k
  refine h B σ H ρ n G α _ x _ hK R hx hd fun v H' G' d n' s j r hq => ?_
  cases d with
  | bl b =>
    rcases r with r | ⟨a, e, _, _, o⟩
    · cases r
      exact ⟨b, rfl, k b H' G' n' s j hq⟩
    · exact o.elim
  | _ => exact hq.elim
theorem ED.eb {K : PySem.W.Frag} {t : TE} {δ : DE} (h : ED K W t δ) : EB K W t δ := fun B σ H ρ n G α Q x q hK R hx hd k => h B σ H ρ n G α Q x q hK R hx hd fun v H' G' d n' s j r => k v H' G' d n' s j (.inl r)
theorem pt_cmpD {op : CmpOp} {r : R2} {f : F2} (ho : OpR X (compareOp op) r) (hr : DOp X.K r f) (ha : PB X W a δa) (hb : PB X W b δb) (hm : behindInMarks op b = false) : PTD X W (.Compare a [op] [b] pos) (dTest (dOp f δa δb)) := by
  obtain ⟨ta, pa, ea⟩ := ha
  obtain ⟨tb, pb, eb⟩ := hb
  exact ⟨_, pt_cmpR ho pa pb hm, et_of (ed_op hr ea eb).eb⟩
theorem pt_valD {e : Expr} {δ : DE} (h : PB X W e δ) (he : ∀ whole, isTrue e X.env whole = (do let v ← whole; standAt e.pos; holding [v] (truthy v)) := by intro _; rfl) : PTD X W e (dTest δ) := by
  obtain ⟨t, p, h⟩ := h
  exact ⟨_, pt_val p he, et_of h⟩
end

section
variable {K : PySem.W.Frag} {W : Wd} {G H : Hp} {v : V}
theorem RepB.int {i : Int} (r : RepB K W G H (.int i) v) : v = .int i := by
  rcases r with r | ⟨a, e, _, _, o⟩
  · cases r; rfl
  · exact o.elim
theorem RepB.bl {b : Bool} (r : RepB K W G H (.bl b) v) : v = .bl b := by
  rcases r with r | ⟨a, e, _, _, o⟩
  · cases r; rfl
  · exact o.elim
theorem RepB.str {x : Str} (r : RepB K W G H (.str x) v) : v = .str x := by
  rcases r with r | ⟨a, e, _, _, o⟩
  · cases r; rfl
  · exact o.elim
theorem RepB.non (r : RepB K W G H .non v) : v = .non := by
  rcases r with r | ⟨a, e, _, _, o⟩
  · cases r; rfl
  · exact o.elim
theorem RepB.lst {ds : List D} (le : Le G H) (r : RepB K W G H (.lst ds) v) : ∃ a vs, v = .ref a ∧ H a = some (.lst vs) ∧ RepL K G ds vs := by
  rcases r with r | ⟨a, e, _, _, o⟩
  · cases r with
    | lst e r => exact ⟨_, _, rfl, le.lst e, r⟩
  · obtain ⟨vs, e1, r⟩ := o
    exact ⟨a, vs, e, e1, r⟩
theorem RepB.tup {ds : List D} (le : Le G H) (r : RepB K W G H (.tup ds) v) : ∃ a vs, v = .ref a ∧ SqT K H a vs ∧ RepL K G ds vs := by
  rcases r with r | ⟨a, e, _, _, o⟩
  · cases r with
    | tup e r => exact ⟨_, _, rfl, le.sqT e, r⟩
  · exact o.elim
theorem RepB.dct {kvs : List (Key × D)} (le : Le G H) (r : RepB K W G H (.dct kvs) v) : ∃ a ws, v = .ref a ∧ Rd H a (.dK ws) ∧ RepK K G kvs ws := by
  rcases r with r | ⟨a, e, _, _, o⟩
  · cases r with
    | dct e r => exact ⟨_, _, rfl, .inr ⟨_, le.get e⟩, r⟩
  · obtain ⟨vs, e1, r⟩ := o
    exact ⟨a, vs, e, .inl e1, r⟩
theorem RepB.obj {c : Str} {fs : List (Str × D)} (le : Le G H) (r : RepB K W G H (.obj c fs) v) : ∃ a dx ws, v = .ref a ∧ H a = some (.ins (ca K c) dx ws) ∧ RepF K G fs ws := by
  rcases r with r | ⟨a, e, _, _, o⟩
  · cases r with
    | obj e r => exact ⟨_, _, _, rfl, le.ins e, r⟩
  · obtain ⟨dx, ws, e1, r⟩ := o
    exact ⟨a, dx, ws, e, e1, r⟩
end
end DL

end

section
set_option autoImplicit false
namespace DL
open PySem PySem.Spec L2

def fI (C : Int → Int → Prop) (g : Int → Int → D) : F2 := fun x y k => match x, y with
  | .int i, .int j => C i j ∧ k (g i j)
  | _, _ => False
def fI0 (g : Int → Int → D) : F2 := fun x y k => match x, y with
  | .int i, .int j => k (g i j)
  | _, _ => False
section
variable {K : PySem.W.Frag}
theorem dop_I {C : Int → Int → Prop} {gv : Int → Int → V} {g : Int → Int → D} (h : ∀ i j G, Rep K G (g i j) (gv i j)) : DOp K (rI C gv) (fI C g) := by
  intro W H G x y dx dy Q k le rx ry hf hk
  cases dx with
  | int i =>
    cases dy with
    | int j => exact ⟨i, j, rx.int, ry.int, hf.1, hk _ H G _ (.refl le) (h i j G) hf.2⟩
    | _ => exact hf.elim
  | _ => exact hf.elim
theorem dop_I0 {gv : Int → Int → V} {g : Int → Int → D} (h : ∀ i j G, Rep K G (g i j) (gv i j)) : DOp K (rI0 gv) (fI0 g) := by
  intro W H G x y dx dy Q k le rx ry hf hk
  cases dx with
  | int i =>
    cases dy with
    | int j => exact ⟨i, j, rx.int, ry.int, hk _ H G _ (.refl le) (h i j G) hf⟩
    | _ => exact hf.elim
  | _ => exact hf.elim
def fOr (f g : F2) : F2 := fun x y k => f x y k ∨ g x y k
theorem dop_or {r r' : R2} {f f' : F2} (h : DOp K r f) (h' : DOp K r' f') : DOp K (fun x y H Q => r x y H Q ∨ r' x y H Q) (fOr f f') := by
  intro W H G x y dx dy Q k le rx ry hf hk
  rcases hf with hf | hf
  · exact .inl (h W H G x y dx dy Q k le rx ry hf hk)
  · exact .inr (h' W H G x y dx dy Q k le rx ry hf hk)
theorem DOp.imp {r : R2} {f f' : F2} (h : DOp K r f) (hf : ∀ x y k, f' x y k → f x y k) : DOp K r f' :=
  fun W H G x y dx dy Q k le rx ry q hk => h W H G x y dx dy Q k le rx ry (hf _ _ _ q) hk
end
def fAdd : F2 := fun x y k => match x, y with
  | .int i, .int j => k (.int (i + j))
  | .lst a, .lst b => a.length + b.length ≤ 16777216 ∧ k (.lst (a ++ b))
  | .str a, .str b => a.length + b.length ≤ 16777216 ∧ k (.str (a ++ b))
  | _, _ => False
def fSub : F2 := fI0 fun i j => .int (i - j)
def MulOk (i j : Int) : Prop := CMul i j ∨ CMulW i j
def fMul : F2 := fun x y k => match x, y with
  | .int i, .int j => MulOk i j ∧ k (.int (i * j))
  | .lst a, .int j => (-(2 ^ 63) ≤ j ∧ j < 2 ^ 63 ∧ a.length * j.toNat ≤ 16777216) ∧ k (.lst (List.replicate j.toNat a).flatten)
  | _, _ => False
def fDiv : F2 := fI (fun _ j => 0 < j ∧ j < 1073741824) fun i j => .int (i / j)
def fMod : F2 := fI (fun _ j => 0 < j) fun i j => .int (i % j)
def fPow : F2 := fI (fun i j => 0 ≤ j ∧ j ≤ 1000000 ∧ i.natAbs < 2 ^ 64) fun i j => .int (i ^ j.toNat)
def fLt : F2 := fI0 fun i j => .bl (decide (i < j))
def fLe : F2 := fI0 fun i j => .bl (decide (i ≤ j))
def fGt : F2 := fI0 fun i j => .bl (decide (j < i))
def fGe : F2 := fI0 fun i j => .bl (decide (j ≤ i))
section
variable {K : PySem.W.Frag} {X : Cx}
theorem dop_cat : DOp K rCat (fun x y k => match x, y with | .lst a, .lst b => a.length + b.length ≤ 16777216 ∧ k (.lst (a ++ b)) | _, _ => False) := by
  intro W H G x y dx dy Q k le rx ry hf hk
  cases dx with
  | lst a =>
    cases dy with
    | lst b =>
      obtain ⟨p, vs, e1, h1, r1⟩ := rx.lst le
      obtain ⟨p', us, e2, h2, r2⟩ := ry.lst le
      obtain ⟨hz, hf⟩ := hf
      have l1 := r1.length
      have l2 := r2.length
      refine ⟨p, p', vs, us, e1, e2, h1, h2, by rw [sizeLine_eq]; omega, fun z np => ?_⟩
      have s := StepP.made (o := .lst (vs ++ us)) le np
      exact hk _ _ _ _ s (.lst upd_same ((r1.append r2).mono s.le)) hf
    | _ => exact hf.elim
  | _ => exact hf.elim
theorem dop_addS : DOp K (fun x y H Q => ∃ i j, x = .str i ∧ y = .str j ∧ i.length + j.length ≤ sizeLine ∧ Q (.str (i ++ j)) H) (fun x y k => match x, y with | .str a, .str b => a.length + b.length ≤ 16777216 ∧ k (.str (a ++ b)) | _, _ => False) := by
  intro W H G x y dx dy Q k le rx ry hf hk
  cases dx with
  | str a =>
    cases dy with
    | str b => exact ⟨a, b, rx.str, ry.str, by rw [sizeLine_eq]; exact hf.1, hk _ H G _ (.refl le) (.str _) hf.2⟩
    | _ => exact hf.elim
  | _ => exact hf.elim
theorem op_addD : OpR X (binaryOp .Add) (fun x y H Q => rI0 (fun i j => .int (i + j)) x y H Q ∨ (rCat x y H Q ∨ (∃ i j, x = .str i ∧ y = .str j ∧ i.length + j.length ≤ sizeLine ∧ Q (.str (i ++ j)) H))) := op_add.or (op_cat.or op_add_str)
theorem dop_add : DOp K (fun x y H Q => rI0 (fun i j => .int (i + j)) x y H Q ∨ (rCat x y H Q ∨ (∃ i j, x = .str i ∧ y = .str j ∧ i.length + j.length ≤ sizeLine ∧ Q (.str (i ++ j)) H))) fAdd :=
  (dop_or (dop_I0 (g := fun i j => .int (i + j)) fun i j G => .int _) (dop_or dop_cat dop_addS)).imp fun x y k h => by
    unfold fAdd at h
    split at h
    · exact .inl h
    · exact .inr (.inl h)
    · exact .inr (.inr h)
    · exact h.elim
theorem dop_sub : DOp K (rI0 fun i j => .int (i - j)) fSub := dop_I0 fun i j G => .int _
theorem dop_rep : DOp K rRep (fun x y k => match x, y with | .lst a, .int j => (-(2 ^ 63) ≤ j ∧ j < 2 ^ 63 ∧ a.length * j.toNat ≤ 16777216) ∧ k (.lst (List.replicate j.toNat a).flatten) | _, _ => False) := by
  intro W H G x y dx dy Q k le rx ry hf hk
  cases dx with
  | lst a =>
    cases dy with
    | int j =>
      obtain ⟨p, vs, e1, h1, r1⟩ := rx.lst le
      obtain ⟨⟨h2, h3, h4⟩, hf⟩ := hf
      have l1 := r1.length
      refine ⟨p, j, vs, e1, ry.int, h1, h2, h3, by rw [sizeLine_eq, ← l1]; exact h4, fun z np => ?_⟩
      have s := StepP.made (o := .lst (List.replicate j.toNat vs).flatten) le np
      exact hk _ _ _ _ s (.lst upd_same ((r1.rep j.toNat).mono s.le)) hf
    | _ => exact hf.elim
  | _ => exact hf.elim
theorem op_mulD : OpR X (binaryOp .Mult) (fun x y H Q => rI CMul (fun i j => .int (i * j)) x y H Q ∨ (rI CMulW (fun i j => .int (i * j)) x y H Q ∨ rRep x y H Q)) := op_mul.or (op_mulW.or op_rep)
theorem dop_mul : DOp K (fun x y H Q => rI CMul (fun i j => .int (i * j)) x y H Q ∨ (rI CMulW (fun i j => .int (i * j)) x y H Q ∨ rRep x y H Q)) fMul :=
  (dop_or (dop_I (g := fun i j => .int (i * j)) fun i j G => .int _) (dop_or (dop_I (g := fun i j => .int (i * j)) fun i j G => .int _) dop_rep)).imp fun x y k h => by
    unfold fMul at h
    split at h
    · rcases h with ⟨h | h, q⟩
      · exact .inl ⟨h, q⟩
      · exact .inr (.inl ⟨h, q⟩)
    · exact .inr (.inr h)
    · exact h.elim
theorem dop_mod : DOp K (rI (fun _ j => 0 < j) fun i j => .int (i % j)) fMod := dop_I fun i j G => .int _
theorem dop_gt : DOp K (rI0 fun i j => .bl (decide (j < i))) fGt := dop_I0 fun i j G => .bl _
theorem dop_ge : DOp K (rI0 fun i j => .bl (decide (j ≤ i))) fGe := dop_I0 fun i j G => .bl _
end
section
variable {X : Cx} {W : WX} {a b : Expr} {δa δb : DE} {pos : Pos}
theorem pd_add (ha : PB X W a δa) (hb : PB X W b δb) : PD X W (.BinOp a .Add b pos) (dOp fAdd δa δb) := pd_op op_addD dop_add ha hb
theorem pd_sub (ha : PB X W a δa) (hb : PB X W b δb) : PD X W (.BinOp a .Sub b pos) (dOp fSub δa δb) := pd_op op_sub dop_sub ha hb
theorem pd_mul (ha : PB X W a δa) (hb : PB X W b δb) : PD X W (.BinOp a .Mult b pos) (dOp fMul δa δb) := pd_op op_mulD dop_mul ha hb
theorem pd_mod (ha : PB X W a δa) (hb : PB X W b δb) : PD X W (.BinOp a .Mod b pos) (dOp fMod δa δb) := pd_op op_mod dop_mod ha hb
end

mutual
def pyD : D → PyData
  | .non => .none
  | .bl b => .bool b
  | .int i => .int i
  | .str x => .str x
  | .lst ds => .list (pyL ds)
  | .tup ds => .tuple (pyL ds)
  | .dct _ => .dict []
  | .obj _ _ => .dict []
  | .hnd _ => .dict []
  | .exc _ _ _ _ => .dict []
  | .rol _ => .dict []
def pyL : List D → List PyData
  | [] => []
  | d :: ds => pyD d :: pyL ds
end
mutual
theorem Rep.dp {K : PySem.W.Frag} {G : Hp} : ∀ {d : D} {v : V}, Rep K G d v → (pyD d).canLay0 = true → Dp K G v (pyD d)
  | _, _, .non, _ => .non
  | _, _, .bl b, _ => .bl b
  | _, _, .int i, _ => .int i
  | _, _, .str x, _ => .str x
  | _, _, .lst e r, h => .lst (SqL.of e) (RepL.dp r (by simpa [pyD, PyData.canLay0] using h))
  | _, _, .tup e r, h => .tup e (RepL.dp r (by simpa [pyD, PyData.canLay0] using h))
  | _, _, .dct _ _, h => by simp [pyD, PyData.canLay0] at h
  | _, _, .obj _ _, h => by simp [pyD, PyData.canLay0] at h
  | _, _, .hnd _, h => by simp [pyD, PyData.canLay0] at h
  | _, _, .exc _ _, h => by simp [pyD, PyData.canLay0] at h
  | _, _, .rol _ _, h => by simp [pyD, PyData.canLay0] at h
theorem RepL.dp {K : PySem.W.Frag} {G : Hp} : ∀ {d : List D} {v : List V}, RepL K G d v → PyData.canLayAll0 (pyL d) = true → DpAll K G v (pyL d)
  | _, _, .nil, _ => .nil
  | _, _, .cons (d := d) (ds := ds) r t, h => by
    have h' := Bool.and_eq_true_iff.mp (show (PyData.canLay0 (pyD d) && PyData.canLayAll0 (pyL ds)) = true from h)
    exact .cons (Rep.dp r h'.1) (RepL.dp t h'.2)
end
theorem Le.sqL {G H : Hp} (h : Le G H) {K : PySem.W.Frag} {a : Addr} {vs : List V} (e : SqL K G a vs) : SqL K H a vs := by
  rcases e with (e | ⟨x, e⟩) | e
  · exact .inl (.inl (h.lst e))
  · obtain ⟨o, e', c⟩ := h a _ e
    exact .inl (.inr ⟨x, by rw [e', c]⟩)
  · exact .inr e
mutual
theorem dp_mono {K : PySem.W.Frag} {G H : Hp} (le : Le G H) : ∀ {v : V} {d : PyData}, Dp K G v d → Dp K H v d
  | _, _, .non => .non
  | _, _, .bl b => .bl b
  | _, _, .int i => .int i
  | _, _, .str x => .str x
  | _, _, .lst e r => .lst (le.sqL e) (dpAll_mono le r)
  | _, _, .tup e r => .tup (le.sqT e) (dpAll_mono le r)
theorem dpAll_mono {K : PySem.W.Frag} {G H : Hp} (le : Le G H) : ∀ {v : List V} {d : List PyData}, DpAll K G v d → DpAll K H v d
  | _, _, .nil => .nil
  | _, _, .cons r t => .cons (dp_mono le r) (dpAll_mono le t)
end
theorem RepB.dp {K : PySem.W.Frag} {W : Wd} {G H : Hp} {d : D} {v : V} (le : Le G H) (r : RepB K W G H d v) (h : SeqAt.shaped (pyD d) = true) : Dp K H v (pyD d) := by
  have h0 := SeqAt.canLay_of_shaped h
  rcases r with r | ⟨a, e, _, _, o⟩
  · exact dp_mono le (r.dp h0)
  · cases d with
    | lst ds =>
      obtain ⟨vs, e1, r⟩ := o
      subst e
      refine .lst (SqL.of e1) (dpAll_mono le (r.dp (by simpa [pyD, PyData.canLay0] using h0)))
    | dct _ => simp [pyD, PyData.canLay0] at h0
    | obj _ _ => simp [pyD, PyData.canLay0] at h0
    | _ => exact o.elim
def fEq : F2 := fun x y k => SeqAt.shaped (pyD x) = true ∧ SeqAt.shaped (pyD y) = true ∧ k (.bl (PyData.eqv (pyD x) (pyD y)))
def fNe : F2 := fun x y k => SeqAt.shaped (pyD x) = true ∧ SeqAt.shaped (pyD y) = true ∧ k (.bl (!PyData.eqv (pyD x) (pyD y)))
section
variable {K : PySem.W.Frag}
theorem dop_eq : DOp K (rEqD K) fEq := by
  intro W H G x y dx dy Q k le rx ry hf hk
  obtain ⟨h1, h2, hf⟩ := hf
  exact ⟨_, _, rx.dp le h1, ry.dp le h2, h1, h2, hk _ H G _ (.refl le) (.bl _) hf⟩
theorem dop_ne : DOp K (rNeD K) fNe := by
  intro W H G x y dx dy Q k le rx ry hf hk
  obtain ⟨h1, h2, hf⟩ := hf
  exact ⟨_, _, rx.dp le h1, ry.dp le h2, h1, h2, hk _ H G _ (.refl le) (.bl _) hf⟩
def isNonD : D → Bool
  | .non => true
  | _ => false
def fIs : F2 := fun x y k => match y with
  | .non => k (.bl (isNonD x))
  | _ => False
def fIsNot : F2 := fun x y k => match y with
  | .non => k (.bl (!isNonD x))
  | _ => False
theorem RepB.isNon {W : Wd} {G H : Hp} {d : D} {v : V} (r : RepB K W G H d v) : decide (v = .non) = isNonD d := by
  rcases r with r | ⟨a, e, _, _, o⟩
  · cases r <;> rfl
  · subst e
    cases d <;> first | rfl | exact o.elim
theorem dop_is : DOp K (fun x y H Q => y = .non ∧ Q (.bl (decide (x = .non))) H) fIs := by
  intro W H G x y dx dy Q k le rx ry hf hk
  cases dy with
  | non => exact ⟨ry.non, hk _ H G _ (.refl le) (by rw [rx.isNon]; exact .bl _) hf⟩
  | _ => exact hf.elim
def flatD : D → Bool
  | .non => true
  | .bl _ => true
  | .int _ => true
  | .str _ => true
  | _ => false
def eqD : D → D → Bool
  | .non, .non => true
  | .bl a, .bl b => a == b
  | .bl a, .int b => (if a then 1 else 0) == b
  | .int a, .bl b => a == (if b then 1 else 0)
  | .int a, .int b => a == b
  | .str a, .str b => a == b
  | _, _ => false
theorem Rep.flat {G : Hp} {d : D} {v : V} (r : Rep K G d v) (h : flatD d = true) : flatV v = true := by
  cases r <;> first | rfl | (simp [flatD] at h)
theorem Rep.eqV {G : Hp} {d e : D} {v u : V} (r : Rep K G d v) (r' : Rep K G e u) (h : flatD d = true) (h' : flatD e = true) : eqV v u = eqD d e := by
  cases r <;> first | (simp [flatD] at h; done) | (cases r' <;> first | rfl | (simp [flatD] at h'))
theorem RepL.flat {G : Hp} : ∀ {ds : List D} {vs : List V}, RepL K G ds vs → ds.all flatD = true → vs.all flatV = true
  | _, _, .nil, _ => rfl
  | _, _, .cons r t, h => by
    rw [List.all_cons, Bool.and_eq_true_iff] at h
    rw [List.all_cons, r.flat h.1, RepL.flat t h.2]
    rfl
theorem RepL.inV {G : Hp} {d : D} {v : V} (r : Rep K G d v) (h : flatD d = true) : ∀ {ds : List D} {vs : List V}, RepL K G ds vs → ds.all flatD = true → inV v vs = ds.any fun y => eqD y d
  | _, _, .nil, _ => rfl
  | _, _, .cons q t, z => by
    rw [List.all_cons, Bool.and_eq_true_iff] at z
    rw [List.any_cons, ← RepL.inV r h t z.2]
    show (eqV _ v || _) = _
    rw [q.eqV r z.1 h]
    rfl
def seqD : D → Option (List D)
  | .lst ds => some ds
  | .tup ds => some ds
  | .rol ds => some ds
  | _ => none
def fIn (neg : Bool) : F2 := fun x y k => flatD x = true ∧ match seqD y with
  | some ds => ds.all flatD = true ∧ k (.bl (if neg then !ds.any (fun y => eqD y x) else ds.any fun y => eqD y x))
  | none => False
theorem RepB.seq {W : Wd} {G H : Hp} {d : D} {v : V} {ds : List D} (le : Le G H) (r : RepB K W G H d v) (h : seqD d = some ds) : ∃ a vs, v = .ref a ∧ (SqL K H a vs ∨ SqT K H a vs) ∧ RepL K G ds vs := by
  cases d with
  | lst es =>
    obtain ⟨a, vs, e, h1, r1⟩ := r.lst le
    cases h
    exact ⟨a, vs, e, .inl (SqL.of h1), r1⟩
  | tup es =>
    obtain ⟨a, vs, e, h1, r1⟩ := r.tup le
    cases h
    exact ⟨a, vs, e, .inr h1, r1⟩
  | rol es =>
    cases h
    rcases r with r | ⟨a, e, _, _, o⟩
    · cases r with
      | rol e r => exact ⟨_, _, rfl, .inl (.inl (.inr ⟨_, le.get e⟩)), r⟩
    · exact o.elim
  | _ => exact nomatch h
theorem RepB.flat_rep {W : Wd} {G H : Hp} {d : D} {v : V} (r : RepB K W G H d v) (h : flatD d = true) : Rep K G d v := by
  rcases r with r | ⟨a, e, _, _, o⟩
  · exact r
  · cases d <;> first | exact o.elim | exact nomatch h
theorem dop_in (neg : Bool) : DOp K (rIn K neg) (fIn neg) := by
  intro W H G x y dx dy Q k le rx ry hf hk
  obtain ⟨h1, hf⟩ := hf
  split at hf
  · rename_i ds e
    obtain ⟨a, vs, ey, hs, r⟩ := ry.seq le e
    obtain ⟨h2, hf⟩ := hf
    have rx' := rx.flat_rep h1
    refine ⟨a, vs, ey, hs, rx'.flat h1, r.flat h2, hk _ H G _ (.refl le) ?_ hf⟩
    rw [RepL.inV rx' h1 r h2]
    exact .bl _
  · exact hf.elim
end
section
variable {X : Cx} {W : WX} {a b : Expr} {δa δb : DE} {pos : Pos}
theorem pd_eq (hu : X.A.units + 64 < cLine) (ha : PB X W a δa) (hb : PB X W b δb) : PD X W (.Compare a [.Eq] [b] pos) (dOp fEq δa δb) := pd_cmp (op_eqD hu) dop_eq ha hb (nomark _)
theorem pd_is (ha : PB X W a δa) (hb : PB X W b δb) : PD X W (.Compare a [.Is] [b] pos) (dOp fIs δa δb) := pd_cmp op_isN dop_is ha hb (nomark _)
theorem pd_in (ha : PB X W a δa) (hb : PB X W b δb) (hm : behindInMarks .In b = false := by rfl) : PD X W (.Compare a [.In] [b] pos) (dOp (fIn false) δa δb) := pd_cmp op_in_seq (dop_in false) ha hb hm
theorem pt_gt (ha : PB X W a δa) (hb : PB X W b δb) : PTD X W (.Compare a [.Gt] [b] pos) (dTest (dOp fGt δa δb)) := pt_cmpD op_gt dop_gt ha hb (nomark _)
theorem pt_ge (ha : PB X W a δa) (hb : PB X W b δb) : PTD X W (.Compare a [.GtE] [b] pos) (dTest (dOp fGe δa δb)) := pt_cmpD op_ge dop_ge ha hb (nomark _)
theorem pt_eq (hu : X.A.units + 64 < cLine) (ha : PB X W a δa) (hb : PB X W b δb) : PTD X W (.Compare a [.Eq] [b] pos) (dTest (dOp fEq δa δb)) := pt_cmpD (op_eqD hu) dop_eq ha hb (nomark _)
theorem pt_ne (hu : X.A.units + 64 < cLine) (ha : PB X W a δa) (hb : PB X W b δb) : PTD X W (.Compare a [.NotEq] [b] pos) (dTest (dOp fNe δa δb)) := pt_cmpD (op_neD hu) dop_ne ha hb (nomark _)
theorem pt_is (ha : PB X W a δa) (hb : PB X W b δb) : PTD X W (.Compare a [.Is] [b] pos) (dTest (dOp fIs δa δb)) := pt_cmpD op_isN dop_is ha hb (nomark _)
theorem pt_in (ha : PB X W a δa) (hb : PB X W b δb) (hm : behindInMarks .In b = false := by rfl) : PTD X W (.Compare a [.In] [b] pos) (dTest (dOp (fIn false) δa δb)) := pt_cmpD op_in_seq (dop_in false) ha hb hm
end

def dAndT (a b : DT) : DT := fun x ρ n q => a x ρ n fun c n1 => if c = true then b x ρ n1 q else q false n1
def dOrT (a b : DT) : DT := fun x ρ n q => a x ρ n fun c n1 => if c = true then q true n1 else b x ρ n1 q
def dNotT (a : DT) : DT := fun x ρ n q => a x ρ n fun c n1 => q (!c) n1
def bd (k : Bool → Nat → Prop) : DQ := fun d n => match d with
  | .bl c => k c n
  | _ => False
def dAnd (a b : DE) : DE := fun x ρ n q => a x ρ n (bd fun c n1 => if c = true then b x ρ n1 q else q (.bl false) n1)
def dOr (a b : DE) : DE := fun x ρ n q => a x ρ n (bd fun c n1 => if c = true then q (.bl true) n1 else b x ρ n1 q)
def dNot (a : DE) : DE := fun x ρ n q => a x ρ n (bd fun c n1 => q (.bl (!c)) n1)
def dIf (t : DT) (a b : DE) : DE := fun x ρ n q => t x ρ n fun c n1 => if c = true then a x ρ n1 q else b x ρ n1 q
section
variable {X : Cx} {W : WX} {a b c : Expr} {rest : List Expr} {δa δb : DE} {τa τb : DT} {pos : Pos}
theorem pwd_and1 (h : PTD X W a τa) : PWD X W (.BoolOp .And [a] pos) τa := by
  obtain ⟨t, p, e⟩ := h
  exact ⟨t, pw_and1 p, e⟩
theorem pwd_or1 (h : PTD X W a τa) : PWD X W (.BoolOp .Or [a] pos) τa := by
  obtain ⟨t, p, e⟩ := h
  exact ⟨t, pw_or1 p, e⟩
theorem pwd_and (h : PTD X W a τa) (h2 : PWD X W (.BoolOp .And (b :: rest) pos) τb) : PWD X W (.BoolOp .And (a :: b :: rest) pos) (dAndT τa τb) := by
  obtain ⟨t, p, e⟩ := h
  obtain ⟨t', p', e'⟩ := h2
  refine ⟨_, pw_and p p', fun B σ H ρ n G α Q x q hK R hx hd k => ?_⟩
  refine e B σ H ρ n G α _ x _ hK R hx hd fun c H1 G1 n1 s1 j1 h1 => ?_
  cases c with
  | true =>
    rw [if_pos rfl] at h1 ⊢
    exact e' B σ H1 ρ n1 G1 α Q x q hK (R.step s1 j1) (hx.step s1) h1 fun b H2 G2 n2 s2 j2 h2 => k b H2 G2 n2 (s1.trans s2) j2 h2
  | false =>
    rw [if_neg Bool.false_ne_true] at h1 ⊢
    exact k false H1 G1 n1 s1 j1 h1
theorem pwd_or (h : PTD X W a τa) (h2 : PWD X W (.BoolOp .Or (b :: rest) pos) τb) : PWD X W (.BoolOp .Or (a :: b :: rest) pos) (dOrT τa τb) := by
  obtain ⟨t, p, e⟩ := h
  obtain ⟨t', p', e'⟩ := h2
  refine ⟨_, pw_or p p', fun B σ H ρ n G α Q x q hK R hx hd k => ?_⟩
  refine e B σ H ρ n G α _ x _ hK R hx hd fun c H1 G1 n1 s1 j1 h1 => ?_
  cases c with
  | true =>
    rw [if_pos rfl] at h1 ⊢
    exact k true H1 G1 n1 s1 j1 h1
  | false =>
    rw [if_neg Bool.false_ne_true] at h1 ⊢
    exact e' B σ H1 ρ n1 G1 α Q x q hK (R.step s1 j1) (hx.step s1) h1 fun b H2 G2 n2 s2 j2 h2 => k b H2 G2 n2 (s1.trans s2) j2 h2
theorem ptd_not (h : PTD X W a τa) : PTD X W (.UnaryOp .Not a pos) (dNotT τa) := by
  obtain ⟨t, p, e⟩ := h
  refine ⟨_, pt_not p, fun B σ H ρ n G α Q x q hK R hx hd k => ?_⟩
  exact e B σ H ρ n G α _ x _ hK R hx hd fun c H1 G1 n1 s1 j1 h1 => k (!c) H1 G1 n1 s1 j1 h1
theorem pd_one {op} (h : PD X W a δa) : PD X W (.BoolOp op [a] pos) δa := by
  obtain ⟨t, p, e⟩ := h
  exact ⟨t, pe_one p, e⟩
theorem pd_and (h : PD X W a δa) (h2 : PD X W (.BoolOp .And (b :: rest) pos) δb) : PD X W (.BoolOp .And (a :: b :: rest) pos) (dAnd δa δb) := by
  obtain ⟨t, p, e⟩ := h
  obtain ⟨t', p', e'⟩ := h2
  refine ⟨_, pe_and p p', fun B σ H ρ n G α Q x q hK R hx hd k => ?_⟩
  refine e B σ H ρ n G α _ x _ hK R hx hd fun v H1 G1 d n1 s1 j1 r1 h1 => ?_
  cases d with
  | bl c =>
    cases r1
    refine ⟨c, rfl, ?_⟩
    cases c with
    | true =>
      have h1' : δb x ρ n1 q := h1
      rw [if_pos rfl]
      exact e' B σ H1 ρ n1 G1 α Q x q hK (R.step s1 j1) (hx.step s1) h1' fun v H2 G2 d n2 s2 j2 h2 => k v H2 G2 d n2 (s1.trans s2) j2 h2
    | false =>
      rw [if_neg Bool.false_ne_true]
      exact k _ H1 G1 _ n1 s1 j1 (.bl false) h1
  | _ => exact h1.elim
theorem pd_not (h : PD X W a δa) : PD X W (.UnaryOp .Not a pos) (dNot δa) := by
  obtain ⟨t, p, e⟩ := h
  refine ⟨_, pe_not p, fun B σ H ρ n G α Q x q hK R hx hd k => ?_⟩
  refine e B σ H ρ n G α _ x _ hK R hx hd fun v H1 G1 d n1 s1 j1 r1 h1 => ?_
  cases d with
  | bl c =>
    cases r1
    exact ⟨c, rfl, k _ H1 G1 _ n1 s1 j1 (.bl (!c)) h1⟩
  | _ => exact h1.elim
theorem pd_if (hc : PTD X W c τa) (ha : PD X W a δa) (hb : PD X W b δb) : PD X W (.IfExp c a b pos) (dIf τa δa δb) := by
  obtain ⟨t, p, e⟩ := hc
  obtain ⟨ta, pa, ea⟩ := ha
  obtain ⟨tb, pb, eb⟩ := hb
  refine ⟨_, pe_ifExp p pa pb, fun B σ H ρ n G α Q x q hK R hx hd k => ?_⟩
  refine e B σ H ρ n G α _ x _ hK R hx hd fun c H1 G1 n1 s1 j1 h1 => ?_
  cases c with
  | true =>
    rw [if_pos rfl] at h1 ⊢
    exact ea B σ H1 ρ n1 G1 α Q x q hK (R.step s1 j1) (hx.step s1) h1 fun v H2 G2 d n2 s2 j2 h2 => k v H2 G2 d n2 (s1.trans s2) j2 h2
  | false =>
    rw [if_neg Bool.false_ne_true] at h1 ⊢
    exact eb B σ H1 ρ n1 G1 α Q x q hK (R.step s1 j1) (hx.step s1) h1 fun v H2 G2 d n2 s2 j2 h2 => k v H2 G2 d n2 (s1.trans s2) j2 h2
end

def dNil : DA := fun _ _ n q => q [] n
def dCons (a : DE) (r : DA) : DA := fun x ρ n q => a x ρ n fun d n1 => r x ρ n1 fun ds n2 => q (d :: ds) n2
def dTup (a : DA) : DE := fun x ρ n q => a x ρ n fun ds n1 => ds.length ≤ 16777216 ∧ q (.tup ds) n1
def dLst (a : DA) : DE := fun x ρ n q => a x ρ n fun ds n1 => ds.length ≤ 16777216 ∧ q (.lst ds) n1
def dEmp : DE := fun _ _ n q => q (.dct []) n
section
variable {X : Cx} {W : WX} {e : Expr} {es : List Expr} {δ : DE} {α' : DA} {pos : Pos}
theorem pad_nil : PAD X W [] dNil := ⟨_, pa_nil, fun B σ H ρ n G α Q x q hK R hx hd k => k [] H G [] n (.refl _ R.le) R.J .nil hd⟩
theorem pad_cons (h : PD X W e δ) (h2 : PAD X W es α') (hs : starEach (e :: es) X.env = (false, eval e X.env) :: starEach es X.env := by rfl) : PAD X W (e :: es) (dCons δ α') := by
  obtain ⟨t, p, h⟩ := h
  obtain ⟨t', p', h'⟩ := h2
  refine ⟨_, pa_cons p p' hs, fun B σ H ρ n G α Q x q hK R hx hd k => ?_⟩
  refine h B σ H ρ n G α _ x _ hK R hx hd fun v H1 G1 d n1 s1 j1 r1 h1 => ?_
  refine h' B σ H1 ρ n1 G1 α _ x _ hK (R.step s1 j1) (hx.step s1) h1 fun vs H2 G2 ds n2 s2 j2 r2 h2 => ?_
  exact k _ H2 G2 _ n2 (s1.trans s2) j2 (.cons (r1.mono s2.le) r2) h2
theorem pab_nil : PAB X W [] dNil := ⟨_, pa_nil, fun B σ H ρ n G α Q x q hK R hx hd k => k [] H G [] n (.refl _ R.le) R.J .nil hd⟩
theorem pab_cons (h : PB X W e δ) (h2 : PAB X W es α') (hs : starEach (e :: es) X.env = (false, eval e X.env) :: starEach es X.env := by rfl) : PAB X W (e :: es) (dCons δ α') := by
  obtain ⟨t, p, h⟩ := h
  obtain ⟨t', p', h'⟩ := h2
  refine ⟨_, pa_cons p p' hs, fun B σ H ρ n G α Q x q hK R hx hd k => ?_⟩
  refine h B σ H ρ n G α _ x _ hK R hx hd fun v H1 G1 d n1 s1 j1 r1 h1 => ?_
  refine h' B σ H1 ρ n1 G1 α _ x _ hK (R.step s1 j1) (hx.step s1) h1 fun vs H2 G2 ds n2 s2 j2 r2 h2 => ?_
  exact k _ H2 G2 _ n2 (s1.trans s2) j2 (.cons (r1.step s2) r2) h2
theorem pd_tup {x1} (h : PAD X W es α') : PD X W (.Tuple es x1 pos) (dTup α') := by
  obtain ⟨t, p, h⟩ := h
  refine ⟨_, pe_tup p, fun B σ H ρ n G α Q x q hK R hx hd k => ?_⟩
  refine h B σ H ρ n G α _ x _ hK R hx hd fun vs H1 G1 ds n1 s1 j1 r1 h1 => ?_
  refine ⟨by rw [sizeLine_eq, ← r1.length]; exact h1.1, fun a np => ?_⟩
  have s := StepP.made (o := .tup vs) s1.hh np
  exact k _ _ _ _ n1 (s1.trans (s.step j1)) (s.J j1) (.tup (SqT.of upd_same) (r1.mono s.le)) h1.2
theorem pf_lst (h : PAD X W es α') : PF X W (.List es pos) (dLst α') := by
  obtain ⟨t, p, h⟩ := h
  refine ⟨_, pe_lst p, fun B σ H ρ n G α Q x q hK R hx hd k => ?_⟩
  refine h B σ H ρ n G α _ x _ hK R hx hd fun vs H1 G1 ds n1 s1 j1 r1 h1 => ?_
  refine ⟨by rw [sizeLine_eq, ← r1.length]; exact h1.1, fun a np => ?_⟩
  have s := StepP.laid (o := .lst vs) s1.hh np
  have nr : ¬ B.W.rg a := fun r => B.W.there n1 H1 a j1 r np
  have h0 : H a = none := by
    cases e : H a with
    | none => rfl
    | some o => rw [s1.fr a o e nr] at np; cases np
  have g0 : G1 a = none := by
    cases e : G1 a with
    | none => rfl
    | some o =>
      obtain ⟨o', e', _⟩ := s1.hh a o e
      rw [np] at e'; cases e'
  exact k a _ _ (.lst ds) n1 (s1.trans (s.step j1)) (s.J j1) h0 g0 nr ⟨vs, upd_same, r1⟩ h1.2
theorem pf_dct0 : PF X W (.Dict [] [] pos) dEmp := by
  refine ⟨_, pe_dnewK, fun B σ H ρ n G α Q x q hK R hx hd k => fun a np => ?_⟩
  have s := StepP.laid (o := .dK []) R.le np
  have nr : ¬ B.W.rg a := fun r => B.W.there n H a R.J r np
  have g0 : G a = none := by
    cases e : G a with
    | none => rfl
    | some o =>
      obtain ⟨o', e', _⟩ := R.le a o e
      rw [np] at e'; cases e'
  exact k a _ _ (.dct []) n (s.step R.J) (s.J R.J) np g0 nr ⟨[], upd_same, .nil⟩ hd
end

def fIx : F2 := fun x y k => match y with
  | .int i => (match seqD x with
    | some ds => (match atI ds i with
      | some d => k d
      | none => False)
    | none => False)
  | _ => False
section
variable {K : PySem.W.Frag}
theorem RepL.atI {G : Hp} {ds : List D} {vs : List V} {i : Int} {d : D} (r : RepL K G ds vs) (h : atI ds i = some d) : ∃ v, atI vs i = some v ∧ Rep K G d v := by
  unfold L2.atI at h ⊢
  rw [← r.length]
  cases e : ixN ds.length i with
  | none => rw [e] at h; cases h
  | some j =>
    rw [e] at h
    obtain ⟨v, h1, h2⟩ := r.get (i := j) h
    exact ⟨v, h1, h2⟩
theorem dop_ix : DOp K (rIx K) fIx := by
  intro W H G x y dx dy Q k le rx ry hf hk
  cases dy with
  | int i =>
    unfold fIx at hf
    simp only at hf
    split at hf
    · rename_i ds e
      split at hf
      · rename_i d e2
        obtain ⟨a, vs, ex, hs, r⟩ := rx.seq le e
        obtain ⟨v, h1, h2⟩ := r.atI e2
        rcases hs with hs | hs
        · exact .inl ⟨a, vs, i, v, ex, ry.int, hs, h1, hk _ H G _ (.refl le) h2 hf⟩
        · exact .inr (.inl ⟨a, vs, i, v, ex, ry.int, hs, h1, hk _ H G _ (.refl le) h2 hf⟩)
      · exact hf.elim
    · exact hf.elim
  | _ => exact hf.elim
end
def keyD : D → Option Key
  | .int i => some (.inl i)
  | .str x => some (.inr x)
  | _ => none
def fDg : F2 := fun x y k => match x, keyD y with
  | .dct kvs, some j => (match getD kvs j with
    | some d => k d
    | none => False)
  | _, _ => False
theorem keyD_rep {K : PySem.W.Frag} {W : Wd} {G H : Hp} {d : D} {v : V} {k : Key} (h : keyD d = some k) (r : RepB K W G H d v) : v = kV k := by
  cases d with
  | int i => cases h; exact r.int
  | str x => cases h; exact r.str
  | _ => exact nomatch h
section
variable {X : Cx} {W : WX} {a b : Expr} {δa δb : DE} {pos : Pos}
theorem pd_ix (ha : PB X W a δa) (hb : PB X W b δb) (hs : PlainIx b := by exact fun _ _ => rfl) : PD X W (.Subscript a b pos) (dOp fIx δa δb) := by
  obtain ⟨ta, pa, ea⟩ := ha
  obtain ⟨tb, pb, eb⟩ := hb
  exact ⟨_, pe_ix ix_seq pa pb hs, ed_op dop_ix ea eb⟩
theorem pd_dg (hu : X.A.units + 1 < cLine) (ha : PB X W a δa) (hb : PB X W b δb) (hs : NoSl b := by exact fun _ _ => rfl) : PD X W (.Subscript a b pos) (dOp fDg δa δb) := by
  obtain ⟨ta, pa, ea⟩ := ha
  obtain ⟨tb, pb, eb⟩ := hb
  refine ⟨_, pe_dget hu pa pb hs, fun B σ H ρ n G α Q x q hK R hx h k => ?_⟩
  refine ea B σ H ρ n G α _ x _ hK R hx h fun v1 H1 G1 d1 n1 s1 j1 r1 h1 => ?_
  refine eb B σ H1 ρ n1 G1 α _ x _ hK (R.step s1 j1) (hx.step s1) h1 fun v2 H2 G2 d2 n2 s2 j2 r2 h2 => ?_
  unfold fDg at h2
  split at h2
  · rename_i kvs j ej
    split at h2
    · rename_i d e
      obtain ⟨p, ws, e1, hd, rk⟩ := (r1.step s2).dct s2.hh
      rcases rk.val (k := j) with ⟨d', v', g1, g2, g3⟩ | ⟨g1, _⟩
      · rw [e] at g1
        cases g1
        exact ⟨p, v', e1, .inl ⟨ws, j, hd, keyD_rep ej r2, g2.symm⟩, k v' H2 G2 d n2 (s1.trans s2) j2 g3 h2⟩
      · rw [e] at g1; cases g1
    · exact h2.elim
  · exact h2.elim
end
end DL

end

section
set_option autoImplicit false
namespace DL
open PySem PySem.Spec L2

abbrev FL := List D → (D → Prop) → Prop
def DCall (K : PySem.W.Frag) (r : List V → Hp → VK → Prop) (f : FL) : Prop := ∀ (W : Wd) (H G : Hp) (vs : List V) (ds : List D) (Q : VK) (k : D → Prop), Le G H → RepBL K W G H ds vs → f ds k →
  (∀ v H' G' d, StepP H G H' G' → Rep K G' d v → k d → Q v H') → r vs H Q
def dCB (f : FL) (a : DA) : DE := fun x ρ n q => a x ρ n fun ds n1 => f ds fun d => q d n1
section
variable {X : Cx} {W : WX} {e : Expr} {es : List Expr} {α' : DA} {p pos : Pos} {x : Str} {id T : String} {r : List V → Hp → VK → Prop} {f : FL}
theorem ed_cb {K : PySem.W.Frag} {t : TA} (hr : DCall K r f) (ha : EAB K W t α') : ED K W (tCB r t) (dCB f α') := by
  intro B σ H ρ n G α Q x q hK R hx h k
  refine ha B σ H ρ n G α _ x _ hK R hx h fun vs H1 G1 ds n1 s1 j1 r1 h1 => ?_
  exact hr B.W H1 G1 vs ds Q _ s1.hh r1 h1 fun v H' G' d s r hq => k v H' G' d n1 (s1.trans (s.step j1)) (s.J j1) r hq
theorem pd_callB (hc : CallR X (.builtin id) r) (hr : DCall X.K r f) (hg : Gl X x) (hm : X.mg x = none) (hv : bootBuiltins x = some (.builtin id)) (ha : PAB X W (e :: es) α') (hn : x ≠ "__name__" := by decide) (hdb : (x == ("__debug__" : Str)) = false := by decide)
    (hst : starEach (e :: es) X.env = (false, eval e X.env) :: starEach es X.env := by rfl) (hpl : (backTo pos (starEach es X.env)).any (·.1) = false := by rfl) : PD X W (.Call (.Name x p) (e :: es) [] pos) (dCB f α') := by
  obtain ⟨t, pa, ea⟩ := ha
  exact ⟨_, pe_callB hc hg hm hv pa hn hdb hst hpl, ed_cb hr ea⟩
theorem pd_callTy (hc : CallR X (.type T) r) (hr : DCall X.K r f) (hg : Gl X x) (hm : X.mg x = none) (hv : bootBuiltins x = some (.type T)) (ha : PAB X W (e :: es) α') (hn : x ≠ "__name__" := by decide) (hdb : (x == ("__debug__" : Str)) = false := by decide)
    (hst : starEach (e :: es) X.env = (false, eval e X.env) :: starEach es X.env := by rfl) (hpl : (backTo pos (starEach es X.env)).any (·.1) = false := by rfl) : PD X W (.Call (.Name x p) (e :: es) [] pos) (dCB f α') := by
  obtain ⟨t, pa, ea⟩ := ha
  exact ⟨_, pe_callTy hc hg hm hv pa hn hdb hst hpl, ed_cb hr ea⟩
end
section
variable {K : PySem.W.Frag} {W : Wd} {G H : Hp}
theorem RepBL.one {d : D} {vs : List V} (r : RepBL K W G H [d] vs) : ∃ v, vs = [v] ∧ RepB K W G H d v := by
  cases r with
  | cons r t => cases t; exact ⟨_, rfl, r⟩
end
def lenD : D → Option Nat
  | .lst ds => some ds.length
  | .tup ds => some ds.length
  | .rol ds => some ds.length
  | .dct kvs => some kvs.length
  | _ => none
def fLen : FL := fun ds k => match ds with
  | [d] => (match lenD d with
    | some n => k (.int n)
    | none => False)
  | _ => False
def f1 (f : D → (D → Prop) → Prop) : FL := fun ds k => match ds with
  | [d] => f d k
  | _ => False
theorem call_lenD2 {X : Cx} : CallR X (.builtin "len") (fun xs H Q => (∃ x n, xs = [x] ∧ LenV X.K x H n ∧ Q (.int n) H) ∨ ∃ a kvs, xs = [.ref a] ∧ Rd H a (.dK kvs) ∧ Q (.int kvs.length) H) := by
  refine call_len.or ?_
  intro pins s σ H xs us Q I r h
  obtain ⟨a, kvs, rfl, hd, q⟩ := h
  obtain ⟨u, rfl, r1⟩ := vals1 r
  obtain rfl : u = Value.ref a := r1
  exact d_len I hd fun t s' I' => ⟨.int kvs.length, H, I', ⟨t, rfl⟩, q⟩
section
variable {K : PySem.W.Frag}
theorem dcall_len : DCall K (fun xs H Q => (∃ x n, xs = [x] ∧ LenV K x H n ∧ Q (.int n) H) ∨ ∃ a kvs, xs = [.ref a] ∧ Rd H a (.dK kvs) ∧ Q (.int kvs.length) H) fLen := by
  intro W H G vs ds Q k le r hf hk
  unfold fLen at hf
  split at hf
  · rename_i d
    obtain ⟨v, rfl, r0⟩ := r.one
    split at hf
    · rename_i n e
      cases d with
      | lst ds =>
        cases e
        obtain ⟨a, us, e1, h1, r1⟩ := r0.lst le
        subst e1
        refine .inl ⟨_, us.length, rfl, .inl ⟨us, SqL.of h1, rfl⟩, hk _ H G _ (.refl le) (by rw [r1.length]; exact .int _) hf⟩
      | tup ds =>
        cases e
        obtain ⟨a, us, e1, h1, r1⟩ := r0.tup le
        subst e1
        refine .inl ⟨_, us.length, rfl, .inr ⟨us, h1, rfl⟩, hk _ H G _ (.refl le) (by rw [r1.length]; exact .int _) hf⟩
      | rol ds =>
        cases e
        rcases r0 with r0 | ⟨b, _, _, _, o⟩
        · cases r0 with
          | @rol a o _ us e1 r1 =>
            refine .inl ⟨_, us.length, rfl, .inl ⟨us, .inl (.inr ⟨_, le.get e1⟩), rfl⟩, hk _ H G _ (.refl le) (by rw [r1.length]; exact .int _) hf⟩
        · exact o.elim
      | dct kvs =>
        cases e
        obtain ⟨a, ws, e1, h1, r1⟩ := r0.dct le
        subst e1
        refine .inr ⟨_, ws, rfl, h1, hk _ H G _ (.refl le) (by rw [r1.length]; exact .int _) hf⟩
      | _ => exact nomatch e
    · exact hf.elim
  · exact hf.elim
def fAbs : FL := f1 fun d k => match d with
  | .int i => k (.int (if i < 0 then -i else i))
  | _ => False
def fInt : FL := f1 fun d k => match d with
  | .int i => k (.int i)
  | .bl b => k (.int (if b then 1 else 0))
  | _ => False
theorem dcall_int : DCall K (fun xs H Q => (∃ i, xs = [.int i] ∧ Q (.int i) H) ∨ ∃ k, xs = [.bl k] ∧ Q (.int (if k then 1 else 0)) H) fInt := by
  intro W H G vs ds Q k le r hf hk
  unfold fInt f1 at hf
  split at hf
  · rename_i d
    obtain ⟨v, rfl, r0⟩ := r.one
    cases d with
    | int i => exact .inl ⟨i, by rw [r0.int], hk _ H G _ (.refl le) (.int _) hf⟩
    | bl b => exact .inr ⟨b, by rw [r0.bl], hk _ H G _ (.refl le) (.int _) hf⟩
    | _ => exact hf.elim
  · exact hf.elim
def fList : FL := f1 fun d k => match seqD d with
  | some ds => k (.lst ds)
  | none => False
theorem dcall_list : DCall K (fun xs H Q => ∃ p ys, xs = [.ref p] ∧ (SqL K H p ys ∨ SqT K H p ys) ∧ ∀ l, H l = none → Q (.ref l) (upd H l (.lst ys))) fList := by
  intro W H G vs ds Q k le r hf hk
  unfold fList f1 at hf
  split at hf
  · rename_i d
    obtain ⟨v, rfl, r0⟩ := r.one
    split at hf
    · rename_i es e
      obtain ⟨a, us, e1, hs, r1⟩ := r0.seq le e
      subst e1
      refine ⟨a, us, rfl, hs, fun l np => ?_⟩
      have s := StepP.made (o := .lst us) le np
      exact hk _ _ _ _ s (.lst upd_same (r1.mono s.le)) hf
    · exact hf.elim
  · exact hf.elim
def fTuple : FL := f1 fun d k => match seqD d with
  | some ds => k (.tup ds)
  | none => False
def intsD : List D → Option (List Int)
  | [] => some []
  | .int i :: ds => (intsD ds).map (i :: ·)
  | _ :: _ => none
def boolsD : List D → Option (List Bool)
  | [] => some []
  | .bl i :: ds => (boolsD ds).map (i :: ·)
  | _ :: _ => none
theorem RepL.ints {G : Hp} : ∀ {ds : List D} {vs : List V} {ns : List Int}, RepL K G ds vs → intsD ds = some ns → vs = ns.map V.int
  | _, _, _, .nil, h => by cases h; rfl
  | _, _, ns, .cons (d := d) (ds := ds) r t, h => by
    cases d with
    | int i =>
      cases r
      cases e : intsD ds with
      | none => simp [intsD, e] at h
      | some ms =>
        simp [intsD, e] at h
        subst h
        rw [List.map_cons, RepL.ints t e]
    | _ => exact nomatch h
theorem RepL.bools {G : Hp} : ∀ {ds : List D} {vs : List V} {ns : List Bool}, RepL K G ds vs → boolsD ds = some ns → vs = ns.map V.bl
  | _, _, _, .nil, h => by cases h; rfl
  | _, _, ns, .cons (d := d) (ds := ds) r t, h => by
    cases d with
    | bl i =>
      cases r
      cases e : boolsD ds with
      | none => simp [boolsD, e] at h
      | some ms =>
        simp [boolsD, e] at h
        subst h
        rw [List.map_cons, RepL.bools t e]
    | _ => exact nomatch h
theorem RepL.of_ints {G : Hp} : ∀ (ns : List Int), RepL K G (ns.map D.int) (ns.map V.int)
  | [] => .nil
  | i :: ns => .cons (.int i) (RepL.of_ints ns)
def fSeqInts (f : List Int → (D → Prop) → Prop) : FL := f1 fun d k => match d with
  | .lst ds => (match intsD ds with
    | some ns => f ns k
    | none => False)
  | _ => False
def fSum : FL := fSeqInts fun ns k => k (.int ns.sum)
def fMax : FL := fSeqInts fun ns k => 0 < ns.length ∧ ∀ m, m ∈ ns → (∀ y, y ∈ ns → y ≤ m) → k (.int m)
def fMin : FL := fSeqInts fun ns k => 0 < ns.length ∧ ∀ m, m ∈ ns → (∀ y, y ∈ ns → m ≤ y) → k (.int m)
def fSorted : FL := fSeqInts fun ns k => ∀ ms : List Int, ms.Perm ns → ms.Pairwise (· ≤ ·) → k (.lst (ms.map D.int))
theorem dcall_sorted : DCall K (rSortedI K) fSorted := by
  intro W H G vs ds Q k le r hf hk
  unfold fSorted fSeqInts f1 at hf
  split at hf
  · rename_i d
    obtain ⟨v, rfl, r0⟩ := r.one
    split at hf
    · split at hf
      · rename_i e
        obtain ⟨a, us, e1, h1, r1⟩ := r0.lst le
        subst e1
        refine ⟨a, _, rfl, SqL.of (by rw [← r1.ints e]; exact h1), fun ms p hp hs np => ?_⟩
        have s := StepP.made (o := .lst (ms.map V.int)) le np
        exact hk _ _ _ _ s (.lst upd_same (RepL.of_ints ms)) (hf ms hp hs)
      · exact hf.elim
    · exact hf.elim
  · exact hf.elim
def fBools (f : List Bool → Bool) : FL := f1 fun d k => match d with
  | .lst ds => (match boolsD ds with
    | some bs => k (.bl (f bs))
    | none => False)
  | _ => False
theorem dcall_all : DCall K (rAll K) (fBools fun bs => bs.all id) := by
  intro W H G vs ds Q k le r hf hk
  unfold fBools f1 at hf
  split at hf
  · rename_i d
    obtain ⟨v, rfl, r0⟩ := r.one
    split at hf
    · split at hf
      · rename_i e
        obtain ⟨a, us, e1, h1, r1⟩ := r0.lst le
        subst e1
        exact ⟨a, _, rfl, SqL.of (by rw [← r1.bools e]; exact h1), hk _ H G _ (.refl le) (.bl _) hf⟩
      · exact hf.elim
    · exact hf.elim
  · exact hf.elim
end
end DL

end

section
set_option autoImplicit false
namespace DL
open PySem PySem.Spec L2

def SlRep (K : PySem.W.Frag) (W : Wd) (H0 G H : Hp) : Sl → V → Prop
  | .val d, v => Rep K G d v
  | .own d, v => ∃ a, v = .ref a ∧ H0 a = none ∧ G a = none ∧ ¬ W.rg a ∧ OwnAt K G H a d
  | .gst r gs, v => Rep K G r v ∧ (gs.map (·.1)).Nodup ∧ ∀ g ∈ gs, H0 g.1 = none ∧ G g.1 = none ∧ ¬ W.rg g.1 ∧ OwnAt K G H g.1 g.2
theorem SlRep.step {K : PySem.W.Frag} {W : Wd} {H0 G H G' H' : Hp} {sl : Sl} {v : V} (r : SlRep K W H0 G H sl v) (s : Step W H G H' G') : SlRep K W H0 G' H' sl v := by
  have kp : ∀ {a : Addr} {o : HO}, H a = some o → G a = none → G' a = none := fun {a o} h g => by
    cases e : G' a with
    | none => rfl
    | some u =>
      rcases s.new a (by rw [e]; exact fun z => nomatch z) with z | ⟨z, _⟩
      · exact (z g).elim
      · rw [h] at z; cases z
  cases sl with
  | val d => exact Rep.mono s.le r
  | own d =>
    obtain ⟨a, e, h0, g, nr, o⟩ := r
    obtain ⟨u, q⟩ := o.there
    exact ⟨a, e, h0, kp q g, nr, o.mono s.le fun o q => s.fr _ o q nr⟩
  | gst r' gs =>
    obtain ⟨r, nd, h⟩ := r
    refine ⟨r.mono s.le, nd, fun x hm => ?_⟩
    obtain ⟨h0, g, nr, o⟩ := h x hm
    obtain ⟨u, q⟩ := o.there
    exact ⟨h0, kp q g, nr, o.mono s.le fun o q => s.fr _ o q nr⟩
structure DEnds where
  nx : Env → Nat → Prop
  rt : DQ
  bk : Env → Nat → Prop
  ct : Env → Nat → Prop
  ex : Xn → Env → Nat → Prop
  w : Wd
  ro : Sl → Nat → Prop
def DEnds.xx (E : DEnds) (ρ : Env) : DX := ⟨fun e n => E.ex e ρ n, E.w⟩
abbrev DS := DEnds → Env → Nat → Prop
structure Lk (B : Bs) (W : WX) (D : Ends) (E : DEnds) : Prop where
  nx : ∀ σ H ρ n G α, RelB B σ H ρ n G α → E.nx ρ n → D.nx σ H
  rt : ∀ v H d n G, Step B.W B.H0 B.G0 H G → B.W.J n H → Rep B.K G d v → E.rt d n → D.rt v H
  bk : ∀ σ H ρ n G α, RelB B σ H ρ n G α → E.bk ρ n → D.bk σ H
  ct : ∀ σ H ρ n G α, RelB B σ H ρ n G α → E.ct ρ n → D.ct σ H
  ex : ∀ c dd σ H ρ n G α e, RelB B σ H ρ n G α → XRep B.K B.W B.H0 G H e c dd → E.ex e ρ n → W c dd σ H
  w : E.w = B.W
  ro : ∀ v H sl n G, Step B.W B.H0 B.G0 H G → B.W.J n H → SlRep B.K B.W B.H0 G H sl v → E.ro sl n → D.rt v H
theorem Lk.xl {B : Bs} {W : WX} {D : Ends} {E : DEnds} (L : Lk B W D E) {σ : St} {H : Hp} {ρ : Env} {n : Nat} {G : Hp} {α : Nat → Addr} (R : RelB B σ H ρ n G α) : XL B W σ H G (E.xx ρ) :=
  ⟨L.w, fun c dd H' G' e n' s j r q => L.ex c dd σ H' ρ n' G' α e (R.step s j) (r.back R.st) q⟩
def SD (K : PySem.W.Frag) (W : WX) (t : TS) (δ : DS) : Prop :=
  ∀ (B : Bs) (σ : St) (H : Hp) (ρ : Env) (n : Nat) (G : Hp) (α : Nat → Addr) (D : Ends) (E : DEnds), B.K = K → RelB B σ H ρ n G α → Lk B W D E → δ E ρ n → t D σ H
def PSD (X : Cx) (W : WX) (st : Stmt) (δ : DS) : Prop := ∃ t, PS X st t ∧ SD X.K W t δ
def PSsD (X : Cx) (W : WX) (st : List Stmt) (δ : DS) : Prop := ∃ t, PSs X st t ∧ SD X.K W t δ

def dNext : DS := fun E ρ n => E.nx ρ n
def dSeq (a b : DS) : DS := fun E ρ n => a { E with nx := b E } ρ n
def dRet (δ : DE) : DS := fun E ρ n => δ (E.xx ρ) ρ n E.rt
def dRetN : DS := fun E _ n => E.rt .non n
def dExp (δ : DE) : DS := fun E ρ n => δ (E.xx ρ) ρ n fun _ n1 => E.nx ρ n1
def dIfS (t : DT) (a b : DS) : DS := fun E ρ n => t (E.xx ρ) ρ n fun c n1 => if c = true then a E ρ n1 else b E ρ n1
def dBreak : DS := fun E ρ n => E.bk ρ n
def dCont : DS := fun E ρ n => E.ct ρ n
def dNever : DS := fun _ _ _ => False
section
variable {X : Cx} {W : WX} {st : Stmt} {rest : List Stmt} {a b : DS} {e : Expr} {δ : DE} {pos : Pos}
theorem pss_nilD : PSsD X W [] dNext := ⟨_, pss_nil, fun B σ H ρ n G α D E hK R L h => L.nx σ H ρ n G α R h⟩
theorem pss_consD (h : PSD X W st a) (h2 : PSsD X W rest b) : PSsD X W (st :: rest) (dSeq a b) := by
  obtain ⟨t, p, e⟩ := h
  obtain ⟨t', p', e'⟩ := h2
  refine ⟨_, pss_cons p p', fun B σ H ρ n G α D E hK R L h => ?_⟩
  exact e B σ H ρ n G α _ { E with nx := b E } hK R ⟨fun σ1 H1 ρ1 n1 G1 α1 R1 h1 => e' B σ1 H1 ρ1 n1 G1 α1 D E hK R1 L h1, L.rt, L.bk, L.ct, L.ex, L.w, L.ro⟩ h
theorem pss_oneD (h : PSD X W st a) : PSsD X W [st] a := by
  obtain ⟨t, p, e⟩ := h
  exact ⟨t, pss_one p, e⟩
theorem ps_retD (he : PD X W e δ) : PSD X W (.Return (some e) pos) (dRet δ) := by
  obtain ⟨t, p, h⟩ := he
  refine ⟨_, ps_ret p, fun B σ H ρ n G α D E hK R L hd => ?_⟩
  exact h B σ H ρ n G α _ _ _ hK R (L.xl R) hd fun v H' G' d n' s j r hq => L.rt v H' d n' G' (R.st.trans s) j (hK ▸ r) hq
def dRetF (δ : DE) : DS := fun E ρ n => δ (E.xx ρ) ρ n fun d n1 => E.ro (.own d) n1
def dRetO (i : Nat) : DS := fun E ρ n => match ρ[i]? with
  | some (some (.own d)) => E.ro (.own d) n
  | some (some (.gst r gs)) => E.ro (.gst r gs) n
  | _ => False
theorem ps_exprD (he : PB X W e δ) (hs : swapsWith e none pos.line X.env = pure false := by rfl) : PSD X W (.Expr e pos) (dExp δ) := by
  obtain ⟨t, p, h⟩ := he
  refine ⟨_, ps_expr p hs, fun B σ H ρ n G α D E hK R L hd => ?_⟩
  exact h B σ H ρ n G α _ _ _ hK R (L.xl R) hd fun v H' G' d n' s j r hq => L.nx σ H' ρ n' G' α (R.step s j) hq
theorem ps_ifD {c : Expr} {x y : List Stmt} {τ : DT} (hc : PTD X W c τ) (ha : PSsD X W x a) (hb : PSsD X W y b) : PSD X W (.If c x y pos) (dIfS τ a b) := by
  obtain ⟨t, p, h⟩ := hc
  obtain ⟨ta, pa, ea⟩ := ha
  obtain ⟨tb, pb, eb⟩ := hb
  refine ⟨_, ps_if p pa pb, fun B σ H ρ n G α D E hK R L hd => ?_⟩
  refine h B σ H ρ n G α _ _ _ hK R (L.xl R) hd fun c H1 G1 n1 s1 j1 h1 => ?_
  cases c with
  | true =>
    rw [if_pos rfl] at h1 ⊢
    exact ea B σ H1 ρ n1 G1 α D E hK (R.step s1 j1) L h1
  | false =>
    rw [if_neg Bool.false_ne_true] at h1 ⊢
    exact eb B σ H1 ρ n1 G1 α D E hK (R.step s1 j1) L h1
end

theorem set_val_own {ρ : Env} {i j : Nat} {d e : D} (h : (ρ.set i (some (.val d)))[j]? = some (some (.own e))) : ρ[j]? = some (some (.own e)) := by
  rw [List.getElem?_set] at h
  split at h
  · split at h
    · injection h with h; injection h with h; cases h
    · cases h
  · exact h
theorem get_set_sl {ρ : Env} {i j : Nat} {s : Option Sl} {t : Sl} (h : (ρ.set i s)[j]? = some (some t)) : (i = j ∧ s = some t) ∨ (i ≠ j ∧ ρ[j]? = some (some t)) := by
  rw [List.getElem?_set] at h
  by_cases z : i = j
  · rw [if_pos z] at h
    split at h
    · injection h with h
      exact .inl ⟨z, h⟩
    · cases h
  · rw [if_neg z] at h
    exact .inr ⟨z, h⟩
theorem Gh.set {B : Bs} {σ : St} {H : Hp} {ρ : Env} {G : Hp} {α α' : Nat → Addr} (h : Gh B σ H ρ G α) (i : Nat) {s : Option Sl} {v : Option V} (hs : ∀ r gs, s ≠ some (.gst r gs)) (ha : ∀ j, j ≠ i → α' j = α j)
    (hn : ∀ d, s = some (.own d) → ∀ (k : Nat) (r : D) (gs : List (Addr × D)), k ≠ i → ρ[k]? = some (some (.gst r gs)) → ∀ g ∈ gs, g.1 ≠ α' i) : Gh B (σ.set i v) H (ρ.set i s) G α' := by
  have go : ∀ {j : Nat} {r : D} {gs : List (Addr × D)}, (ρ.set i s)[j]? = some (some (.gst r gs)) → i ≠ j ∧ ρ[j]? = some (some (.gst r gs)) := fun {j r gs} e => by
    rcases get_set_sl e with ⟨_, z⟩ | z
    · exact (hs _ _ z).elim
    · exact z
  refine h.of rfl rfl rfl rfl (fun j r gs e => ⟨(go e).2, fun u hu => by rw [List.getElem?_set_ne (go e).1]; exact hu⟩) (fun j d e => ?_) (fun _ _ _ _ _ _ h1 _ _ => ⟨h1, fun _ q => q⟩) (Le.refl G)
  rcases get_set_sl e with ⟨z1, z⟩ | ⟨z1, z⟩
  · subst z1
    exact .inr fun k r gs e' => hn d z k r gs (Ne.symm (go e').1) (go e').2
  · exact .inl ⟨d, z, ha j (Ne.symm z1)⟩
theorem RelB.set {B : Bs} {σ : St} {H : Hp} {ρ : Env} {n : Nat} {G : Hp} {α : Nat → Addr} (R : RelB B σ H ρ n G α) (i : Nat) {d : D} {v : V} (r : Rep B.K G d v) : RelB B (σ.set i (some v)) H (ρ.set i (some (.val d))) n G α := by
  refine ⟨R.st, R.rg, R.J, by rw [List.length_set, List.length_set, R.len], fun j e h => ?_, fun j e h => ?_, fun j k e f hj hk => ?_, fun a e h h' => R.p0 a e h (set_val_own h'), R.gh.set i (fun _ _ z => nomatch z) (fun _ _ => rfl) (fun _ z => nomatch z)⟩
  · rw [List.getElem?_set] at h ⊢
    by_cases z : i = j
    · subst z
      rw [if_pos rfl] at h ⊢
      rw [R.len]
      split at h
      · rename_i hl
        rw [if_pos hl]
        injection h with h; injection h with h; injection h with h
        subst h
        exact ⟨v, rfl, r⟩
      · cases h
    · rw [if_neg z] at h ⊢
      exact R.val j e h
  · rw [List.getElem?_set] at h ⊢
    by_cases z : i = j
    · subst z
      rw [if_pos rfl] at h
      split at h
      · injection h with h; injection h with h; cases h
      · cases h
    · rw [if_neg z] at h ⊢
      exact R.own j e h
  · have go : ∀ {j : Nat} {e : D}, (ρ.set i (some (.val d)))[j]? = some (some (.own e)) → ρ[j]? = some (some (.own e)) := fun {j e} h => by
      rw [List.getElem?_set] at h
      split at h
      · split at h
        · injection h with h; injection h with h; cases h
        · cases h
      · exact h
    exact R.inj j k e f (go hj) (go hk)
theorem RelB.setOwn {B : Bs} {σ : St} {H : Hp} {ρ : Env} {n : Nat} {G : Hp} {α : Nat → Addr} (R : RelB B σ H ρ n G α) (i : Nat) (i0 : i ≠ 0) {a : Addr} {d : D} (ha : ∀ j e, j ≠ i → ρ[j]? = some (some (.own e)) → α j ≠ a) (hg : G a = none) (h0 : B.H0 a = none) (hr : ¬ B.W.rg a) (o : OwnAt B.K G H a d) (hb : ∀ (k : Nat) (r : D) (gs : List (Addr × D)), ρ[k]? = some (some (.gst r gs)) → ∀ g ∈ gs, g.1 ≠ a) :
    RelB B (σ.set i (some (.ref a))) H (ρ.set i (some (.own d))) n G (fun j => if j = i then a else α j) := by
  refine ⟨R.st, R.rg, R.J, by rw [List.length_set, List.length_set, R.len], fun j e h => ?_, fun j e h => ?_, fun j k e f hj hk z => ?_, fun b e h h' => ?_, R.gh.set i (fun _ _ z => nomatch z) (fun j ne => if_neg ne) (fun _ _ k r gs _ e g hm => by rw [if_pos rfl]; exact hb k r gs e g hm)⟩
  · rw [List.getElem?_set] at h ⊢
    by_cases z : i = j
    · subst z
      rw [if_pos rfl] at h
      split at h
      · injection h with h; injection h with h; cases h
      · cases h
    · rw [if_neg z] at h ⊢
      exact R.val j e h
  · rw [List.getElem?_set] at h ⊢
    by_cases z : i = j
    · subst z
      rw [if_pos rfl] at h ⊢
      rw [R.len]
      split at h
      · rename_i hl
        rw [if_pos hl]
        injection h with h; injection h with h; injection h with h
        subst h
        rw [if_pos rfl]
        exact ⟨rfl, hg, h0, hr, o⟩
      · cases h
    · rw [if_neg z] at h ⊢
      simp only [if_neg (fun q => z (Eq.symm q) : ¬ j = i)]
      exact R.own j e h
  · have go : ∀ {j : Nat} {e : D}, j ≠ i → (ρ.set i (some (.own d)))[j]? = some (some (.own e)) → ρ[j]? = some (some (.own e)) := fun {j e} q h => by
      rw [List.getElem?_set, if_neg (fun z => q z.symm)] at h
      exact h
    by_cases q : j = i
    · by_cases q' : k = i
      · rw [q, q']
      · simp only [if_pos q, if_neg q'] at z
        exact (ha k f q' (go q' hk) z.symm).elim
    · by_cases q' : k = i
      · simp only [if_neg q, if_pos q'] at z
        exact (ha j e q (go q hj) z).elim
      · simp only [if_neg q, if_neg q'] at z
        exact R.inj j k e f (go q hj) (go q' hk) z
  · rw [List.getElem?_set, if_neg i0] at h'
    simp only [if_neg (fun z => i0 z.symm : ¬ 0 = i)]
    exact R.p0 b e h h'
theorem RelB.setGst {B : Bs} {σ : St} {H : Hp} {ρ : Env} {n : Nat} {G : Hp} {α : Nat → Addr} (R : RelB B σ H ρ n G α) (i : Nat) (i0 : i ≠ 0) {r : D} {gs : List (Addr × D)} {v : V} (hr : Rep B.K G r v) (nd : (gs.map (·.1)).Nodup) (hg : ∀ g ∈ gs, G g.1 = none ∧ B.H0 g.1 = none ∧ ¬ B.W.rg g.1 ∧ OwnAt B.K G H g.1 g.2)
    (f1 : ∀ (j : Nat) (d : D), j ≠ i → ρ[j]? = some (some (.own d)) → ∀ g ∈ gs, g.1 ≠ α j) (f2 : ∀ (j : Nat) (r' : D) (gs' : List (Addr × D)), j ≠ i → ρ[j]? = some (some (.gst r' gs')) → ∀ g ∈ gs, ∀ g' ∈ gs', g.1 ≠ g'.1) :
    RelB B (σ.set i (some v)) H (ρ.set i (some (.gst r gs))) n G α := by
  have own : ∀ {j : Nat} {d : D}, (ρ.set i (some (.gst r gs)))[j]? = some (some (.own d)) → i ≠ j ∧ ρ[j]? = some (some (.own d)) := fun {j d} h => by
    rcases get_set_sl h with ⟨_, z⟩ | z
    · exact nomatch z
    · exact z
  have val : ∀ {j : Nat} {d : D}, (ρ.set i (some (.gst r gs)))[j]? = some (some (.val d)) → i ≠ j ∧ ρ[j]? = some (some (.val d)) := fun {j d} h => by
    rcases get_set_sl h with ⟨_, z⟩ | z
    · exact nomatch z
    · exact z
  have gst : ∀ {j : Nat} {r' : D} {gs' : List (Addr × D)}, (ρ.set i (some (.gst r gs)))[j]? = some (some (.gst r' gs')) → (i = j ∧ r' = r ∧ gs' = gs ∧ i < ρ.length) ∨ (i ≠ j ∧ ρ[j]? = some (some (.gst r' gs'))) := fun {j r' gs'} h => by
    have hl : j < ρ.length := by have := (List.getElem?_eq_some_iff.mp h).1; rwa [List.length_set] at this
    rcases get_set_sl h with ⟨z1, z⟩ | z
    · injection z with z
      injection z with z2 z3
      exact .inl ⟨z1, z2.symm, z3.symm, z1 ▸ hl⟩
    · exact .inr z
  refine ⟨R.st, R.rg, R.J, by rw [List.length_set, List.length_set, R.len], fun j e h => ?_, fun j e h => ?_, fun j k e f hj hk => R.inj j k e f (own hj).2 (own hk).2, fun b e h h' => R.p0 b e h (own h').2, ⟨fun j r' gs' e => ?_, fun j r' gs' e => ?_, fun j k r1 r2 g1 g2 e1 e2 ne => ?_, fun j k r' gs' d e e' => ?_, fun a r' gs' hs e => ?_⟩⟩
  · obtain ⟨z, h⟩ := val h
    rw [List.getElem?_set_ne z]
    exact R.val j e h
  · obtain ⟨z, h⟩ := own h
    rw [List.getElem?_set_ne z]
    exact R.own j e h
  · rcases gst e with ⟨z, rfl, rfl, hl⟩ | ⟨z, e⟩
    · subst z
      exact ⟨⟨v, by rw [List.getElem?_set_self (by rw [R.len]; exact hl)], hr⟩, nd⟩
    · rw [List.getElem?_set_ne z]
      exact R.gh.gst j r' gs' e
  · rcases gst e with ⟨_, _, rfl, _⟩ | ⟨_, e⟩
    · exact hg
    · exact R.gh.at_ j r' gs' e
  · rcases gst e1 with ⟨y, _, y2, _⟩ | ⟨y, w1⟩
    · rcases gst e2 with ⟨z, _⟩ | ⟨z, w2⟩
      · exact (ne (y.symm.trans z)).elim
      · rw [y2]
        exact f2 k r2 g2 (Ne.symm z) w2
    · rcases gst e2 with ⟨z, _, z2, _⟩ | ⟨z, w2⟩
      · rw [z2]
        exact fun g hm g' hm' q => f2 j r1 g1 (Ne.symm y) w1 g' hm' g hm q.symm
      · exact R.gh.sep j k r1 r2 g1 g2 w1 w2 ne
  · obtain ⟨z', w'⟩ := own e'
    rcases gst e with ⟨z, _, z2, _⟩ | ⟨z, w⟩
    · rw [z2]
      exact f1 k d (Ne.symm z') w'
    · exact R.gh.off j k r' gs' d w w'
  · rcases gst e with ⟨z, _⟩ | ⟨_, e⟩
    · exact (i0 z).elim
    · exact R.gh.p1 a r' gs' hs e
def dSet (i : Nat) (δ : DE) : DS := fun E ρ n => δ (E.xx ρ) ρ n fun d n1 => E.nx (ρ.set i (some (.val d))) n1
def dOwn (i : Nat) (δ : DE) : DS := fun E ρ n => δ (E.xx ρ) ρ n fun d n1 => E.nx (ρ.set i (some (.own d))) n1
def dFrz (i : Nat) (a : DS) : DS := fun E ρ n => match ρ[i]? with
  | some (some (.own d)) => a E (ρ.set i (some (.val d))) n
  | _ => a E ρ n
section
variable {X : Cx} {W : WX} {e : Expr} {δ : DE} {pos pos' : Pos} {x : Str}
theorem sd_set {K : PySem.W.Frag} {t : TE} (h : ED K W t δ) (i : Nat) : SD K W (tAsg t (gName i)) (dSet i δ) := by
  intro B σ H ρ n G α D E hK R L hd
  exact h B σ H ρ n G α _ _ _ hK R (L.xl R) hd fun v H' G' d n' s j r hq => L.nx _ H' _ n' G' α ((R.step s j).set i (hK ▸ r)) hq
theorem sd_own {K : PySem.W.Frag} {t : TE} (h : EF K W t δ) (i : Nat) (i0 : i ≠ 0) : SD K W (tAsg t (gName i)) (dOwn i δ) := by
  intro B σ H ρ n G α D E hK R L hd
  refine h B σ H ρ n G α _ _ _ hK R (L.xl R) hd fun a H' G' d n' s j np ng nr o hq => ?_
  have R' := R.step s j
  refine L.nx _ H' _ n' G' _ (R'.setOwn i i0 (fun k e _ hk z => ?_) ng ?_ nr (hK ▸ o) fun k r gs e g hm z => by
    obtain ⟨u, q⟩ := (R.gh.at_ k r gs e g hm).2.2.2.there
    rw [z, np] at q
    cases q) hq
  · obtain ⟨_, _, _, _, o'⟩ := R.own k e hk
    obtain ⟨u, q⟩ := o'.there
    rw [z, np] at q
    cases q
  · cases q : B.H0 a with
    | none => rfl
    | some u =>
      have := R.st.fr a u q nr
      rw [np] at this
      cases this
theorem ps_setD (i : Nat) (he : PD X W e δ) (hN : X.N.Nodup) (hi : X.N[i]? = some x := by rfl) (hx : Loc X.env.scope x := by first | exact Or.inl rfl | exact Or.inr rfl) (hs : swapsWith e (some (.Name x pos')) pos.line X.env = pure false := by rfl) (hf : X.fn x = true ∨ X.env.scope.names.lookup x = some .local := by first | exact .inl rfl | exact .inr rfl | assumption) :
    PSD X W (.Assign [.Name x pos'] e pos) (dSet i δ) := by
  obtain ⟨t, p, h⟩ := he
  exact ⟨_, ps_set hN hi hx p hs hf, sd_set h i⟩
theorem ps_ownD (i : Nat) (he : PF X W e δ) (hN : X.N.Nodup) (i0 : i ≠ 0 := by decide) (hi : X.N[i]? = some x := by rfl) (hx : Loc X.env.scope x := by first | exact Or.inl rfl | exact Or.inr rfl) (hs : swapsWith e (some (.Name x pos')) pos.line X.env = pure false := by rfl) (hf : X.fn x = true ∨ X.env.scope.names.lookup x = some .local := by first | exact .inl rfl | exact .inr rfl | assumption) :
    PSD X W (.Assign [.Name x pos'] e pos) (dOwn i δ) := by
  obtain ⟨t, p, h⟩ := he
  exact ⟨_, ps_set hN hi hx p hs hf, sd_own h i i0⟩
theorem Gh.frz {B : Bs} {σ : St} {H : Hp} {ρ : Env} {G : Hp} {α : Nat → Addr} (h : Gh B σ H ρ G α) {i : Nat} {d : D} {s : Option Sl} {H' G' : Hp} (hi : ρ[i]? = some (some (.own d))) (e1 : ∀ b, b ≠ α i → H' b = H b) (e2 : ∀ b, b ≠ α i → G' b = G b) (le : Le G G') (hs : ∀ r gs, s ≠ some (.gst r gs) := by exact fun _ _ z => nomatch z) : Gh B σ H' (ρ.set i s) G' α := by
  have go : ∀ {j : Nat} {r : D} {gs : List (Addr × D)}, (ρ.set i s)[j]? = some (some (.gst r gs)) → i ≠ j ∧ ρ[j]? = some (some (.gst r gs)) := fun {j r gs} e => by
    rcases get_set_sl e with ⟨_, z⟩ | z
    · exact (hs _ _ z).elim
    · exact z
  refine h.of rfl rfl rfl rfl (fun j r gs e => ⟨(go e).2, fun _ q => q⟩) (fun j d' e => ?_) (fun k r gs e g hm h1 _ _ => ?_) le
  · rcases get_set_sl e with ⟨z1, _⟩ | ⟨_, z⟩
    · subst z1
      exact .inl ⟨d, hi, rfl⟩
    · exact .inl ⟨d', z, rfl⟩
  · have ne := h.off k i r gs d (go e).2 hi g hm
    exact ⟨by rw [e2 _ ne]; exact h1, fun o q => by rw [e1 _ ne]; exact q⟩
theorem RelB.freeze {B : Bs} {σ : St} {H : Hp} {ρ : Env} {n : Nat} {G : Hp} {α : Nat → Addr} {Q : Hp → Prop} (R : RelB B σ H ρ n G α) {i : Nat} {d : D} (h : ρ[i]? = some (some (.own d))) (k : ∀ H1 G', RelB B σ H1 (ρ.set i (some (.val d))) n G' α → Le G G' → Q H1) : LkP Q H := by
  obtain ⟨e1, hg, h0, nr, o⟩ := R.own i d h
  refine DL.freeze R.le hg o fun H1 ob e2 off l1 l2 r => ?_
  have il : i < ρ.length := (List.getElem?_eq_some_iff.mp h).1
  refine k H1 (upd G (α i) ob) ⟨R.st.frozen h0 nr off l1 l2, fun a q => ?_, B.W.stable _ _ _ (fun b hb => off b fun z => nr (z ▸ hb)) (fun b e q => (off b fun z => o.noExt (z ▸ q)).trans q) R.J, by rw [List.length_set, R.len], fun j e hj => ?_, fun j e hj => ?_, fun j k e f hj hk => ?_, fun a e h h' => R.p0 a e h (set_val_own h'), R.gh.frz h (fun b ne => off b ne) (fun b ne => upd_ne ne) l2⟩ l2
  · rw [upd_ne (fun z : a = α i => nr (z ▸ q))]
    exact R.rg a q
  · rw [List.getElem?_set] at hj
    by_cases z : i = j
    · subst z
      rw [if_pos rfl, if_pos il] at hj
      injection hj with hj; injection hj with hj; injection hj with hj
      subst hj
      exact ⟨_, e1, r⟩
    · rw [if_neg z] at hj
      obtain ⟨v, h1, h2⟩ := R.val j e hj
      exact ⟨v, h1, h2.mono l2⟩
  · rw [List.getElem?_set] at hj
    by_cases z : i = j
    · subst z
      rw [if_pos rfl, if_pos il] at hj
      injection hj with hj; injection hj with hj; cases hj
    · rw [if_neg z] at hj
      obtain ⟨h1, h2, h3, h4, h5⟩ := R.own j e hj
      have ne : α j ≠ α i := fun q => z (R.inj i j d e h hj q.symm)
      exact ⟨h1, by rw [upd_ne ne]; exact h2, h3, h4, h5.mono l2 fun _ q => by rw [off _ ne]; exact q⟩
  · exact R.inj j k e f (set_val_own hj) (set_val_own hk)
theorem pss_frz (i : Nat) {sts : List Stmt} {a : DS} (h : PSsD X W sts a) : PSsD X W sts (dFrz i a) := by
  obtain ⟨t, p, h⟩ := h
  refine ⟨_, pss_lk p, fun B σ H ρ n G α D E hK R L hd => ?_⟩
  unfold dFrz at hd
  split at hd
  · rename_i d e
    exact R.freeze e fun H1 G' R' _ => h B σ H1 _ n G' α D E hK R' L hd
  · exact .inl (h B σ H ρ n G α D E hK R L hd)
end

theorem RelB.write {B : Bs} {σ : St} {H : Hp} {ρ : Env} {n : Nat} {G : Hp} {α : Nat → Addr} (R : RelB B σ H ρ n G α) {i : Nat} {d d' : D} {o : HO} (h : ρ[i]? = some (some (.own d))) (ho : OwnAt B.K G (upd H (α i) o) (α i) d') :
    RelB B σ (upd H (α i) o) (ρ.set i (some (.own d'))) n G α := by
  obtain ⟨e1, hg, h0, nr, od⟩ := R.own i d h
  have il : i < ρ.length := (List.getElem?_eq_some_iff.mp h).1
  refine ⟨⟨fun a u e r => ?_, R.st.le, fun a u e => ?_, R.st.new⟩, R.rg, B.W.stable n H _ (fun a r => upd_ne (fun z => nr (z ▸ r))) (fun b e q => (upd_ne fun z => od.noExt (z ▸ q)).trans q) R.J, by rw [List.length_set, R.len], fun j e hj => ?_, fun j e hj => ?_, fun j k e f hj hk => ?_, fun b e hb h' => ?_, R.gh.frz h (fun b ne => upd_ne ne) (fun _ _ => rfl) (Le.refl G)⟩
  · rw [upd_ne (fun z => by rw [z, h0] at e; cases e)]
    exact R.st.fr a u e r
  · obtain ⟨o', e', c⟩ := R.le a u e
    exact ⟨o', by rw [upd_ne (fun z => by rw [z, hg] at e; cases e)]; exact e', c⟩
  · rw [List.getElem?_set] at hj
    by_cases z : i = j
    · subst z
      rw [if_pos rfl, if_pos il] at hj
      injection hj with hj; injection hj with hj; cases hj
    · rw [if_neg z] at hj
      exact R.val j e hj
  · rw [List.getElem?_set] at hj
    by_cases z : i = j
    · subst z
      rw [if_pos rfl, if_pos il] at hj
      injection hj with hj; injection hj with hj; injection hj with hj
      subst hj
      exact ⟨e1, hg, h0, nr, ho⟩
    · rw [if_neg z] at hj
      obtain ⟨h1, h2, h3, h4, h5⟩ := R.own j e hj
      exact ⟨h1, h2, h3, h4, h5.mono (Le.refl G) fun u q => by rw [upd_ne (fun z' => z (R.inj i j d e h hj z'.symm))]; exact q⟩
  · have go : ∀ {j : Nat} {e : D}, (ρ.set i (some (.own d')))[j]? = some (some (.own e)) → ∃ f, ρ[j]? = some (some (.own f)) := fun {j e} hj => by
      rw [List.getElem?_set] at hj
      by_cases z : i = j
      · subst z
        exact ⟨d, h⟩
      · rw [if_neg z] at hj
        exact ⟨e, hj⟩
    obtain ⟨e', hj'⟩ := go hj
    obtain ⟨f', hk'⟩ := go hk
    exact R.inj j k e' f' hj' hk'
  · rw [List.getElem?_set] at h'
    by_cases z : i = 0
    · subst z
      exact R.p0 b d hb h
    · rw [if_neg z] at h'
      exact R.p0 b e hb h'
def opt {α : Type} (o : Option α) (k : α → Prop) : Prop := match o with
  | some d => k d
  | none => False
def dApp (i : Nat) (δ : DE) : DS := fun E ρ n => match ρ[i]? with
  | some (some (.own (.lst ds))) => δ (E.xx ρ) ρ n fun d n1 => ds.length < 16777216 ∧ E.nx (ρ.set i (some (.own (.lst (ds ++ [d]))))) n1
  | _ => False
def dPut (i : Nat) (δk δv : DE) : DS := fun E ρ n => match ρ[i]? with
  | some (some (.own (.dct kvs))) => δv (E.xx ρ) ρ n fun d n1 => δk (E.xx ρ) ρ n1 fun k n2 => opt (keyD k) fun j => kvs.length < 16777216 ∧ E.nx (ρ.set i (some (.own (.dct (putD kvs j d))))) n2
  | _ => False
def dSetIx (i : Nat) (δk δv : DE) : DS := fun E ρ n => match ρ[i]? with
  | some (some (.own (.lst ds))) => δv (E.xx ρ) ρ n fun d n1 => δk (E.xx ρ) ρ n1 fun k n2 => (match k with
    | .int z => opt (ixN ds.length z) fun j => E.nx (ρ.set i (some (.own (.lst (ds.set j d))))) n2
    | _ => False)
  | _ => False
def dFldSet (i : Nat) (c f : Str) (δ : DE) : DS := fun E ρ n => match ρ[i]? with
  | some (some (.own (.obj c' fs))) => c' = c ∧ fs.length < 1000 ∧ δ (E.xx ρ) ρ n fun d n1 => E.nx (ρ.set i (some (.own (.obj c (setF f d fs))))) n1
  | _ => False
theorem opt_some {α : Type} {o : Option α} {k : α → Prop} (h : opt o k) : ∃ a, o = some a ∧ k a := by
  cases o with
  | none => exact h.elim
  | some a => exact ⟨a, rfl, h⟩
section
variable {X : Cx} {W : WX} {e k : Expr} {δ δk δv : DE} {pos pos' apos cpos : Pos} {x : Str}
theorem ps_appD (i : Nat) (he : PD X W e δ) (hN : X.N[i]? = some x := by rfl) (hv : Vis X.env.scope x := by first | exact Or.inl rfl | exact Or.inr (Or.inl rfl) | exact Or.inr (Or.inr rfl)) (hd : (x == ("__debug__" : Str)) = false := by decide)
    (hcd : (x == ("__classdict__" : Str)) = false := by decide) (hst : starEach [e] X.env = [(false, eval e X.env)] := by rfl)
    (hbase : attributeBase (.Name x pos') "append" X.env (eval (.Name x pos') X.env) = eval (.Name x pos') X.env := by rfl)
    (hfew : ((backTo cpos (starEach [e] X.env)).all (fun x => !x.1) && (backToKw cpos (keywordEach [] X.env)).all (fun x => x.1.isSome)
      && decide ([e].length + ([] : List Keyword).length + (if ([] : List Keyword).isEmpty then 0 else 1) < 30)) = true := by rfl)
    (hline : (apos.endLine == cpos.line) = true := by rfl) (hplain : (backTo cpos (starEach [] X.env)).any (·.1) = false := by rfl)
    (hsw : swapsWith (.Call (.Attribute (.Name x pos') "append" apos) [e] [] cpos) none pos.line X.env = pure false := by rfl) : PSD X W (.Expr (.Call (.Attribute (.Name x pos') "append" apos) [e] [] cpos) pos) (dApp i δ) := by
  obtain ⟨t, p, h⟩ := he
  refine ⟨_, ps_expr (pe_bm PySem.F.plainAttrs_list PySem.F.slot_list_append PySem.F.type_list_append mt_append (pe_var hN hv hd hcd) (pa_cons p pa_nil hst) hbase hfew hline hst hplain) hsw, fun B σ H ρ n G α D E hK R L hd => ?_⟩
  unfold dApp at hd
  split at hd
  · rename_i ds eo
    obtain ⟨e1, hg, h0, nr, vs, hH, rl⟩ := R.own i _ eo
    refine ⟨_, e1, .inl ⟨rfl, _, SqL.of hH⟩, ?_⟩
    refine h B σ H ρ n G α _ _ _ hK R (L.xl R) hd fun v H' G' d n' s j r hq => ?_
    have R' := R.step s j
    obtain ⟨_, hg', _, _, vs', hH', rl'⟩ := R'.own i _ eo
    refine ⟨α i, vs', v, rfl, rfl, hH', by rw [sizeLine_eq, ← rl'.length]; exact hq.1, ?_⟩
    exact L.nx σ _ _ n' G' α (R'.write (d' := .lst (ds ++ [d])) (o := .lst (vs' ++ [v])) eo ⟨_, upd_same, rl'.snoc (hK ▸ r)⟩) hq.2
  · exact hd.elim
theorem ps_putD (i : Nat) (hu : X.A.units + 1 < cLine) (hk : PB X W k δk) (he : PD X W e δv) (hN : X.N[i]? = some x := by rfl) (hv : Vis X.env.scope x := by first | exact Or.inl rfl | exact Or.inr (Or.inl rfl) | exact Or.inr (Or.inr rfl)) (hd : (x == ("__debug__" : Str)) = false := by decide)
    (hcd : (x == ("__classdict__" : Str)) = false := by decide) (hs : swapsWith e (some (.Subscript (.Name x pos') k apos)) pos.line X.env = pure false := by rfl) : PSD X W (.Assign [.Subscript (.Name x pos') k apos] e pos) (dPut i δk δv) := by
  obtain ⟨tk, pk, ek⟩ := hk
  obtain ⟨tv, pv, ev⟩ := he
  refine ⟨_, ps_dput hu (pe_var hN hv hd hcd) pk pv hs, fun B σ H ρ n G α D E hK R L hd => ?_⟩
  unfold dPut at hd
  split at hd
  · rename_i kvs eo
    refine ev B σ H ρ n G α _ _ _ hK R (L.xl R) hd fun v H1 G1 d n1 s1 j1 r1 h1 => ?_
    have R1 := R.step s1 j1
    refine ⟨_, (R1.own i _ eo).1, ?_⟩
    refine ek B σ H1 ρ n1 G1 α _ _ _ hK R1 (L.xl R1) h1 fun y H2 G2 dk n2 s2 j2 r2 h2 => ?_
    have R2 := R1.step s2 j2
    obtain ⟨z, ez, hz, h3⟩ := opt_some h2
    obtain ⟨_, hg, _, _, ws, hH, rk⟩ := R2.own i _ eo
    refine ⟨α i, _, rfl, .inl ⟨ws, z, hH, keyD_rep ez r2, by rw [sizeLine_eq, ← rk.length]; exact hz, rfl⟩, ?_⟩
    exact L.nx σ _ _ n2 G2 α (R2.write (d' := .dct (putD kvs z d)) (o := .dK (putK ws z v)) eo ⟨_, upd_same, rk.put (hK ▸ r1.mono s2.le)⟩) h3
  · exact hd.elim
theorem ps_fldD (i : Nat) {c f : Str} (hc : Cls X.K (ca X.K c)) (hn : NoAttr X.K (ca X.K c) f) (he : PD X W e δv) (hN : X.N[i]? = some x := by rfl) (hv : Vis X.env.scope x := by first | exact Or.inl rfl | exact Or.inr (Or.inl rfl) | exact Or.inr (Or.inr rfl)) (hd : (x == ("__debug__" : Str)) = false := by decide)
    (hcd : (x == ("__classdict__" : Str)) = false := by decide) (hs : swapsWith e (some (.Attribute (.Name x pos') f apos)) pos.line X.env = pure false := by rfl) : PSD X W (.Assign [.Attribute (.Name x pos') f apos] e pos) (dFldSet i c f δv) := by
  obtain ⟨tv, pv, ev⟩ := he
  refine ⟨_, ps_fld (pe_var hN hv hd hcd) pv hs, fun B σ H ρ n G α D E hK R L hd => ?_⟩
  unfold dFldSet at hd
  split at hd
  · rename_i c' fs eo
    obtain ⟨hc', hl, hd⟩ := hd
    subst hc'
    refine ev B σ H ρ n G α _ _ _ hK R (L.xl R) hd fun v H1 G1 d n1 s1 j1 r1 h1 => ?_
    have R1 := R.step s1 j1
    obtain ⟨e1, hg, _, _, dx, ws, hH, rk⟩ := R1.own i _ eo
    refine ⟨_, e1, α i, _, dx, ws, rfl, hH, hK ▸ hc, hK ▸ hn, by rw [← rk.length]; exact hl, ?_⟩
    exact L.nx σ _ _ n1 G1 α (R1.write (d' := .obj c' (setF f d fs)) (o := .ins (ca B.K c') dx (putF f v ws)) eo ⟨dx, _, upd_same, rk.put (hK ▸ r1)⟩) h1
  · exact hd.elim
end

abbrev DG := D → Env → (Env → Prop) → Prop
def GD (K : PySem.W.Frag) (sl : List Nat) (g : TG) (γ : DG) : Prop :=
  ∀ (B : Bs) (σ : St) (H : Hp) (ρ : Env) (n : Nat) (G : Hp) (α : Nat → Addr) (v : V) (d : D) (Q : St → Hp → Prop) (q : Env → Prop), B.K = K → RelB B σ H ρ n G α → Rep K G d v → γ d ρ q →
    (∀ σ' ρ', RelB B σ' H ρ' n G α → (∀ j, j ∉ sl → σ'[j]? = σ[j]?) → σ'.length = σ.length → q ρ' → Q σ' H) → g v σ H Q
def PGD (X : Cx) (sl : List Nat) (tg : Expr) (γ : DG) : Prop := ∃ g, PG X tg g ∧ GD X.K sl g γ
abbrev DGs := List D → Env → (Env → Prop) → Prop
def GDs (K : PySem.W.Frag) (sl : List Nat) (g : TGs) (γ : DGs) : Prop :=
  ∀ (B : Bs) (σ : St) (H : Hp) (ρ : Env) (n : Nat) (G : Hp) (α : Nat → Addr) (vs : List V) (ds : List D) (Q : St → Hp → Prop) (q : Env → Prop), B.K = K → RelB B σ H ρ n G α → RepL K G ds vs → γ ds ρ q →
    (∀ σ' ρ', RelB B σ' H ρ' n G α → (∀ j, j ∉ sl → σ'[j]? = σ[j]?) → σ'.length = σ.length → q ρ' → Q σ' H) → g vs σ H Q
def PGsD (X : Cx) (sl : List Nat) (tg : List Expr) (γ : DGs) : Prop := ∃ g, PGs X tg g ∧ GDs X.K sl g γ
def gN (i : Nat) : DG := fun d ρ q => q (ρ.set i (some (.val d)))
def gs0 : DGs := fun ds ρ q => ds = [] ∧ q ρ
def gsC (a : DG) (b : DGs) : DGs := fun ds ρ q => match ds with
  | d :: r => a d ρ fun ρ1 => b r ρ1 q
  | [] => False
def gT (a : DGs) : DG := fun d ρ q => match d with
  | .tup ds => a ds ρ q
  | _ => False
section
variable {X : Cx} {pos : Pos} {x : Str}
theorem pgd_name (i : Nat) (hN : X.N.Nodup) (hi : X.N[i]? = some x := by rfl) (hx : Loc X.env.scope x := by first | exact Or.inl rfl | exact Or.inr rfl) (hf : X.fn x = true ∨ X.env.scope.names.lookup x = some .local := by first | exact .inl rfl | exact .inr rfl | assumption) : PGD X [i] (.Name x pos) (gN i) := by
  refine ⟨_, pg_name hN hi hx hf, fun B σ H ρ n G α v d Q q hK R r h k => ?_⟩
  exact k _ _ (R.set i (hK ▸ r)) (fun j hj => by rw [List.getElem?_set, if_neg (fun z => hj (by rw [z]; exact List.mem_singleton_self _))]) (by rw [List.length_set]) h
theorem pgsd_nil : PGsD X [] [] gs0 := by
  refine ⟨_, pgs_nil, fun B σ H ρ n G α vs ds Q q hK R r h k => ?_⟩
  obtain ⟨e, h⟩ := h
  subst e
  cases r
  exact ⟨rfl, k σ ρ R (fun _ _ => rfl) rfl h⟩
theorem pgsd_cons {e : Expr} {es : List Expr} {a : DG} {b : DGs} {sl sl' : List Nat} (h : PGD X sl e a) (h2 : PGsD X sl' es b)
    (hs : (assignEach (e :: es) X.env).map (·.2) = assign e X.env :: (assignEach es X.env).map (·.2) := by rfl) : PGsD X (sl ++ sl') (e :: es) (gsC a b) := by
  obtain ⟨g, p, h⟩ := h
  obtain ⟨g', p', h'⟩ := h2
  refine ⟨_, pgs_cons p p' hs, fun B σ H ρ n G α vs ds Q q hK R r hd k => ?_⟩
  cases r with
  | nil => exact hd.elim
  | cons r t =>
    refine ⟨_, _, rfl, h B σ H ρ n G α _ _ _ _ hK R r hd fun σ1 ρ1 R1 f1 l1 h1 => ?_⟩
    refine h' B σ1 H ρ1 n G α _ _ _ _ hK R1 t h1 fun σ2 ρ2 R2 f2 l2 h2 => ?_
    exact k σ2 ρ2 R2 (fun j hj => by rw [f2 j (fun z => hj (List.mem_append_right _ z)), f1 j (fun z => hj (List.mem_append_left _ z))]) (l2.trans l1) h2
def gTn (m : Nat) (a : DGs) : DG := fun d ρ q => match d with
  | .tup ds => ds.length = m ∧ a ds ρ q
  | _ => False
theorem pgd_tup {es : List Expr} {k m : Nat} {a : DGs} {sl : List Nat} (hc : X.calm = true) (h : PGsD X sl es a) (hn : (assignEach es X.env).length = m := by rfl) (hst : (assignEach es X.env).findIdx? (·.1) = none := by rfl) : PGD X sl (.Tuple es k pos) (gTn m a) := by
  obtain ⟨g, p, h⟩ := h
  refine ⟨_, pg_tup hc p hn hst, fun B σ H ρ n G α v d Q q hK R r hd k => ?_⟩
  cases d with
  | tup ds =>
    cases r with
    | tup e r =>
      exact ⟨_, _, rfl, R.le.sqT e, by rw [← r.length]; exact hd.1, h B σ H ρ n G α _ _ _ _ hK R r hd.2 k⟩
  | _ => exact hd.elim
end
end DL

end

section
set_option autoImplicit false
namespace DL
open PySem PySem.Spec L2

structure WalkD (K : PySem.W.Frag) (J : It) (G : Hp) (ds : List D) : Prop where
  goes : ∀ i H G', i < ds.length → Le G G' → Le G' H → J.go i H
  stops : ∀ H G', Le G G' → Le G' H → J.stop ds.length H
  yields : ∀ i H G' x H', i < ds.length → Le G G' → Le G' H → J.yld i H x H' → ∃ d G'', ds[i]? = some d ∧ StepP H G' H' G'' ∧ Rep K G'' d x
abbrev DI := DX → Env → Nat → (List D → Nat → Prop) → Prop
def EI (K : PySem.W.Frag) (W : WX) (wi : TI) (ι : DI) : Prop :=
  ∀ (B : Bs) (σ : St) (H : Hp) (ρ : Env) (n : Nat) (G : Hp) (α : Nat → Addr) (R : It → Hp → Prop) (x : DX) (q : List D → Nat → Prop), B.K = K → RelB B σ H ρ n G α → XL B W σ H G x → ι x ρ n q →
    (∀ J H' G' ds n', Step B.W H G H' G' → B.W.J n' H' → WalkD K J G' ds → q ds n' → R J H') → wi σ H R
def PID (X : Cx) (W : WX) (tg iter : Expr) (ι : DI) : Prop := ∃ wi, PI X tg iter wi ∧ EI X.K W wi ι

theorem RelB.down {B : Bs} {σ : St} {H : Hp} {ρ : Env} {n : Nat} {G : Hp} {α : Nat → Addr} {G1 : Hp} (R : RelB { B with G0 := G1 } σ H ρ n G α) (le : Le B.G0 G1) (hn : ∀ a, G1 a ≠ none → B.G0 a ≠ none ∨ (B.H0 a = none ∧ ¬ B.W.rg a)) : RelB B σ H ρ n G α := by
  refine ⟨⟨R.st.fr, le.trans R.st.le, R.st.hh, fun a e => ?_⟩, R.rg, R.J, R.len, R.val, R.own, R.inj, R.p0, R.gh.of rfl rfl rfl rfl (fun _ _ _ e => ⟨e, fun _ h => h⟩) (fun _ d e => .inl ⟨d, e, rfl⟩) (fun _ _ _ _ _ _ h1 _ _ => ⟨h1, fun _ q => q⟩) (Le.refl G)⟩
  rcases R.st.new a e with z | z
  · exact hn a z
  · exact .inr z
theorem RelB.up {B : Bs} {σ : St} {H : Hp} {ρ : Env} {n : Nat} {G : Hp} {α : Nat → Addr} {G1 : Hp} (R : RelB B σ H ρ n G α) (le : Le G1 G) (l0 : Le B.G0 G1) : RelB { B with G0 := G1 } σ H ρ n G α := by
  refine ⟨⟨R.st.fr, le, R.st.hh, fun a e => ?_⟩, R.rg, R.J, R.len, R.val, R.own, R.inj, R.p0, R.gh.of rfl rfl rfl rfl (fun _ _ _ e => ⟨e, fun _ h => h⟩) (fun _ d e => .inl ⟨d, e, rfl⟩) (fun _ _ _ _ _ _ h1 _ _ => ⟨h1, fun _ q => q⟩) (Le.refl G)⟩
  rcases R.st.new a e with z | z
  · refine .inl ?_
    cases q : B.G0 a with
    | none => exact (z q).elim
    | some o =>
      obtain ⟨o', e', _⟩ := l0 a o q
      show G1 a ≠ none
      rw [e']
      exact fun z => nomatch z
  · exact .inr z
theorem Lk.up {B : Bs} {W : WX} {D : Ends} {E : DEnds} {G1 : Hp} (L : Lk B W D E) (le : Le B.G0 G1) (hn : ∀ a, G1 a ≠ none → B.G0 a ≠ none ∨ (B.H0 a = none ∧ ¬ B.W.rg a)) : Lk { B with G0 := G1 } W D E := by
  refine ⟨fun σ H ρ n G α R => L.nx σ H ρ n G α (R.down le hn), fun v H d n G s => L.rt v H d n G ⟨s.fr, le.trans s.le, s.hh, fun a e => ?_⟩, fun σ H ρ n G α R => L.bk σ H ρ n G α (R.down le hn), fun σ H ρ n G α R => L.ct σ H ρ n G α (R.down le hn), fun c dd σ H ρ n G α e R => L.ex c dd σ H ρ n G α e (R.down le hn), L.w, fun a H d n G s => L.ro a H d n G ⟨s.fr, le.trans s.le, s.hh, fun a e => ?_⟩⟩
  · rcases s.new a e with z | z
    · exact hn a z
    · exact .inr z
  · rcases s.new a e with z | z
    · exact hn a z
    · exact .inr z

def forD (γ : DG) (b : DS) : List D → DS
  | [] => fun E ρ n => E.nx ρ n
  | d :: ds => fun E ρ n => γ d ρ fun ρ1 => b { E with nx := forD γ b ds E, ct := forD γ b ds E, bk := E.nx } ρ1 n
def dFor (ι : DI) (γ : DG) (b : DS) : DS := fun E ρ n => ι (E.xx ρ) ρ n fun ds n1 => forD γ b ds E ρ n1
theorem sd_for {K : PySem.W.Frag} {W : WX} {wi : TI} {g : TG} {tb : TS} {ι : DI} {γ : DG} {b : DS} {sl : List Nat} (hi : EI K W wi ι) (hg : GD K sl g γ) (hb : SD K W tb b) : SD K W (tFor wi g tb) (dFor ι γ b) := by
  intro B σ H ρ n G α D E hK R L hd
  refine hi B σ H ρ n G α _ _ _ hK R (L.xl R) hd fun J H1 G1 ds n1 s1 j1 wk h1 => ?_
  have R1 := R.step s1 j1
  have l0 : Le B.G0 G1 := R1.st.le
  have hn := R1.st.new
  have L1 := L.up l0 hn
  refine ⟨fun i m σ H => m = ds.length - i ∧ i ≤ ds.length ∧ ∃ ρ n G α, RelB { B with G0 := G1 } σ H ρ n G α ∧ forD γ b (ds.drop i) E ρ n, ⟨ds.length, by simp, Nat.zero_le _, ρ, n1, G1, α, R1.up (Le.refl G1) l0, by simpa using h1⟩, ?_⟩
  rintro i m σ2 H2 ⟨rfl, hil, ρ2, n2, G2, α2, R2, h2⟩
  by_cases hlt : i < ds.length
  · refine .inr ⟨wk.goes i H2 G2 hlt R2.st.le R2.le, fun σ' H' => ∃ ρ n G α, RelB { B with G0 := G1 } σ' H' ρ n G α ∧ forD γ b (ds.drop (i + 1)) E ρ n, fun σ' H' p => ⟨ds.length - (i + 1), by omega, rfl, hlt, p⟩, fun x H' y => ?_⟩
    obtain ⟨d, G3, ed, s3, r3⟩ := wk.yields i H2 G2 x H' hlt R2.st.le R2.le y
    have ed' : ds.drop i = d :: ds.drop (i + 1) := by
      rw [List.drop_eq_getElem_cons hlt]
      have : ds[i] = d := by
        rw [List.getElem?_eq_getElem hlt] at ed
        exact Option.some.inj ed
      rw [this]
    rw [ed'] at h2
    have R3 := R2.step (s3.step R2.J) (s3.J R2.J)
    refine hg { B with G0 := G1 } σ2 H' ρ2 n2 G3 α2 x d _ _ hK R3 r3 h2 fun σ4 ρ4 R4 _ _ h4 => ?_
    exact hb { B with G0 := G1 } σ4 H' ρ4 n2 G3 α2 _ { E with nx := forD γ b (ds.drop (i + 1)) E, ct := forD γ b (ds.drop (i + 1)) E, bk := E.nx } hK R4 ⟨fun σ H ρ n G α R h => ⟨ρ, n, G, α, R, h⟩, L1.rt, L1.nx, fun σ H ρ n G α R h => ⟨ρ, n, G, α, R, h⟩, L1.ex, L1.w, L1.ro⟩ h4
  · have e : i = ds.length := by omega
    subst e
    refine .inl ⟨wk.stops H2 G2 R2.st.le R2.le, ?_⟩
    rw [List.drop_length] at h2
    exact L1.nx σ2 H2 ρ2 n2 G2 α2 R2 h2
section
variable {X : Cx} {W : WX} {tg iter c : Expr} {body : List Stmt} {pos : Pos} {ι : DI} {γ : DG} {b : DS} {τ : DT} {sl : List Nat}
theorem ps_forD (hp : PassesOwn (model X.prog X.w) X.A X.env X.xe) (hc : X.calm = true) (hi : PID X W tg iter ι) (hg : PGD X sl tg γ) (hb : PSsD X W body b)
    (hs : ∀ x, foldedSetIterable iter X.env x = pure x := by intro _; rfl) : PSD X W (.For tg iter body [] pos) (dFor ι γ b) := by
  obtain ⟨wi, pi, ei⟩ := hi
  obtain ⟨g, pg, eg⟩ := hg
  obtain ⟨tb, pb, eb⟩ := hb
  exact ⟨_, ps_for hp hc pi pg pb hs, sd_for ei eg eb⟩

end

def wipeD (ρ : Env) : List Nat → Env
  | [] => ρ
  | v :: vs => (wipeD ρ vs).set v none
theorem wipe_get (σ : St) (j : Nat) : ∀ vs : List Nat, (wipe σ vs)[j]? = if j ∈ vs then (if j < σ.length then some none else none) else σ[j]?
  | [] => by simp [wipe]
  | v :: vs => by
    unfold wipe
    rw [List.getElem?_set, wipe_length, wipe_get σ j vs]
    by_cases e : v = j
    · subst e
      simp
    · have e' : ¬ j = v := fun z => e z.symm
      simp [e, e']
theorem wipeD_length (ρ : Env) : ∀ vs : List Nat, (wipeD ρ vs).length = ρ.length
  | [] => rfl
  | v :: vs => by unfold wipeD; rw [List.length_set, wipeD_length ρ vs]
theorem wipeD_some {ρ : Env} {i : Nat} {x : Sl} : ∀ {vs : List Nat}, (wipeD ρ vs)[i]? = some (some x) → ρ[i]? = some (some x) ∧ i ∉ vs
  | [], h => ⟨h, by simp⟩
  | v :: vs, h => by
    unfold wipeD at h
    rw [List.getElem?_set] at h
    by_cases e : v = i
    · rw [if_pos e] at h
      split at h
      · injection h with h; cases h
      · cases h
    · rw [if_neg e] at h
      obtain ⟨h1, h2⟩ := wipeD_some h
      exact ⟨h1, fun z => (List.mem_cons.mp z).elim (fun q => e q.symm) h2⟩
theorem RelB.wipe {B : Bs} {σ : St} {H : Hp} {ρ : Env} {n : Nat} {G : Hp} {α : Nat → Addr} (R : RelB B σ H ρ n G α) (vs : List Nat) : RelB B (L2.wipe σ vs) H (wipeD ρ vs) n G α := by
  refine ⟨R.st, R.rg, R.J, by rw [wipe_length, wipeD_length, R.len], fun i d h => ?_, fun i d h => ?_, fun i j d e h h' => R.inj i j d e (wipeD_some h).1 (wipeD_some h').1, fun a d h h' => R.p0 a d h (wipeD_some h').1, R.gh.of rfl rfl rfl rfl (fun _ _ _ e => ⟨(wipeD_some e).1, fun _ q => by rw [wipe_out (wipeD_some e).2]; exact q⟩) (fun _ d e => .inl ⟨d, (wipeD_some e).1, rfl⟩) (fun _ _ _ _ _ _ h1 _ _ => ⟨h1, fun _ q => q⟩) (Le.refl G)⟩
  · obtain ⟨h1, h2⟩ := wipeD_some h
    obtain ⟨v, e, r⟩ := R.val i d h1
    exact ⟨v, by rw [wipe_out h2]; exact e, r⟩
  · obtain ⟨h1, h2⟩ := wipeD_some h
    obtain ⟨e, r⟩ := R.own i d h1
    exact ⟨by rw [wipe_out h2]; exact e, r⟩
abbrev x0 (w : Wd) : DX := ⟨fun _ _ => False, w⟩
abbrev W0 : WX := fun _ _ _ _ => False
def lcD (w : Wd) (γ : DG) (tt : DT) (te : DE) : List D → Env → Nat → List D → (List D → Nat → Prop) → Prop
  | [], _, n, acc, q => q acc n
  | d :: ds, ρ, n, acc, q => γ d ρ fun ρ1 => tt (x0 w) ρ1 n fun b n1 => if b = true then te (x0 w) ρ1 n1 fun y n2 => acc.length < 16777216 ∧ lcD w γ tt te ds ρ n2 (acc ++ [y]) q else lcD w γ tt te ds ρ n1 acc q
def dLc (ι : DI) (γ : DG) (tt : DT) (te : DE) (vs : List Nat) : DE := fun x ρ n q => ι x ρ n fun ds n1 => lcD x.w γ tt te ds (wipeD ρ vs) n1 [] fun es n2 => q (.lst es) n2
theorem xl0 {B : Bs} {W : WX} {σ : St} {H G : Hp} : XL B W σ H G (x0 B.W) := ⟨rfl, fun _ _ _ _ _ _ _ _ _ h => h.elim⟩
theorem Step.keepD {W : Wd} {H G H' G' : Hp} (s : Step W H G H' G') {a : Addr} {o : HO} (h : H a = some o) (g : G a = none) : G' a = none := by
  cases e : G' a with
  | none => rfl
  | some u =>
    rcases s.new a (by rw [e]; exact fun z => nomatch z) with z | ⟨z, _⟩
    · exact (z g).elim
    · rw [h] at z; cases z
theorem Step.updD {W : Wd} {H G H' G' : Hp} (s : Step W H G H' G') {a : Addr} {o : HO} (h : H a = none) (g : G' a = none) : Step W H G (upd H' a o) G' := by
  refine ⟨fun b u e r => by rw [upd_ne (ne_of_none e h)]; exact s.fr b u e r, s.le, fun b u e => ?_, s.new⟩
  obtain ⟨o', e', c⟩ := s.hh b u e
  exact ⟨o', by rw [upd_ne (ne_of_none e g)]; exact e', c⟩
theorem ef_lc {K : PySem.W.Frag} {W : WX} {wi : TI} {g : TG} {tt : TT} {te : TE} {vs : List Nat} {ι : DI} {γ : DG} {τ : DT} {δ : DE} {sl : List Nat} (hsl : ∀ i ∈ sl, i ∈ vs) (hi : EI K W wi ι) (hg : GD K sl g γ) (ht : ET K W0 tt τ) (he : ED K W0 te δ) : EF K W (tLc wi g tt te vs) (dLc ι γ τ δ vs) := by
  intro B σ H ρ n G α Q x q hK R hx hd k
  refine hi B σ H ρ n G α _ x _ hK R hx hd fun J H1 G1 ds n1 s1 j1 wk h1 => ?_
  have R1 := R.step s1 j1
  intro D hD
  have nr : ¬ B.W.rg D := fun r => B.W.there n1 H1 D j1 r hD
  have g1 : G1 D = none := by
    cases q : G1 D with
    | none => rfl
    | some u =>
      obtain ⟨o', e', _⟩ := s1.hh D u q
      rw [hD] at e'; cases e'
  have h0 : H D = none := by
    cases e : H D with
    | none => rfl
    | some o => rw [s1.fr D o e nr] at hD; cases hD
  have s0 := StepP.laid (o := .lst []) s1.hh hD
  refine ⟨fun i m H => m = ds.length - i ∧ i ≤ ds.length ∧ ∃ n G acc us, Step B.W H1 G1 H G ∧ B.W.J n H ∧ H D = some (.lst us) ∧ G D = none ∧ RepL K G acc us ∧ lcD B.W γ τ δ (ds.drop i) (wipeD ρ vs) n acc fun es n2 => q (.lst es) n2,
    ⟨ds.length, by simp, Nat.zero_le _, n1, G1, [], [], s0.step j1, s0.J j1, upd_same, g1, .nil, by rw [hx.1] at h1; simpa using h1⟩, ?_⟩
  rintro i m H2 ⟨rfl, hil, n2, G2, acc, us, s2, j2, hD2, gD2, ra, h2⟩
  by_cases hlt : i < ds.length
  · refine .inr ⟨wk.goes i H2 G2 hlt s2.le s2.hh, fun H' => ∃ n G acc us, Step B.W H1 G1 H' G ∧ B.W.J n H' ∧ H' D = some (.lst us) ∧ G D = none ∧ RepL K G acc us ∧ lcD B.W γ τ δ (ds.drop (i + 1)) (wipeD ρ vs) n acc fun es n2 => q (.lst es) n2, fun H' p => ⟨ds.length - (i + 1), by omega, rfl, hlt, p⟩, fun y H' yl => ?_⟩
    obtain ⟨d, G3, ed, s3, r3⟩ := wk.yields i H2 G2 y H' hlt s2.le s2.hh yl
    have ed' : ds.drop i = d :: ds.drop (i + 1) := by
      rw [List.drop_eq_getElem_cons hlt]
      have : ds[i] = d := by
        rw [List.getElem?_eq_getElem hlt] at ed
        exact Option.some.inj ed
      rw [this]
    rw [ed'] at h2
    have t3 := s3.step j2
    have R3 := ((R1.step s2 j2).step t3 (s3.J j2)).wipe vs
    have hD3 := s3.fr D _ hD2
    have gD3 := t3.keepD hD2 gD2
    refine hg B (wipe σ vs) H' (wipeD ρ vs) n2 G3 α y d _ _ hK R3 r3 h2 fun σ4 ρ4 R4 f4 l4 h4 => ⟨?_, ?_⟩
    · refine List.ext_getElem? fun j => ?_
      rw [wipe_get, wipe_get, l4, wipe_length]
      by_cases hj : j ∈ vs
      · rw [if_pos hj, if_pos hj]
      · rw [if_neg hj, if_neg hj, f4 j (fun z => hj (hsl j z)), wipe_out hj]
    · refine ht B σ4 H' ρ4 n2 G3 α _ (x0 B.W) _ hK R4 xl0 h4 fun b H5 G5 n5 s5 j5 h5 => ?_
      have hD5 := s5.fr D _ hD3 nr
      have gD5 := s5.keepD hD3 gD3
      cases b with
      | true =>
        rw [if_pos rfl] at h5 ⊢
        refine he B σ4 H5 ρ4 n5 G5 α _ (x0 B.W) _ hK (R4.step s5 j5) xl0 h5 fun v H6 G6 dy n6 s6 j6 r6 h6 => ?_
        have hD6 := s6.fr D _ hD5 nr
        have gD6 := s6.keepD hD5 gD5
        have t6 : Step B.W H1 G1 H6 G6 := s2.trans (t3.trans (s5.trans s6))
        have ra6 : RepL K G6 acc us := ra.mono ((t3.trans (s5.trans s6)).le)
        refine ⟨us, hD6, by rw [sizeLine_eq, ← ra6.length]; exact h6.1, n6, G6, acc ++ [dy], us ++ [v], t6.updD hD gD6, B.W.stable _ _ _ (fun a r => upd_ne (fun z : a = D => nr (z ▸ r))) (fun a e q => (upd_ne fun z : a = D => by rw [z, hD6] at q; cases q).trans q) j6, upd_same, gD6, ra6.snoc r6, h6.2⟩
      | false =>
        rw [if_neg Bool.false_ne_true] at h5 ⊢
        exact ⟨n5, G5, acc, us, s2.trans (t3.trans s5), j5, hD5, gD5, ra.mono ((t3.trans s5).le), h5⟩
  · have e : i = ds.length := by omega
    subst e
    refine .inl ⟨wk.stops H2 G2 s2.le s2.hh, ?_⟩
    rw [List.drop_length] at h2
    exact k D H2 G2 (.lst acc) n2 (s1.trans s2) j2 h0 gD2 nr ⟨us, hD2, ra⟩ h2
def PTsD (X : Cx) (ifs : List Expr) (τ : DT) : Prop := ∃ t, PTs X ifs t ∧ ET X.K W0 t τ
def dYes : DT := fun _ _ n q => q true n
section
variable {X : Cx} {W : WX}
theorem ptsD_nil : PTsD X [] dYes := ⟨_, pts_nil, fun B σ H ρ n G α Q x q hK R hx hd k => k true H G n (.refl _ R.le) R.J hd⟩
theorem ptsD_one {c : Expr} {τ : DT} (h : PTD X W0 c τ) : PTsD X [c] τ := by
  obtain ⟨t, p, e⟩ := h
  exact ⟨t, pts_one p, e⟩
end
end DL

end

section
set_option autoImplicit false
namespace DL
open PySem PySem.Spec L2

def tOf (K : PySem.W.Frag) (W : WX) (δ : DE) : TE := fun σ H Q => ∃ (B : Bs) (ρ : Env) (n : Nat) (G : Hp) (α : Nat → Addr) (x : DX) (q : DQ), B.K = K ∧ RelB B σ H ρ n G α ∧ XL B W σ H G x ∧ δ x ρ n q ∧
  (∀ v H' G' d n', Step B.W H G H' G' → B.W.J n' H' → Rep K G' d v → q d n' → Q v H')
def tOfT (K : PySem.W.Frag) (W : WX) (δ : DT) : TT := fun σ H Q => ∃ (B : Bs) (ρ : Env) (n : Nat) (G : Hp) (α : Nat → Addr) (x : DX) (q : Bool → Nat → Prop), B.K = K ∧ RelB B σ H ρ n G α ∧ XL B W σ H G x ∧ δ x ρ n q ∧
  (∀ b H' G' n', Step B.W H G H' G' → B.W.J n' H' → q b n' → Q b H')
def gOf (K : PySem.W.Frag) (sl : List Nat) (γ : DG) : TG := fun v σ H Q => ∃ (B : Bs) (ρ : Env) (n : Nat) (G : Hp) (α : Nat → Addr) (d : D) (q : Env → Prop), B.K = K ∧ RelB B σ H ρ n G α ∧ Rep K G d v ∧ γ d ρ q ∧
  (∀ σ' ρ', RelB B σ' H ρ' n G α → (∀ j, j ∉ sl → σ'[j]? = σ[j]?) → σ'.length = σ.length → q ρ' → Q σ' H)
theorem ed_tOf {K : PySem.W.Frag} {W : WX} {δ : DE} : ED K W (tOf K W δ) δ := fun B σ H ρ n G α Q x q hK R hx hd k => ⟨B, ρ, n, G, α, x, q, hK, R, hx, hd, k⟩
theorem et_tOf {K : PySem.W.Frag} {W : WX} {δ : DT} : ET K W (tOfT K W δ) δ := fun B σ H ρ n G α Q x q hK R hx hd k => ⟨B, ρ, n, G, α, x, q, hK, R, hx, hd, k⟩
theorem gd_gOf {K : PySem.W.Frag} {sl : List Nat} {γ : DG} : GD K sl (gOf K sl γ) γ := fun B σ H ρ n G α v d Q q hK R r hd k => ⟨B, ρ, n, G, α, d, q, hK, R, r, hd, k⟩
section
variable {X : Cx} {W : WX}
theorem PD.pe {e : Expr} {δ : DE} (h : PD X W e δ) : PE X e (tOf X.K W δ) := by
  obtain ⟨t, p, h⟩ := h
  refine ⟨fun pins s σ H Q I hw => ?_⟩
  obtain ⟨B, ρ, n, G, α, x, q, hK, R, hx, hd, k⟩ := hw
  exact p.run pins s σ H Q I (h B σ H ρ n G α Q x q hK R hx hd k)
theorem PTD.pt {e : Expr} {δ : DT} (h : PTD X W e δ) : PT X e (tOfT X.K W δ) := by
  obtain ⟨t, p, h⟩ := h
  refine ⟨fun pins s σ H Q I hw => ?_⟩
  obtain ⟨B, ρ, n, G, α, x, q, hK, R, hx, hd, k⟩ := hw
  exact p.run pins s σ H Q I (h B σ H ρ n G α Q x q hK R hx hd k)
theorem PTsD.pts {e : List Expr} {δ : DT} (h : PTsD X e δ) : PTs X e (tOfT X.K W0 δ) := by
  obtain ⟨t, p, h⟩ := h
  refine ⟨fun pins s σ H Q I hw => ?_⟩
  obtain ⟨B, ρ, n, G, α, x, q, hK, R, hx, hd, k⟩ := hw
  exact p.run pins s σ H Q I (h B σ H ρ n G α Q x q hK R hx hd k)
theorem PGD.pg {tg : Expr} {sl : List Nat} {γ : DG} (h : PGD X sl tg γ) : PG X tg (gOf X.K sl γ) := by
  obtain ⟨g, p, h⟩ := h
  refine ⟨fun pins s σ H v u Q I r hw => ?_⟩
  obtain ⟨B, ρ, n, G, α, d, q, hK, R, rd, hd, k⟩ := hw
  exact p.run pins s σ H v u Q I r (h B σ H ρ n G α v d Q q hK R rd hd k)
variable {elt tg iter : Expr} {ifs : List Expr} {scope : Scope} {own : List (Str × Nat)} {pos spos py : Pos} {ι : DI} {γ : DG} {τ : DT} {δ : DE} {sl : List Nat} {y : Str}
theorem pf_lc (own : List (Str × Nat)) (hc : X.calm = true) (hN : X.N.Nodup) (hi : PID X W tg iter ι) (ok : BlkOk X.N X.env.scope scope own)
    (hg : ∀ (s : Shared) (H : Hp) (C : Addr) (cl : List (Str × Addr)) (fp : List Addr), PGD (X.blk s H scope (compEnvC scope cl C X.env) fp) sl tg γ)
    (ht : ∀ (s : Shared) (H : Hp) (C : Addr) (cl : List (Str × Addr)) (fp : List Addr), PTsD (X.blk s H scope (compEnvC scope cl C X.env) fp) ifs τ)
    (he : ∀ (s : Shared) (H : Hp) (C : Addr) (cl : List (Str × Addr)) (fp : List Addr), PD (X.blk s H scope (compEnvC scope cl C X.env) fp) W0 elt δ) (hsl : ∀ i ∈ sl, i ∈ own.map (·.2) := by decide)
    (hs : ∀ x, foldedSetIterable iter X.env x = pure x := by intro _; rfl) : PF X W (.ListComp elt [⟨tg, iter, ifs, 0⟩] scope pos) (dLc ι γ τ δ (own.map (·.2))) := by
  obtain ⟨wi, pi, ei⟩ := hi
  exact ⟨_, pe_lc hc hN pi ok (fun s H C cl fp => (hg s H C cl fp).pg) (fun s H C cl fp => (ht s H C cl fp).pts) (fun s H C cl fp => (he s H C cl fp).pe) hs, ef_lc hsl ei gd_gOf et_tOf ed_tOf⟩
theorem EF.ed {K : PySem.W.Frag} {t : TE} {δ : DE} (h : EF K W t δ) (hl : ∀ x ρ n q, δ x ρ n q → δ x ρ n fun d n => (∀ kvs, d ≠ .dct kvs) ∧ q d n) : ED K W t δ := by
  refine fun B σ H ρ n G α Q x q hK R hx hd k => h B σ H ρ n G α Q x _ hK R hx (hl _ _ _ _ hd) fun a H' G' d n' s j np ng nr o hq => ?_
  obtain ⟨ob, e, l1, l2, r⟩ := DL.freezeL s.hh ng o hq.1
  exact k _ H' (upd G' a ob) d n' (s.frozen np nr (fun _ _ => rfl) l1 l2) j r hq.2
theorem dLc_lst {ι : DI} {γ : DG} {tt : DT} {te : DE} {vs : List Nat} (x : DX) (ρ : Env) (n : Nat) (q : DQ) (h : dLc ι γ tt te vs x ρ n q) : dLc ι γ tt te vs x ρ n fun d n => (∀ kvs, d ≠ .dct kvs) ∧ q d n := by
  have e : (fun (es : List D) (n2 : Nat) => (∀ kvs, D.lst es ≠ .dct kvs) ∧ q (.lst es) n2) = fun es n2 => q (.lst es) n2 := by
    funext es n2
    exact propext (and_iff_right fun _ z => nomatch z)
  unfold dLc at h ⊢
  rw [e]
  exact h
theorem ps_setLcD (i : Nat) (own : List (Str × Nat)) (hc : X.calm = true) (hN : X.N.Nodup) (hi : PID X W tg iter ι) (ok : BlkOk X.N X.env.scope scope own)
    (hg : ∀ (s : Shared) (H : Hp) (C : Addr) (cl : List (Str × Addr)) (fp : List Addr), PGD (X.blk s H scope (compEnvC scope cl C X.env) fp) sl tg γ)
    (ht : ∀ (s : Shared) (H : Hp) (C : Addr) (cl : List (Str × Addr)) (fp : List Addr), PTsD (X.blk s H scope (compEnvC scope cl C X.env) fp) ifs τ)
    (he : ∀ (s : Shared) (H : Hp) (C : Addr) (cl : List (Str × Addr)) (fp : List Addr), PD (X.blk s H scope (compEnvC scope cl C X.env) fp) W0 elt δ) (hsl : ∀ i ∈ sl, i ∈ own.map (·.2) := by decide)
    (hy : X.N[i]? = some y := by rfl) (hyl : X.env.scope.names.lookup y = some .local := by rfl)
    (hsw : swapsWith (.ListComp elt [⟨tg, iter, ifs, 0⟩] scope pos) (some (.Name y py)) spos.line X.env = pure true := by exact sw_true rfl rfl rfl (by decide +kernel))
    (hs : ∀ x, foldedSetIterable iter X.env x = pure x := by intro _; rfl) : PSD X W (.Assign [.Name y py] (.ListComp elt [⟨tg, iter, ifs, 0⟩] scope pos) spos) (dSet i (dLc ι γ τ δ (own.map (·.2)))) := by
  obtain ⟨wi, pi, ei⟩ := hi
  exact ⟨_, ps_setLc hc hN hy hyl hsw pi ok (fun s H C cl fp => (hg s H C cl fp).pg) (fun s H C cl fp => (ht s H C cl fp).pts) (fun s H C cl fp => (he s H C cl fp).pe) hs, sd_set ((ef_lc hsl ei gd_gOf et_tOf ed_tOf).ed dLc_lst) i⟩
end

def iSeq (K : PySem.W.Frag) (tl : TE) : TI := fun σ H R => tl σ H fun x H1 => ∃ a, x = .ref a ∧ (((∃ xs, SqL K H1 a xs) ∧ R (Itl K a) H1) ∨ ((∃ xs, SqT K H1 a xs) ∧ R (Itt K a) H1))
theorem seq_val {X : Cx} {tg : Expr} {pins : List (Addr × Obj)} {σ : St} {H1 : Hp} {s1 : Shared} {R : It → Hp → Prop} {a : Addr} (I1 : Inv X pins σ H1 s1) (q1 : ((∃ xs, SqL X.K H1 a xs) ∧ R (Itl X.K a) H1) ∨ ((∃ xs, SqT X.K H1 a xs) ∧ R (Itt X.K a) H1)) : wpAny (model X.prog X.w) X.A (pyIter (.ref a)) (PIE X pins σ tg R) X.xe s1 := by
  rcases q1 with ⟨⟨xs, hq⟩, q⟩ | ⟨⟨xs, hq⟩, q⟩
  · obtain ⟨its, rv, p, hz⟩ := I1.list hq
    refine wpAny_pyIter_list p.isList ?_
    refine ⟨s1.heap.objs.size, [s1.heap.objs.size], _, _, H1, rfl, I1.kept (t' := s1.toks) fun b o e => Heap.get?_push_of_some _ e, turn_list a _, ⟨_, Heap.get?_push_size _ rfl, rfl, rfl⟩, fun b hb => ?_, q⟩
    have e : b = s1.heap.objs.size := by simpa using hb
    subst e
    exact I1.fpOk (Nat.le_refl _) (I1.hok.fresh (Nat.le_refl _))
  · obtain ⟨its, rv, p, hz⟩ := I1.tuple hq
    refine wpAny_pyIter_tuple (show s1.heap.IsTuple a its.toArray from p) ?_
    refine ⟨s1.heap.objs.size, [s1.heap.objs.size], _, _, H1, rfl, I1.kept (t' := s1.toks) fun b o e => Heap.get?_push_of_some _ e, turn_tuple a _, ⟨_, Heap.get?_push_size _ rfl, rfl, rfl⟩, fun b hb => ?_, q⟩
    have e : b = s1.heap.objs.size := by simpa using hb
    subst e
    exact I1.fpOk (Nat.le_refl _) (I1.hok.fresh (Nat.le_refl _))
theorem pi_seq {X : Cx} {tg l : Expr} {tl : TE} (hl : PE X l tl) : PI X tg l (iSeq X.K tl) := by
  refine ⟨fun pins s σ H R I h => ?_⟩
  refine thn (hl.run pins s σ H _ I h) fun v s1 ⟨x, H1, I1, r1, q1⟩ => ?_
  obtain ⟨a, e, q1⟩ := q1
  subst e
  cases r1
  exact seq_val I1 q1
section
variable {K : PySem.W.Frag}
theorem walkD_list {G : Hp} {a : Addr} {vs : List V} {ds : List D} (e : G a = some (.lst vs)) (r : RepL K G ds vs) : WalkD K (Itl K a) G ds := by
  have w := walk_list (K := K) (a := a) (xs := vs)
  have hl := r.length
  refine ⟨fun i H G' hi l1 l2 => w.goes i H (by omega) (SqL.of (l2.get (l1.get e))), fun H G' l1 l2 => by rw [hl]; exact w.stops H (SqL.of (l2.get (l1.get e))), fun i H G' x H' hi l1 l2 y => ?_⟩
  obtain ⟨e1, e2⟩ := w.yields i H x H' (by omega) (SqL.of (l2.get (l1.get e))) y
  subst e1
  obtain ⟨d, h1, h2⟩ := r.getV e2
  exact ⟨d, G', h1, .refl l2, h2.mono l1⟩
theorem walkD_rol {G : Hp} {a : Addr} {o : Obj} {vs : List V} {ds : List D} (e : G a = some (.frz o (.lst vs))) (r : RepL K G ds vs) : WalkD K (Itl K a) G ds := by
  have w := walk_list (K := K) (a := a) (xs := vs)
  have hl := r.length
  have sq : ∀ {H G' : Hp}, Le G G' → Le G' H → SqL K H a vs := fun l1 l2 => .inl (.inr ⟨_, l2.get (l1.get e)⟩)
  refine ⟨fun i H G' hi l1 l2 => w.goes i H (by omega) (sq l1 l2), fun H G' l1 l2 => by rw [hl]; exact w.stops H (sq l1 l2), fun i H G' x H' hi l1 l2 y => ?_⟩
  obtain ⟨e1, e2⟩ := w.yields i H x H' (by omega) (sq l1 l2) y
  subst e1
  obtain ⟨d, h1, h2⟩ := r.getV e2
  exact ⟨d, G', h1, .refl l2, h2.mono l1⟩
theorem walkD_tup {G : Hp} {a : Addr} {vs : List V} {ds : List D} (e : SqT K G a vs) (r : RepL K G ds vs) : WalkD K (Itt K a) G ds := by
  have w := walk_tup (K := K) (a := a) (xs := vs)
  have hl := r.length
  refine ⟨fun i H G' hi l1 l2 => w.goes i H (by omega) (l2.sqT (l1.sqT e)), fun H G' l1 l2 => by rw [hl]; exact w.stops H (l2.sqT (l1.sqT e)), fun i H G' x H' hi l1 l2 y => ?_⟩
  obtain ⟨e1, e2⟩ := w.yields i H x H' (by omega) (l2.sqT (l1.sqT e)) y
  subst e1
  obtain ⟨d, h1, h2⟩ := r.getV e2
  exact ⟨d, G', h1, .refl l2, h2.mono l1⟩
def rngD (lo : Int) (n : Nat) : List D := (List.range n).map fun (i : Nat) => D.int (lo + (i : Int))
def rngC (lo c : Int) (n : Nat) : List D := (List.range n).map fun (i : Nat) => D.int (lo + (i : Int) * c)
theorem walkD_range {G : Hp} (lo : Int) (n : Nat) : WalkD K (Itr lo n) G (rngD lo n) := by
  have w := walk_range (lo := lo) (n := n)
  have hl : (rngD lo n).length = n := by simp [rngD]
  refine ⟨fun i H G' hi l1 l2 => w.goes i H (by omega) trivial, fun H G' l1 l2 => by rw [hl]; exact w.stops H trivial, fun i H G' x H' hi l1 l2 y => ?_⟩
  obtain ⟨e1, e2⟩ := w.yields i H x H' (by omega) trivial y
  subst e1
  subst e2
  exact ⟨.int (lo + i), G', by simp [rngD, show i < n by omega], .refl l2, .int _⟩
end
def iSq (δ : DE) : DI := fun x ρ n q => δ x ρ n fun d n1 => opt (seqD d) fun ds => q ds n1
def iR1 (a : DA) : DI := fun x ρ n q => a x ρ n fun ds n1 => match ds with
  | [.int j] => (-(2 ^ 62) ≤ j ∧ j < 2 ^ 62) ∧ q (rngD 0 j.toNat) n1
  | _ => False
def iR2 (a : DA) : DI := fun x ρ n q => a x ρ n fun ds n1 => match ds with
  | [.int i, .int j] => (-(2 ^ 62) ≤ i ∧ i < 2 ^ 62 ∧ -(2 ^ 62) ≤ j ∧ j < 2 ^ 62) ∧ q (rngD i (j - i).toNat) n1
  | _ => False
def iR3 (a : DA) : DI := fun x ρ n q => a x ρ n fun ds n1 => match ds with
  | [.int i, .int j, .int c] => c = -1 ∧ (-(2 ^ 62) ≤ i ∧ i < 2 ^ 62 ∧ -(2 ^ 62) ≤ j ∧ j < 2 ^ 62) ∧ q (rngC i (-1) (i - j).toNat) n1
  | _ => False
section
variable {X : Cx} {W : WX} {tg e a b c : Expr} {δ : DE} {α' : DA} {p pos : Pos}
theorem pid_seq (h : PD X W e δ) : PID X W tg e (iSq δ) := by
  obtain ⟨t, pe, h⟩ := h
  refine ⟨_, pi_seq pe, fun B σ H ρ n G α R x q hK RB hx hd k => ?_⟩
  refine h B σ H ρ n G α _ x _ hK RB hx hd fun v H1 G1 d n1 s1 j1 r1 h1 => ?_
  obtain ⟨ds, e1, h1⟩ := opt_some h1
  cases r1 with
  | lst e r =>
    cases e1
    exact ⟨_, rfl, .inl ⟨⟨_, SqL.of (s1.hh.get e)⟩, k _ H1 G1 ds n1 s1 j1 (walkD_list e r) h1⟩⟩
  | tup e r =>
    cases e1
    exact ⟨_, rfl, .inr ⟨⟨_, s1.hh.sqT e⟩, k _ H1 G1 ds n1 s1 j1 (walkD_tup e r) h1⟩⟩
  | rol e r =>
    cases e1
    exact ⟨_, rfl, .inl ⟨⟨_, .inl (.inr ⟨_, s1.hh.get e⟩)⟩, k _ H1 G1 ds n1 s1 j1 (walkD_rol e r) h1⟩⟩
  | _ => exact nomatch e1
theorem pid_r1 (hg : Gl X "range") (hm : X.mg "range" = none) (ha : PAB X W [a] α') (hs : starEach [a] X.env = [(false, eval a X.env)] := by rfl) : PID X W tg (.Call (.Name "range" p) [a] [] pos) (iR1 α') := by
  obtain ⟨t, pa, h⟩ := ha
  refine ⟨_, pi_range1 hg hm pa hs, fun B σ H ρ n G α R x q hK RB hx hd k => ?_⟩
  refine h B σ H ρ n G α _ x _ hK RB hx hd fun vs H1 G1 ds n1 s1 j1 r1 h1 => ?_
  split at h1
  · rename_i j
    obtain ⟨v, rfl, r⟩ := r1.one
    exact ⟨j, by rw [r.int], h1.1.1, h1.1.2, k _ H1 G1 _ n1 s1 j1 (walkD_range 0 j.toNat) h1.2⟩
  · exact h1.elim
end
end DL

end

section
set_option autoImplicit false
namespace DL
open PySem PySem.Spec L2

abbrev DF := Wd → List D → Nat → DQ → (Xn → Nat → Prop) → Prop
def spW (K : PySem.W.Frag) (m : Nat) (F : DF) : Sp := fun vs H Q E => ∃ (W : Wd) (n : Nat) (G : Hp) (ds : List D) (q : DQ) (x : Xn → Nat → Prop), Le G H ∧ (∀ a, W.rg a → G a = none) ∧ W.J n H ∧ RepL K G ds vs ∧ ds.length = m ∧ F W ds n q x ∧
  (∀ v H' G' d n', Step W H G H' G' → W.J n' H' → Rep K G' d v → q d n' → Q v H') ∧
  (∀ c dd H' G' e n', Step W H G H' G' → W.J n' H' → XRep K W H G' H' e c dd → x e n' → E c dd H')
abbrev DFI := Wd → List D → Nat → (List (Str × D) → Nat → Prop) → (Xn → Nat → Prop) → Prop
def but (H : Hp) (x : Addr) : Hp := fun a => if a = x then none else H a
theorem but_ne {H : Hp} {x a : Addr} (h : a ≠ x) : but H x a = H a := if_neg h
theorem but_same {H : Hp} {x : Addr} : but H x x = none := if_pos rfl
def spI (K : PySem.W.Frag) (c : Str) (m : Nat) (F : DFI) : Sp := fun vs H Q E => ∃ (W : Wd) (n : Nat) (G : Hp) (x dx : Addr) (us : List V) (ds : List D) (q : List (Str × D) → Nat → Prop) (xx : Xn → Nat → Prop),
  vs = .ref x :: us ∧ H x = some (.ins (ca K c) dx []) ∧ G x = none ∧ ¬ W.rg x ∧ Le G H ∧ (∀ a, W.rg a → G a = none) ∧ W.J n H ∧ RepL K G ds us ∧ ds.length + 1 = m ∧ F W ds n q xx ∧
  (∀ H' G' fs ws dy n', Step W (but H x) G H' G' → W.J n' H' → G' x = none → H' x = some (.ins (ca K c) dy ws) → RepF K G' fs ws → q fs n' → Q .non H') ∧
  (∀ cc dd H' G' e n', Step W (but H x) G H' G' → W.J n' H' → XRep K W (but H x) G' H' e cc dd → xx e n' → E cc dd H')

section
variable {X : Cx} {CX : CXT} {k : Nat} {f C : Addr} {fd : FuncData} {ps : List Str} {sp : Sp} {dvs : List V} {ds : List Value} {E : St → XK} {x m : Str} {p pos apos : Pos} {e o : Expr} {es : List Expr} {ta : TE} {t : TA}
def tMethSD (C : Addr) (m : Str) (sp : Sp) (dvs : List V) (E : St → XK) (ta : TE) (t : TA) : TE := fun σ H Q => ta σ H fun x H1 => ∃ a dx fs, x = .ref a ∧ H1 a = some (.ins C dx fs) ∧ fs.lookup m = none ∧
  t σ H1 fun vs H2 => sp (x :: (vs ++ dvs)) H2 Q (E σ)
theorem pe_methSD0 {pl : Sem Bool} (he : PE X o ta) (c : Cls X.K C) (hm : Meth X.K C m f) (F : FnOk X.prog X.w X.K X.mg X.base CX k f fd ps sp) (hr : Room k X.A) (hb : Binds X.K fd ps ds) (hd : Vals dvs ds) (hx : ∀ σ, PassesAt CX X σ (E σ))
    (ht : eval (.Call (.Attribute o m apos) [] [] pos) X.env = (do
      let ov ← eval o X.env
      standAt apos.atName
      let (f, first) ← holding [ov] (getMethod ov m pl)
      callWith pos f first (backTo pos (starEach [] X.env)) (backToKw pos (keywordEach [] X.env))) := by rfl) :
    PE X (.Call (.Attribute o m apos) [] [] pos) (tMethSD C m sp dvs E ta tNil) := by
  refine ⟨fun pins s σ H Q I h => ?_⟩
  refine PySem.W.methodCall_KW (pl := pl) (thn (he.run pins s σ H _ I h) fun u s1 ⟨x, H1, I1, rx, a, dx, fs, ex, ea, l, q⟩ => ?_) ht
  subst ex
  obtain rfl : u = Value.ref a := rx
  refine getmeth_ok I1 ea c hm l ?_
  exact PySem.W.callWith_K0 (first := [.ref a]) I1.kIn hm.kp (run_fnSD (us := [.ref a]) (vs := [.ref a]) F hr hb hd (hx σ) I1 (.cons rfl .nil) q)
def tMakeSD (C : Addr) (sp : Sp) (dvs : List V) (E : St → XK) (t : TA) : TE := fun σ H Q => t σ H fun vs H1 => ∀ x dx, H1 x = none → H1 dx = none → dx ≠ x →
  sp (.ref x :: (vs ++ dvs)) (upd (upd H1 dx (.own x)) x (.ins C dx [])) (fun v H2 => v = .non ∧ Q (.ref x) H2) (E σ)
theorem run_makeSD {pins : List (Addr × Obj)} {σ : St} {H : Hp} {s : Shared} {Q : VK} {us : List Value} {vs : List V} (M : Mk X.K C f) (F : FnOk X.prog X.w X.K X.mg X.base CX k f fd ps sp) (hr : Room (k + 1) X.A) (hb : Binds X.K fd ps ds) (hd : Vals dvs ds)
    (hx : PassesAt CX X σ (E σ)) (I : Inv X pins σ H s) (r : Vals vs us)
    (h : ∀ x dx, H x = none → H dx = none → dx ≠ x → sp (.ref x :: (vs ++ dvs)) (upd (upd H dx (.own x)) x (.ins C dx [])) (fun v H2 => v = .non ∧ Q (.ref x) H2) (E σ)) :
    wpAny (model X.prog X.w) X.A (call (.ref C) us) (EP X pins σ Q) X.xe s := by
  have hq := h (s.heap.objs.size + 1) s.heap.objs.size (I.hok.fresh (Nat.le_succ _)) (I.hok.fresh (Nat.le_refl _)) (Nat.ne_of_lt (Nat.lt_succ_self _))
  have I2 := Inv.made (C := C) I
  have r2 : Vals (V.ref (s.heap.objs.size + 1) :: (vs ++ dvs)) (Value.ref (s.heap.objs.size + 1) :: (us ++ ds)) := .cons rfl (r.append hd)
  have hl : (Value.ref (s.heap.objs.size + 1) :: us ++ ds).length = ps.length := by
    have e := r2.length
    rw [F.len _ _ _ _ hq] at e
    exact e.symm
  refine wpAny_call (make_map (f := f) I.kIn M.makes M.init (beq_iff_eq.mp M.fn) (codeAny_mono (F.run _ X.stack _ _ ⟨Value.ref (s.heap.objs.size + 1) :: us, []⟩ (Value.ref (s.heap.objs.size + 1) :: (us ++ ds)) _ _ (E σ) (hr.make C us [])
    (I2.env0.make C us []) (hb _ (Value.ref (s.heap.objs.size + 1) :: us) I2.kIn hl) r2 hq) fun r s' hq' => ?_))
  cases r with
  | error e => exact hx pins _ _ e s' I2 hq'
  | ok fl =>
    cases fl with
    | ret u =>
      obtain ⟨v, H', I3, rv, ev, q3⟩ := I2.after hq'
      subst ev
      exact ⟨rv, ⟨V.ref (s.heap.objs.size + 1), H', I3, rfl, q3⟩⟩
    | next => exact False.elim hq'
    | brk => exact False.elim hq'
    | cont => exact False.elim hq'
theorem pe_makeSD (M : Mk X.K C f) (F : FnOk X.prog X.w X.K X.mg X.base CX k f fd ps sp) (hr : Room (k + 1) X.A) (hg : Gl X x) (hm : X.mg x = some (.ref C)) (hb : Binds X.K fd ps ds) (hd : Vals dvs ds) (hx : ∀ σ, PassesAt CX X σ (E σ))
    (ha : PA X (e :: es) t) (hdb : (x == ("__debug__" : Str)) = false := by decide) (he : starEach (e :: es) X.env = (false, eval e X.env) :: starEach es X.env := by rfl) (hpl : (backTo pos (starEach es X.env)).any (·.1) = false := by rfl) :
    PE X (.Call (.Name x p) (e :: es) [] pos) (tMakeSD C sp dvs E t) := by
  refine ⟨fun pins s σ H Q I h => ?_⟩
  refine wpAny_Call_Name_kw (ld_glob I hg hm ?_ hdb)
  refine PySem.W.callWith_K (h₀ := X.base) I.ok.mod.kin M.kp (thn (ha.run pos pins s σ H _ I h) fun us s1 ⟨vs, H1, I1, r, q⟩ => ⟨I1.kIn, ?_⟩) he hpl
  exact run_makeSD M F hr hb hd (hx σ) I1 r q
end

structure Sg (P : Program) (w : World) (K : PySem.W.Frag) (mg : Str → Option Value) (base : Heap) (x : Str) (k m : Nat) (F : DF) (dvd : List D) : Prop where
  ex : ∃ (f : Addr) (fd : FuncData) (ps : List Str) (ds : List Value) (dvs : List V), FnOk P w K mg base (L2.CX P w) k f fd ps (spW K m F) ∧ mg x = some (.ref f) ∧ PySem.W.keepIn K (.ref f) = true ∧ Binds K fd ps ds ∧ Vals dvs ds ∧ ∀ G, RepL K G dvd dvs
structure Mg (P : Program) (w : World) (K : PySem.W.Frag) (mg : Str → Option Value) (base : Heap) (c x : Str) (k m : Nat) (F : DF) (dvd : List D) : Prop where
  cl : Cls K (ca K c)
  ex : ∃ (f : Addr) (fd : FuncData) (ps : List Str) (ds : List Value) (dvs : List V), FnOk P w K mg base (L2.CX P w) k f fd ps (spW K m F) ∧ Meth K (ca K c) x f ∧ Binds K fd ps ds ∧ Vals dvs ds ∧ ∀ G, RepL K G dvd dvs
structure Ig (P : Program) (w : World) (K : PySem.W.Frag) (mg : Str → Option Value) (base : Heap) (c : Str) (k m : Nat) (F : DFI) (dvd : List D) : Prop where
  gl : mg c = some (.ref (ca K c))
  ex : ∃ (f : Addr) (fd : FuncData) (ps : List Str) (ds : List Value) (dvs : List V), FnOk P w K mg base (L2.CX P w) k f fd ps (spI K c m F) ∧ Mk K (ca K c) f ∧ Binds K fd ps ds ∧ Vals dvs ds ∧ ∀ G, RepL K G dvd dvs
def dCall (m : Nat) (F : DF) (dvd : List D) (a : DA) : DE := fun x ρ n q => a x ρ n fun ds n1 => (ds ++ dvd).length = m ∧ F x.w (ds ++ dvd) n1 q x.ex
def dMeth (c y : Str) (m : Nat) (F : DF) (dvd : List D) (δ : DE) (a : DA) : DE := fun x ρ n q => δ x ρ n fun d n1 => match d with
  | .obj c' fs => c' = c ∧ fs.lookup y = none ∧ a x ρ n1 fun ds n2 => (ds ++ dvd).length + 1 = m ∧ F x.w (.obj c' fs :: (ds ++ dvd)) n2 q x.ex
  | _ => False
def dMake (c : Str) (m : Nat) (F : DFI) (dvd : List D) (a : DA) : DE := fun x ρ n q => a x ρ n fun ds n1 => (ds ++ dvd).length + 1 = m ∧ F x.w (ds ++ dvd) n1 (fun fs n2 => q (.obj c fs) n2) x.ex
section
variable {X : Cx} {W : WX} {k m : Nat} {F : DF} {FI : DFI} {dvd : List D} {x c y : Str} {p pos apos : Pos} {e o : Expr} {es : List Expr} {a : DA} {δ : DE}
theorem ed_call {K : PySem.W.Frag} {dvs : List V} {t : TA} (hd : ∀ G, RepL K G dvd dvs) (ha : EA K W t a) : ED K W (tCallSD (spW K m F) dvs (WE W) t) (dCall m F dvd a) := by
  intro B σ H ρ n G α Q x q hK R hx h k
  refine ha B σ H ρ n G α _ x _ hK R hx h fun vs H1 G1 ds n1 s1 j1 r1 h1 => ?_
  have R1 := R.step s1 j1
  have hx1 := hx.step s1
  obtain ⟨hl, h1⟩ := h1
  rw [hx.1] at h1
  exact ⟨B.W, n1, G1, ds ++ dvd, q, x.ex, s1.hh, R1.rg, j1, r1.append (hd G1), hl, h1, fun v H' G' d n' s j r hq => k v H' G' d n' (s1.trans s) j r hq, fun cc dd H' G' e n' s j r hq => hx1.2 cc dd H' G' e n' s j (hK ▸ r) hq⟩
theorem pd_call (S : Sg X.prog X.w X.K X.mg X.base x k m F dvd) (hr : Room k X.A) (tk : Takes X W) (hg : Gl X x) (ha : PAD X W (e :: es) a) (hdb : (x == ("__debug__" : Str)) = false := by decide)
    (he : starEach (e :: es) X.env = (false, eval e X.env) :: starEach es X.env := by rfl) (hpl : (backTo pos (starEach es X.env)).any (·.1) = false := by rfl) : PD X W (.Call (.Name x p) (e :: es) [] pos) (dCall m F dvd a) := by
  obtain ⟨t, pa, ea⟩ := ha
  obtain ⟨f, fd, ps, ds, dvs, hF, hm, hk, hb, hd, hdv⟩ := S.ex
  exact ⟨_, pe_callSD hF hr hg hm hk hb hd (fun σ => passAt tk σ) pa hdb he hpl, ed_call hdv ea⟩
theorem ed_meth {K : PySem.W.Frag} {dvs : List V} {to : TE} {t : TA} (hd : ∀ G, RepL K G dvd dvs) (ho : ED K W to δ) (ha : EA K W t a) : ED K W (tMethSD (ca K c) y (spW K m F) dvs (WE W) to t) (dMeth c y m F dvd δ a) := by
  intro B σ H ρ n G α Q x q hK R hx h k
  refine ho B σ H ρ n G α _ x _ hK R hx h fun v0 H0 G0 d0 n0 s0 j0 r0 h0 => ?_
  cases d0 with
  | obj c' fs =>
    obtain ⟨ec, el, h0⟩ := h0
    subst ec
    cases r0 with
    | obj e r =>
      refine ⟨_, _, _, rfl, s0.hh.get e, r.lookupN el, ?_⟩
      have R0 := R.step s0 j0
      refine ha B σ H0 ρ n0 G0 α _ x _ hK R0 (hx.step s0) h0 fun vs H1 G1 ds n1 s1 j1 r1 h1 => ?_
      have R1 := R0.step s1 j1
      have hx1 := (hx.step s0).step s1
      obtain ⟨hl, h1⟩ := h1
      rw [hx.1] at h1
      exact ⟨B.W, n1, G1, _ :: (ds ++ dvd), q, x.ex, s1.hh, R1.rg, j1, .cons (.obj (s1.le.get e) (r.mono s1.le)) (r1.append (hd G1)), hl, h1, fun v H' G' d n' s j r hq => k v H' G' d n' ((s0.trans s1).trans s) j r hq, fun cc dd H' G' e n' s j r hq => hx1.2 cc dd H' G' e n' s j (hK ▸ r) hq⟩
  | _ => exact h0.elim
theorem pd_meth0 {pl : Sem Bool} (S : Mg X.prog X.w X.K X.mg X.base c y k m F dvd) (hr : Room k X.A) (tk : Takes X W) (ho : PD X W o δ)
    (ht : eval (.Call (.Attribute o y apos) [] [] pos) X.env = (do
      let ov ← eval o X.env
      standAt apos.atName
      let (f, first) ← holding [ov] (getMethod ov y pl)
      callWith pos f first (backTo pos (starEach [] X.env)) (backToKw pos (keywordEach [] X.env))) := by rfl) : PD X W (.Call (.Attribute o y apos) [] [] pos) (dMeth c y m F dvd δ dNil) := by
  obtain ⟨to, po, eo⟩ := ho
  obtain ⟨f, fd, ps, ds, dvs, hF, hm, hb, hd, hdv⟩ := S.ex
  refine ⟨_, pe_methSD0 po S.cl hm hF hr hb hd (fun σ => passAt tk σ) ht, ed_meth hdv eo ?_⟩
  exact fun B σ H ρ n G α Q x q hK R hx hd k => k [] H G [] n (.refl _ R.le) R.J .nil hd
theorem ed_make {K : PySem.W.Frag} {dvs : List V} {t : TA} (hd : ∀ G, RepL K G dvd dvs) (ha : EA K W t a) : ED K W (tMakeSD (ca K c) (spI K c m FI) dvs (WE W) t) (dMake c m FI dvd a) := by
  intro B σ H ρ n G α Q x q hK R hx h k
  refine ha B σ H ρ n G α _ x _ hK R hx h fun vs H1 G1 ds n1 s1 j1 r1 h1 => ?_
  have R1 := R.step s1 j1
  have hx1 := hx.step s1
  obtain ⟨hl, h1⟩ := h1
  rw [hx.1] at h1
  intro y dx ny ndx nxy
  have nr : ¬ B.W.rg y := fun r => B.W.there n1 H1 y j1 r ny
  have nrd : ¬ B.W.rg dx := fun r => B.W.there n1 H1 dx j1 r ndx
  have gy : G1 y = none := by
    cases q : G1 y with
    | none => rfl
    | some u => have := s1.hh.get q; rw [ny] at this; cases this
  have le2 : Le G1 (upd (upd H1 dx (.own y)) y (.ins (ca K c) dx [])) := .of_same fun a o e => by
    have := s1.hh.get e
    rw [upd_ne (ne_of_none this ny), upd_ne (ne_of_none this ndx)]
    exact this
  have j2 : B.W.J n1 (upd (upd H1 dx (.own y)) y (.ins (ca K c) dx [])) := B.W.stable _ _ _ (fun a r => by
    rw [upd_ne (fun z : a = y => nr (z ▸ r)), upd_ne (fun z : a = dx => nrd (z ▸ r))]) (fun a e q => by rw [upd_ne (ne_of_none q ny), upd_ne (ne_of_none q ndx)]; exact q) j1
  have old : ∀ b o, H1 b = some o → but (upd (upd H1 dx (.own y)) y (.ins (ca K c) dx [])) y b = some o := fun b o e => by
    rw [but_ne (ne_of_none e ny), upd_ne (ne_of_none e ny), upd_ne (ne_of_none e ndx)]
    exact e
  have stp : ∀ {H' G' : Hp}, Step B.W (but (upd (upd H1 dx (.own y)) y (.ins (ca K c) dx [])) y) G1 H' G' → Step B.W H1 G1 H' G' := fun {H' G'} s => by
    refine ⟨fun a o e r => s.fr a o (old a o e) r, s.le, s.hh, fun a e => ?_⟩
    rcases s.new a e with z | ⟨z, r⟩
    · exact .inl z
    · refine .inr ⟨?_, r⟩
      cases q : H1 a with
      | none => rfl
      | some o => rw [old a o q] at z; cases z
  refine ⟨B.W, n1, G1, y, dx, vs ++ dvs, ds ++ dvd, _, x.ex, rfl, upd_same, gy, nr, le2, R1.rg, j2, r1.append (hd G1), hl, h1, fun H' G' fs ws dy n' s j gy' hy rf hq => ⟨rfl, ?_⟩, fun cc dd H' G' e n' s j r hq => hx1.2 cc dd H' G' e n' (stp s) j (hK ▸ XRep.backF r fun a o e _ => old a o e) hq⟩
  have s' := stp s
  obtain ⟨ob, e, l1, l2, r⟩ := DL.freezeL (K := K) (d := .obj c fs) s'.hh gy' ⟨dy, ws, hy, rf⟩ (fun _ z => nomatch z)
  refine k _ H' (upd G' y ob) _ n' ⟨(s1.trans s').fr, (s1.trans s').le.trans l2, l1, fun b z => ?_⟩ j r hq
  by_cases q : b = y
  · subst q
    refine .inr ⟨?_, nr⟩
    cases q : H b with
    | none => rfl
    | some o => have := s1.fr b o q nr; rw [ny] at this; cases this
  · rw [upd_ne q] at z
    exact (s1.trans s').new b z
theorem pd_make (S : Ig X.prog X.w X.K X.mg X.base c k m FI dvd) (hr : Room (k + 1) X.A) (tk : Takes X W) (hg : Gl X c) (ha : PAD X W (e :: es) a) (hdb : (c == ("__debug__" : Str)) = false := by decide)
    (he : starEach (e :: es) X.env = (false, eval e X.env) :: starEach es X.env := by rfl) (hpl : (backTo pos (starEach es X.env)).any (·.1) = false := by rfl) : PD X W (.Call (.Name c p) (e :: es) [] pos) (dMake c m FI dvd a) := by
  obtain ⟨t, pa, ea⟩ := ha
  obtain ⟨f, fd, ps, ds, dvs, hF, hm, hb, hd, hdv⟩ := S.ex
  exact ⟨_, pe_makeSD hm hF hr hg S.gl hb hd (fun σ => passAt tk σ) pa hdb he hpl, ed_make hdv ea⟩
end

def startD (N : List Str) (ds : List D) : Env := ds.map (fun d => some (.val d)) ++ List.replicate (N.length - ds.length) none
theorem startD_val {N : List Str} {ds : List D} {i : Nat} {d : D} (h : (startD N ds)[i]? = some (some (.val d))) : ds[i]? = some d := by
  unfold startD at h
  rw [List.getElem?_append] at h
  split at h
  · rw [List.getElem?_map] at h
    cases e : ds[i]? with
    | none => rw [e] at h; cases h
    | some d' => rw [e] at h; simp at h; rw [h]
  · rw [List.getElem?_replicate] at h
    split at h <;> simp at h
theorem startD_own {N : List Str} {ds : List D} {i : Nat} {d : D} (h : (startD N ds)[i]? = some (some (.own d))) : False := by
  unfold startD at h
  rw [List.getElem?_append] at h
  split at h
  · rw [List.getElem?_map] at h
    cases e : ds[i]? with
    | none => rw [e] at h; cases h
    | some d' => rw [e] at h; simp at h
  · rw [List.getElem?_replicate] at h
    split at h <;> simp at h
theorem startD_gst {N : List Str} {ds : List D} {i : Nat} {r : D} {gs : List (Addr × D)} (h : (startD N ds)[i]? = some (some (.gst r gs))) : False := by
  unfold startD at h
  rw [List.getElem?_append] at h
  split at h
  · rw [List.getElem?_map] at h
    cases e : ds[i]? with
    | none => rw [e] at h; cases h
    | some d' => rw [e] at h; simp at h
  · rw [List.getElem?_replicate] at h
    split at h <;> simp at h
theorem start_get {N : List Str} {vs : List V} {i : Nat} {v : V} (h : vs[i]? = some v) : (start N vs)[i]? = some (some v) := by
  unfold L2.start
  have hl : i < vs.length := (List.getElem?_eq_some_iff.mp h).1
  rw [List.getElem?_append_left (by simpa using hl), List.getElem?_map, h]
  rfl
theorem RelB.start {W : Wd} {K : PySem.W.Frag} {H G : Hp} {n : Nat} {N : List Str} {vs : List V} {ds : List D} (le : Le G H) (rg : ∀ a, W.rg a → G a = none) (j : W.J n H) (r : RepL K G ds vs) : RelB ⟨W, K, H, G, none⟩ (L2.start N vs) H (startD N ds) n G (fun _ => 0) := by
  refine ⟨.refl W le, rg, j, ?_, fun i d h => ?_, fun i d h => (startD_own h).elim, fun i j d e h _ => (startD_own h).elim, fun a d h h' => (startD_own h').elim, .nil fun i r gs e => startD_gst e⟩
  · unfold L2.start startD
    rw [List.length_append, List.length_append, List.length_map, List.length_map, List.length_replicate, List.length_replicate, r.length]
  · obtain ⟨v, h1, h2⟩ := r.get (startD_val h)
    exact ⟨v, start_get h1, h2⟩
def endsD (W : Wd) (q : DQ) (x : Xn → Nat → Prop) : DEnds := ⟨fun _ n => q .non n, q, fun _ _ => False, fun _ _ => False, fun e _ n => x e n, W, fun _ _ => False⟩
theorem ok_def {P : Program} {w : World} {K : PySem.W.Frag} {mg : Str → Option Value} {base : Heap} {x qual : Str} {params : Arguments} {body : List Stmt} {scope : Scope} {dvs : List V} {kws : List (Str × V)} {f : Addr} {fd : FuncData} {N ps : List Str} {k m : Nat} {F : DF}
    (FD : FunD K x qual params body scope dvs kws f fd) (S : FnScope N ps scope) (hm : ps.length = m)
    (hb : ∀ (X : Cx) (E : XK) (W : Wd) (ds : List D) (n : Nat) (q : DQ) (xx : Xn → Nat → Prop), (∃ cdv A outer s H, X = cxOf (L2.CX P w) P w K mg base N qual scope f cdv A outer s H E) → Room k X.A → Takes X (fun c d _ H => E c d H) → PassesOwn (model X.prog X.w) X.A X.env X.xe → ds.length = m → F W ds n q xx →
      ∃ δ, PSsD X (fun c d _ H => E c d H) body δ ∧ δ (endsD W q xx) (startD N ds) n) : FnOk P w K mg base (L2.CX P w) (k + 1) f fd ps (spW K m F) := by
  refine FD.ok S (fun vs H Q E h => ?_) (fun cdv A outer s H vs Q E hr h => ?_)
  · obtain ⟨W, n, G, ds, q, x, _, _, _, r, hl, _⟩ := h
    rw [← r.length, hl, hm]
  · obtain ⟨W, n, G, ds, q, xx, le, rg, j, r, hl, hF, kq, kx⟩ := h
    obtain ⟨δ, ⟨t, p, e⟩, hδ⟩ := hb (cxOf (L2.CX P w) P w K mg base N qual scope f cdv A outer s H E) E W ds n q xx ⟨cdv, A, outer, s, H, rfl⟩ hr (takes_of rfl rfl rfl rfl) (passes_of rfl) hl hF
    refine ⟨t, p, ?_⟩
    refine e ⟨W, K, H, G, none⟩ (L2.start N vs) H (startD N ds) n G _ _ _ rfl (RelB.start le rg j r) ?_ hδ
    exact ⟨fun σ H' ρ n' G' α R hq => kq _ H' G' .non n' R.st R.J .non hq, fun v H' d n' G' s j r hq => kq v H' G' d n' s j r hq, fun _ _ _ _ _ _ _ h => h.elim, fun _ _ _ _ _ _ _ h => h.elim, fun c dd σ H' ρ n' G' α e R r hq => kx c dd H' G' e n' R.st R.J r hq, rfl, fun _ _ _ _ _ _ _ _ h => h.elim⟩
def startI (c : Str) (N : List Str) (ds : List D) : Env := some (.own (.obj c [])) :: (ds.map (fun d => some (.val d)) ++ List.replicate (N.length - (ds.length + 1)) none)
def qI (c : Str) (q : List (Str × D) → Nat → Prop) (ρ : DL.Env) (n : Nat) : Prop := match ρ[0]? with
  | some (some (Sl.own (.obj c' fs))) => c' = c ∧ q fs n
  | _ => False
def endsI (W : Wd) (c : Str) (q : List (Str × D) → Nat → Prop) (x : Xn → Nat → Prop) : DEnds := ⟨qI c q, fun _ _ => False, fun _ _ => False, fun _ _ => False, fun e _ n => x e n, W, fun _ _ => False⟩
theorem RelB.startI {W : Wd} {K : PySem.W.Frag} {H G : Hp} {n : Nat} {c : Str} {N : List Str} {us : List V} {ds : List D} {x dx : Addr} (hx : H x = some (.ins (ca K c) dx [])) (gx : G x = none) (nr : ¬ W.rg x) (le : Le G H) (rg : ∀ a, W.rg a → G a = none) (j : W.J n H) (r : RepL K G ds us) :
    RelB ⟨W, K, but H x, G, some x⟩ (L2.start N (.ref x :: us)) H (DL.startI c N ds) n G (fun _ => x) := by
  have s0 : ∀ i, (DL.startI c N ds)[i + 1]? = (startD (List.replicate (N.length - 1) Str.empty) ds)[i]? := fun i => by
    unfold DL.startI startD
    rw [List.getElem?_cons_succ, List.length_replicate, show N.length - (ds.length + 1) = N.length - 1 - ds.length by omega]
  refine ⟨⟨fun a o e _ => ?_, Le.refl G, le, fun a e => .inl e⟩, rg, j, ?_, fun i d h => ?_, fun i d h => ?_, fun i j d e h h' _ => ?_, fun a d h _ => Option.some.inj h, .nil fun i r gs e => ?_⟩
  · have e : but H x a = some o := e
    by_cases z : a = x
    · rw [z, but_same] at e; cases e
    · rwa [but_ne z] at e
  · unfold L2.start DL.startI
    simp only [List.length_append, List.length_cons, List.length_map, List.length_replicate, ← r.length]
    omega
  · cases i with
    | zero => simp [DL.startI] at h
    | succ i =>
      rw [s0] at h
      obtain ⟨v, h1, h2⟩ := r.get (startD_val h)
      exact ⟨v, start_get (by rw [List.getElem?_cons_succ]; exact h1), h2⟩
  · cases i with
    | zero =>
      have e : d = .obj c [] := by simp [DL.startI] at h; exact h.symm
      subst e
      exact ⟨start_get rfl, gx, but_same, nr, dx, [], hx, .nil⟩
    | succ i =>
      rw [s0] at h
      exact (startD_own h).elim
  · cases i with
    | zero =>
      cases j with
      | zero => rfl
      | succ j => rw [s0] at h'; exact (startD_own h').elim
    | succ i => rw [s0] at h; exact (startD_own h).elim
  · cases i with
    | zero => simp [DL.startI] at e
    | succ i => rw [s0] at e; exact (startD_gst e).elim
theorem ok_init {P : Program} {w : World} {K : PySem.W.Frag} {mg : Str → Option Value} {base : Heap} {x qual c : Str} {params : Arguments} {body : List Stmt} {scope : Scope} {dvs : List V} {kws : List (Str × V)} {f : Addr} {fd : FuncData} {N ps : List Str} {k m : Nat} {F : DFI}
    (FD : FunD K x qual params body scope dvs kws f fd) (S : FnScope N ps scope) (hm : ps.length = m)
    (hb : ∀ (X : Cx) (E : XK) (W : Wd) (ds : List D) (n : Nat) (q : List (Str × D) → Nat → Prop) (xx : Xn → Nat → Prop), (∃ cdv A outer s H, X = cxOf (L2.CX P w) P w K mg base N qual scope f cdv A outer s H E) → Room k X.A → Takes X (fun c d _ H => E c d H) → PassesOwn (model X.prog X.w) X.A X.env X.xe → ds.length + 1 = m → F W ds n q xx →
      ∃ δ, PSsD X (fun c d _ H => E c d H) body δ ∧ δ (endsI W c q xx) (startI c N ds) n) : FnOk P w K mg base (L2.CX P w) (k + 1) f fd ps (spI K c m F) := by
  refine FD.ok S (fun vs H Q E h => ?_) (fun cdv A outer s H vs Q E hr h => ?_)
  · obtain ⟨W, n, G, x, dx, us, ds, q, xx, rfl, _, _, _, _, _, _, r, hl, _⟩ := h
    rw [List.length_cons, ← r.length, hl, hm]
  · obtain ⟨W, n, G, y, dx, us, ds, q, xx, rfl, hy, gy, nr, le, rg, j, r, hl, hF, kq, kx⟩ := h
    obtain ⟨δ, ⟨t, p, e⟩, hδ⟩ := hb (cxOf (L2.CX P w) P w K mg base N qual scope f cdv A outer s H E) E W ds n q xx ⟨cdv, A, outer, s, H, rfl⟩ hr (takes_of rfl rfl rfl rfl) (passes_of rfl) hl hF
    refine ⟨t, p, ?_⟩
    refine e ⟨W, K, but H y, G, some y⟩ (L2.start N (.ref y :: us)) H (startI c N ds) n G _ _ _ rfl (RelB.startI hy gy nr le rg j r) ?_ hδ
    refine ⟨fun σ H' ρ n' G' α R hq => ?_, fun v H' d n' G' s j r hq => hq.elim, fun _ _ _ _ _ _ _ h => h.elim, fun _ _ _ _ _ _ _ h => h.elim, fun c dd σ H' ρ n' G' α e R r hq => kx c dd H' G' e n' R.st R.J r hq, rfl, fun _ _ _ _ _ _ _ _ h => h.elim⟩
    have hq1 : qI c q ρ n' := hq
    unfold qI at hq1
    split at hq1
    · rename_i c' fs eo
      obtain ⟨ec, hq2⟩ := hq1
      subst ec
      have ea := R.p0 y _ rfl eo
      obtain ⟨_, g1, _, _, dx', ws, hH, rf⟩ := R.own 0 _ eo
      rw [ea] at g1 hH
      exact kq H' G' fs ws dx' n' R.st R.J g1 hH rf hq2
    · exact hq1.elim
end DL

end

section
set_option autoImplicit false
namespace DL
open PySem PySem.Spec L2

def dFld (cs : List Str) (f : Str) (δ : DE) : DE := fun x ρ n q => δ x ρ n fun d n1 => match d with
  | .obj c fs => c ∈ cs ∧ opt (fs.lookup f) fun v => q v n1
  | _ => False
section
variable {X : Cx} {W : WX} {a b c : Expr} {δ δa δb δc : DE} {pos p : Pos} {f x : Str}
theorem pd_fld (cs : List Str) (hc : ∀ c ∈ cs, Cls X.K (ca X.K c) ∧ NoAttr X.K (ca X.K c) f) (h : PB X W a δ) (hb : attributeBase a f X.env (eval a X.env) = eval a X.env := by rfl) : PD X W (.Attribute a f pos) (dFld cs f δ) := by
  obtain ⟨t, p, h⟩ := h
  refine ⟨_, pe_fld p hb, fun B σ H ρ n G α Q x q hK R hx hd k => ?_⟩
  refine h B σ H ρ n G α _ x _ hK R hx hd fun v H1 G1 d n1 s1 j1 r1 h1 => ?_
  cases d with
  | obj c fs =>
    obtain ⟨hm, h1⟩ := h1
    obtain ⟨d', e, h1⟩ := opt_some h1
    obtain ⟨a, dx, ws, e1, e2, rf⟩ := r1.obj s1.hh
    obtain ⟨u, l, r⟩ := rf.lookup e
    exact ⟨a, _, dx, ws, u, e1, e2, (hc c hm).1, (hc c hm).2, l, k u H1 G1 d' n1 s1 j1 r h1⟩
  | _ => exact h1.elim

theorem pd_globI {i : Int} (hg : Gl X x) (hm : ∃ t, X.mg x = some (.int i t)) (hd : (x == ("__debug__" : Str)) = false := by decide) : PD X W (.Name x pos) (dC (.int i)) := by
  obtain ⟨t, hm⟩ := hm
  exact pd_c (v := .int i) (pe_glob hg hm ⟨t, rfl⟩ hd) fun _ => .int i
theorem pd_globS {z : Str} (hg : Gl X x) (hm : ∃ t, X.mg x = some (.str z t)) (hd : (x == ("__debug__" : Str)) = false := by decide) : PD X W (.Name x pos) (dC (.str z)) := by
  obtain ⟨t, hm⟩ := hm
  exact pd_c (v := .str z) (pe_glob hg hm ⟨t, rfl⟩ hd) fun _ => .str z
theorem pd_globR {d : D} {r : Addr} (hg : Gl X x) (hm : X.mg x = some (.ref r)) (hr : ∀ G, Rep X.K G d (.ref r)) (hd : (x == ("__debug__" : Str)) = false := by decide) : PD X W (.Name x pos) (dC d) := pd_c (v := .ref r) (pe_glob hg hm rfl hd) hr

def dNeg (δ : DE) : DE := fun x ρ n q => δ x ρ n fun d n1 => match d with
  | .int i => q (.int (-i)) n1
  | _ => False
theorem pd_neg (h : PB X W a δ) : PD X W (.UnaryOp .USub a pos) (dNeg δ) := by
  obtain ⟨t, p, h⟩ := h
  refine ⟨_, pe_un un_neg p, fun B σ H ρ n G α Q x q hK R hx hd k => ?_⟩
  refine h B σ H ρ n G α _ x _ hK R hx hd fun v H1 G1 d n1 s1 j1 r1 h1 => ?_
  cases d with
  | int i => exact ⟨i, r1.int, k _ H1 G1 _ n1 s1 j1 (.int _) h1⟩
  | _ => exact h1.elim
def dChain (p p' : Int → Int → Bool) (a b c : DE) : DE := fun x ρ n q => a x ρ n fun u n1 => b x ρ n1 fun v n2 => match u, v with
  | .int i, .int j => if p i j = true then c x ρ n2 fun w n3 => (match w with
      | .int l => q (.bl (p' j l)) n3
      | _ => False) else q (.bl false) n2
  | _, _ => False
theorem ed_chain {K : PySem.W.Frag} {p p' : Int → Int → Bool} {ta tb tc : TE} (ha : EB K W ta δa) (hb : EB K W tb δb) (hc : EB K W tc δc) : ED K W (tChain (rI0 fun i j => .bl (p i j)) (rI0 fun i j => .bl (p' i j)) ta tb tc) (dChain p p' δa δb δc) := by
  intro B σ H ρ n G α Q x q hK R hx h k
  refine ha B σ H ρ n G α _ x _ hK R hx h fun v1 H1 G1 d1 n1 s1 j1 r1 h1 => ?_
  have R1 := R.step s1 j1
  refine hb B σ H1 ρ n1 G1 α _ x _ hK R1 (hx.step s1) h1 fun v2 H2 G2 d2 n2 s2 j2 r2 h2 => ?_
  have R2 := R1.step s2 j2
  cases d1 with
  | int i =>
    cases d2 with
    | int j =>
      refine ⟨i, j, r1.int, r2.int, _, rfl, ?_⟩
      have h2 : if p i j = true then δc x ρ n2 (fun w n3 => (match w with
        | .int l => q (.bl (p' j l)) n3
        | _ => False)) else q (.bl false) n2 := h2
      by_cases e : p i j = true
      · rw [if_pos e] at h2 ⊢
        refine hc B σ H2 ρ n2 G2 α _ x _ hK R2 ((hx.step s1).step s2) h2 fun v3 H3 G3 d3 n3 s3 j3 r3 h3 => ?_
        cases d3 with
        | int l => exact ⟨j, l, r2.int, r3.int, k _ H3 G3 _ n3 (s1.trans (s2.trans s3)) j3 (.bl _) h3⟩
        | _ => exact h3.elim
      · rw [if_neg e] at h2 ⊢
        exact k _ H2 G2 _ n2 (s1.trans s2) j2 (.bl false) h2
    | _ => exact h2.elim
  | _ => exact h2.elim
abbrev iLe (i j : Int) : Bool := decide (i ≤ j)
abbrev iLt (i j : Int) : Bool := decide (i < j)
theorem pt_leLt (ha : PB X W a δa) (hb : PB X W b δb) (hc : PB X W c δc) (hm : lastMarks [.LtE, .Lt] [b, c] = false := by with_unfolding_all rfl) : PTD X W (.Compare a [.LtE, .Lt] [b, c] pos) (dTest (dChain iLe iLt δa δb δc)) := by
  obtain ⟨ta, pa, ea⟩ := ha
  obtain ⟨tb, pb, eb⟩ := hb
  obtain ⟨tc, pc, ec⟩ := hc
  exact ⟨_, pt_chain op_le op_lt pa pb pc hm, et_of (ed_chain ea eb ec).eb⟩
theorem pt_leLe (ha : PB X W a δa) (hb : PB X W b δb) (hc : PB X W c δc) (hm : lastMarks [.LtE, .LtE] [b, c] = false := by with_unfolding_all rfl) : PTD X W (.Compare a [.LtE, .LtE] [b, c] pos) (dTest (dChain iLe iLe δa δb δc)) := by
  obtain ⟨ta, pa, ea⟩ := ha
  obtain ⟨tb, pb, eb⟩ := hb
  obtain ⟨tc, pc, ec⟩ := hc
  exact ⟨_, pt_chain op_le op_le pa pb pc hm, et_of (ed_chain ea eb ec).eb⟩
end

def truD : D → Option Bool
  | .non => some false
  | .bl b => some b
  | .int i => some (i != 0)
  | .lst ds => some (!ds.isEmpty)
  | .tup ds => some (!ds.isEmpty)
  | .dct kvs => some (!kvs.isEmpty)
  | _ => none
def dTru (δ : DE) : DT := fun x ρ n q => δ x ρ n fun d n1 => opt (truD d) fun b => q b n1
theorem RepL.isEmpty {K : PySem.W.Frag} {G : Hp} {ds : List D} {vs : List V} (r : RepL K G ds vs) : ds.isEmpty = vs.isEmpty := by
  cases r <;> rfl
theorem RepK.isEmpty {K : PySem.W.Frag} {G : Hp} {ds : List (Key × D)} {vs : List (Key × V)} (r : RepK K G ds vs) : ds.isEmpty = vs.isEmpty := by
  cases r <;> rfl
def TruV2 (K : PySem.W.Frag) (x : V) (H : Hp) (k : Bool) : Prop := TruV K x H k ∨ ∃ a kvs, x = .ref a ∧ Rd H a (.dK kvs) ∧ k = !kvs.isEmpty
theorem tru_ok2 {X : Cx} : TruR X (fun x H Q => ∃ k, TruV2 X.K x H k ∧ Q k H) := by
  intro pins s σ H x v Q I r h
  obtain ⟨k, t | ⟨a, kvs, e, hd, hk⟩, q⟩ := h
  · exact tru_ok pins s σ H x v Q I r ⟨k, t, q⟩
  · subst e
    obtain rfl : v = Value.ref a := r
    exact d_truth I hd fun s' I' => ⟨H, I', hk ▸ q⟩
theorem RepB.tru {K : PySem.W.Frag} {W : Wd} {G H : Hp} {d : D} {v : V} {b : Bool} (le : Le G H) (r : RepB K W G H d v) (h : truD d = some b) : TruV2 K v H b := by
  cases d with
  | non => rw [r.non]; cases h; exact .inl rfl
  | bl b => rw [r.bl]; cases h; exact .inl rfl
  | int i => rw [r.int]; cases h; exact .inl rfl
  | lst ds =>
    obtain ⟨a, vs, e, h1, r1⟩ := r.lst le
    cases h
    rw [e, r1.isEmpty]
    exact .inl (.inl ⟨vs, SqL.of h1, rfl⟩)
  | tup ds =>
    obtain ⟨a, vs, e, h1, r1⟩ := r.tup le
    cases h
    rw [e, r1.isEmpty]
    exact .inl (.inr (.inl ⟨vs, h1, rfl⟩))
  | dct kvs =>
    obtain ⟨a, ws, e, h1, r1⟩ := r.dct le
    cases h
    rw [r1.isEmpty]
    exact .inr ⟨a, ws, e, h1, rfl⟩
  | _ => exact nomatch h
section
variable {X : Cx} {W : WX} {a b c e f : Expr} {lo hi : Option Expr} {δ δa δb δc : DE} {pos p p2 apos cpos : Pos} {x : Str}
theorem pt_truD (h : PB X W a δ) (he : ∀ whole, isTrue a X.env whole = (do let v ← whole; standAt a.pos; holding [v] (truthy v)) := by intro _; rfl) : PTD X W a (dTru δ) := by
  obtain ⟨t, p, h⟩ := h
  have pt : PT X a (fun σ H Q => t σ H fun x H1 => ∃ k, TruV2 X.K x H1 k ∧ Q k H1) := by
    refine ⟨fun pins s σ H Q I hw => ?_⟩
    refine PyProof.Rows.isTrue_plain (thn (p.run pins s σ H _ I hw) fun v s1 ⟨x, H1, I1, r1, q1⟩ => ?_) (he _)
    exact tru_ok2 pins s1 σ H1 x v Q I1 r1 q1
  refine ⟨_, pt, fun B σ H ρ n G α Q x q hK R hx hd k => ?_⟩
  refine h B σ H ρ n G α _ x _ hK R hx hd fun v H1 G1 d n1 s1 j1 r1 h1 => ?_
  obtain ⟨b, e, h1⟩ := opt_some h1
  exact ⟨b, r1.tru s1.hh e, k b H1 G1 n1 s1 j1 h1⟩

abbrev DO := DX → Env → Nat → (Option Int → Nat → Prop) → Prop
def PDO (X : Cx) (W : WX) (e : Option Expr) (ω : DO) : Prop := ∃ t, PO X e t ∧ ∀ (B : Bs) (σ : St) (H : Hp) (ρ : Env) (n : Nat) (G : Hp) (α : Nat → Addr) (Q : Option Int → Hp → Prop) (x : DX) (q : Option Int → Nat → Prop), B.K = X.K → RelB B σ H ρ n G α → XL B W σ H G x → ω x ρ n q →
    (∀ o H' G' n', Step B.W H G H' G' → B.W.J n' H' → q o n' → Q o H') → t σ H Q
def oNone : DO := fun _ _ n q => q none n
def oSome (δ : DE) : DO := fun x ρ n q => δ x ρ n fun d n1 => match d with
  | .int i => q (some i) n1
  | _ => False
theorem pdo_none : PDO X W none oNone := ⟨_, po_none, fun B σ H ρ n G α Q x q hK R hx hd k => k none H G n (.refl _ R.le) R.J hd⟩
theorem pdo_some (h : PB X W a δ) : PDO X W (some a) (oSome δ) := by
  obtain ⟨t, p, h⟩ := h
  refine ⟨_, po_some p, fun B σ H ρ n G α Q x q hK R hx hd k => ?_⟩
  refine h B σ H ρ n G α _ x _ hK R hx hd fun v H1 G1 d n1 s1 j1 r1 h1 => ?_
  cases d with
  | int i => exact ⟨i, r1.int, k (some i) H1 G1 n1 s1 j1 h1⟩
  | _ => exact h1.elim
def cutD (ds : List D) (lo hi : Option Int) : List D := (ds.drop (HT.sIx ds.length 0 lo)).take (HT.sIx ds.length ds.length hi - HT.sIx ds.length 0 lo)
def dSl (δ : DE) (l h : DO) : DE := fun x ρ n q => δ x ρ n fun d n1 => l x ρ n1 fun lo n2 => h x ρ n2 fun hi n3 => match d with
  | .lst ds => q (.lst (cutD ds lo hi)) n3
  | _ => False
def dRev (δ : DE) : DE := fun x ρ n q => δ x ρ n fun d n1 => match d with
  | .lst ds => q (.lst ds.reverse) n1
  | _ => False
theorem RepL.reverse {K : PySem.W.Frag} {G : Hp} : ∀ {ds : List D} {vs : List V}, RepL K G ds vs → RepL K G ds.reverse vs.reverse
  | _, _, .nil => .nil
  | _, _, .cons r t => by
    rw [List.reverse_cons, List.reverse_cons]
    exact (RepL.reverse t).snoc r
def dGet2 (δ δk δx : DE) : DE := fun x ρ n q => δ x ρ n fun d n1 => match d with
  | .dct kvs => δk x ρ n1 fun k n2 => δx x ρ n2 fun z n3 => opt (keyD k) fun j => q ((getD kvs j).getD z) n3
  | _ => False
theorem pd_get2 (hu : X.A.units + 1 < cLine) (ho : PB X W a δa) (hk : PB X W e δb) (hx : PD X W f δc) (m : M2 X a "get" apos e f cpos := by exact ⟨rfl, rfl, rfl, rfl⟩) : PD X W (.Call (.Attribute a "get" apos) [e, f] [] cpos) (dGet2 δa δb δc) := by
  obtain ⟨ta, pa, ea⟩ := ho
  obtain ⟨tb, pb, eb⟩ := hk
  obtain ⟨tc, pc, ec⟩ := hx
  refine ⟨_, pe_dget2 hu pa pb pc m, fun B σ H ρ n G α Q x q hK R hx hd k => ?_⟩
  refine ea B σ H ρ n G α _ x _ hK R hx hd fun v1 H1 G1 d1 n1 s1 j1 r1 h1 => ?_
  have R1 := R.step s1 j1
  cases d1 with
  | dct kvs =>
    obtain ⟨p, ws, e1, hd, rk⟩ := r1.dct s1.hh
    refine ⟨p, e1, .inl ⟨ws, hd⟩, ?_⟩
    refine eb B σ H1 ρ n1 G1 α _ x _ hK R1 (hx.step s1) h1 fun v2 H2 G2 d2 n2 s2 j2 r2 h2 => ?_
    have R2 := R1.step s2 j2
    refine ec B σ H2 ρ n2 G2 α _ x _ hK R2 ((hx.step s1).step s2) h2 fun v3 H3 G3 d3 n3 s3 j3 r3 h3 => ?_
    obtain ⟨j, ej, h3⟩ := opt_some h3
    obtain ⟨p', ws', e1', hd', rk'⟩ := ((r1.step s2).step s3).dct s3.hh
    have ep : p' = p := by rw [e1] at e1'; injection e1' with e; exact e.symm
    subst ep
    refine ⟨valV ws' j, .inl ⟨ws', j, hd', keyD_rep ej (r2.step s3), rfl⟩, ?_⟩
    rcases rk'.val (k := j) with ⟨d', v', g1, g2, g3⟩ | ⟨g1, g2⟩
    · rw [g1] at h3
      rw [g2]
      exact k v' H3 G3 d' n3 (s1.trans (s2.trans s3)) j3 g3 h3
    · rw [g1] at h3
      rw [g2]
      exact k v3 H3 G3 d3 n3 (s1.trans (s2.trans s3)) j3 r3 h3
  | _ => exact h1.elim
def fDin (neg : Bool) : F2 := fun x y k => match keyD x, y with
  | some j, .dct kvs => k (.bl (if neg then !(getD kvs j).isSome else (getD kvs j).isSome))
  | _, _ => False
theorem RepK.isSome {K : PySem.W.Frag} {G : Hp} {kvs : List (Key × D)} {ws : List (Key × V)} (r : RepK K G kvs ws) (j : Key) : (valV ws j).isSome = (getD kvs j).isSome := by
  rcases r.val (k := j) with ⟨d', v', g1, g2, g3⟩ | ⟨g1, g2⟩
  · rw [g1, g2]; rfl
  · rw [g1, g2]; rfl
end
end DL

end

section
set_option autoImplicit false
namespace DL
open PySem PySem.Spec L2

inductive Ty where
  | b (n : String) | own (c : Str)
def Ty.val (K : PySem.W.Frag) : Ty → Value
  | .b n => .type n
  | .own c => .ref (ca K c)
def tyD : D → Option Ty
  | .non => some (.b "NoneType")
  | .bl _ => some (.b "bool")
  | .int _ => some (.b "int")
  | .str _ => some (.b "str")
  | .lst _ => some (.b "list")
  | .tup _ => some (.b "tuple")
  | .dct _ => some (.b "dict")
  | .obj c _ => some (.own c)
  | .hnd _ => none
  | .exc _ _ _ _ => none
  | .rol _ => some (.b "list")
structure TyF (K : PySem.W.Frag) (c : Str) : Prop where
  cl : Cls K (ca K c)
  ha : PySem.W.findIn K (.ref (ca K c)) "__class__" = some (some (.builtin "object.__class__"))
  hn : PySem.W.specialIn K (.builtin "object.__class__") "__get__" = some (some (.builtin "getset_descriptor.__get__"))
  htk : PySem.W.takesIn K (.builtin "object.__class__") = some true
  hm : PySem.W.mroIn K (ca K c) (.type "object") = some true
theorem sqT_tyX {K : PySem.W.Frag} {H : Hp} {a : Addr} {vs : List V} (h : SqT K H a vs) : TyX K H (.ref a) (.type "tuple") := by
  rcases h with (h | ⟨o, h⟩) | ⟨o, its, n, h, c, _⟩
  · exact .base (.tup h)
  · exact .fTuple h
  · exact .kTuple h c
theorem RepB.tyX {K : PySem.W.Frag} {W : Wd} {G H : Hp} {d : D} {v : V} {t : Ty} (le : Le G H) (r : RepB K W G H d v) (h : tyD d = some t) (hc : ∀ c, t = .own c → TyF K c) : TyX K H v (t.val K) := by
  cases d with
  | non => rw [r.non]; cases h; exact .base .non
  | bl b => rw [r.bl]; cases h; exact .base (.bl b)
  | int i => rw [r.int]; cases h; exact .base (.int i)
  | str i => rw [r.str]; cases h; exact .base (.str i)
  | lst ds =>
    obtain ⟨a, vs, e, h1, _⟩ := r.lst le
    cases h
    rw [e]
    exact .base (.lst h1)
  | tup ds =>
    obtain ⟨a, vs, e, h1, _⟩ := r.tup le
    cases h
    rw [e]
    exact sqT_tyX h1
  | dct kvs =>
    obtain ⟨a, ws, e, h1, _⟩ := r.dct le
    cases h
    rw [e]
    rcases h1 with h1 | ⟨o, h1⟩
    · exact .base (.dK h1)
    · exact .fDict h1
  | obj c fs =>
    obtain ⟨a, dx, ws, e, h1, _⟩ := r.obj le
    cases h
    rw [e]
    have f := hc c rfl
    exact .base (.ins h1 f.cl f.ha f.hn f.htk f.hm)
  | hnd a => exact nomatch h
  | exc _ _ _ _ => exact nomatch h
  | rol ds =>
    cases h
    rcases r with r | ⟨a, e, _, _, o⟩
    · cases r with
      | rol e r => exact .base (.frz (le.get e))
    · exact o.elim
def isD (CS : List Str) (f : Ty → Bool) (δ : DE) : DE := fun x ρ n q => δ x ρ n fun d n1 => opt (tyD d) fun t => (∀ c, t = .own c → c ∈ CS) ∧ q (.bl (f t)) n1
section
variable {X : Cx} {W : WX} {a T : Expr} {δ : DE} {p pos pT : Pos} {x : Str}
theorem ed_isi {K : PySem.W.Frag} {ta tT : TE} {CS : List Str} {f : Ty → Bool} {cv : V} {u : Value} (hc : ∀ c ∈ CS, TyF K c) (ha : EB K W ta δ) (hT : ∀ σ H Q, Q cv H → tT σ H Q) (k : ClsV cv u) (hf : ∀ d t, tyD d = some t → (∀ c, t = .own c → c ∈ CS) → PySem.W.kitOne K (t.val K) u = some (f t)) :
    ED K W (tCB (rIsi K) (tCons ta (tCons tT tNil))) (isD CS f δ) := by
  intro B σ H ρ n G α Q x q hK R hx hd kk
  refine ha B σ H ρ n G α _ x _ hK R hx hd fun v H1 G1 d n1 s1 j1 r1 h1 => hT _ _ _ ?_
  obtain ⟨t, et, hcs, h1⟩ := opt_some h1
  exact ⟨v, cv, _, u, f t, rfl, k, r1.tyX s1.hh et fun c e => hc c (hcs c e), hf d t et hcs, kk _ H1 G1 _ n1 s1 j1 (.bl _) h1⟩
theorem pd_isiB {CS : List Str} {f : Ty → Bool} {nT : String} (hc : ∀ c ∈ CS, TyF X.K c) (hf : ∀ d t, tyD d = some t → (∀ c, t = .own c → c ∈ CS) → PySem.W.kitOne X.K (t.val X.K) (.type nT) = some (f t)) (hgi : Gl X "isinstance") (hmi : X.mg "isinstance" = none) (hg : Gl X x) (hm : X.mg x = none) (hv : bootBuiltins x = some (.type nT))
    (h : PB X W a δ) (hn : x ≠ "__name__" := by decide) (hdb : (x == ("__debug__" : Str)) = false := by decide) (hst : starEach [a, .Name x pT] X.env = (false, eval a X.env) :: starEach [.Name x pT] X.env := by rfl) (hst2 : starEach [.Name x pT] X.env = [(false, eval (.Name x pT) X.env)] := by rfl)
    (hpl : (backTo pos (starEach [.Name x pT] X.env)).any (·.1) = false := by rfl) : PD X W (.Call (.Name "isinstance" p) [a, .Name x pT] [] pos) (isD CS f δ) := by
  obtain ⟨t, pe, e⟩ := h
  exact ⟨_, pe_callB call_isi hgi hmi (by decide +kernel) (pa_cons pe (pa_cons (pe_bltn (v := .ty nT) hg hm hv rfl hn hdb) pa_nil hst2) hst) (by decide) (by decide) hst hpl, ed_isi hc e (fun _ _ _ q => q) (.ty nT) hf⟩
theorem pd_isiO {CS : List Str} {f : Ty → Bool} {r : Addr} (hc : ∀ c ∈ CS, TyF X.K c) (hf : ∀ d t, tyD d = some t → (∀ c, t = .own c → c ∈ CS) → PySem.W.kitOne X.K (t.val X.K) (.ref r) = some (f t)) (hgi : Gl X "isinstance") (hmi : X.mg "isinstance" = none) (hg : Gl X x) (hm : X.mg x = some (.ref r))
    (h : PB X W a δ) (hdb : (x == ("__debug__" : Str)) = false := by decide) (hst : starEach [a, .Name x pT] X.env = (false, eval a X.env) :: starEach [.Name x pT] X.env := by rfl) (hst2 : starEach [.Name x pT] X.env = [(false, eval (.Name x pT) X.env)] := by rfl)
    (hpl : (backTo pos (starEach [.Name x pT] X.env)).any (·.1) = false := by rfl) : PD X W (.Call (.Name "isinstance" p) [a, .Name x pT] [] pos) (isD CS f δ) := by
  obtain ⟨t, pe, e⟩ := h
  exact ⟨_, pe_callB call_isi hgi hmi (by decide +kernel) (pa_cons pe (pa_cons (pe_glob (v := .ref r) hg hm rfl hdb) pa_nil hst2) hst) (by decide) (by decide) hst hpl, ed_isi hc e (fun _ _ _ q => q) (.own r) hf⟩
theorem ed_isiT {K : PySem.W.Frag} {ta : TE} {tT : TA} {CS : List Str} {f : Ty → Bool} {cvs : List V} {us : List Value} (hc : ∀ c ∈ CS, TyF K c) (ha : EB K W ta δ) (hT : ∀ σ H Q, Q cvs H → tT σ H Q) (k : Paired ClsV cvs us) (hl : cvs.length ≤ sizeLine) (hf : ∀ d t, tyD d = some t → (∀ c, t = .own c → c ∈ CS) → PySem.W.kitAny K (t.val K) us = some (f t)) :
    ED K W (tCB (rIsiT K) (tCons ta (tCons (tTup tT) tNil))) (isD CS f δ) := by
  intro B σ H ρ n G α Q x q hK R hx hd kk
  refine ha B σ H ρ n G α _ x _ hK R hx hd fun v H1 G1 d n1 s1 j1 r1 h1 => hT _ _ _ ⟨hl, fun p np => ?_⟩
  obtain ⟨t, et, hcs, h1⟩ := opt_some h1
  have s := StepP.laid (o := .tup cvs) s1.hh np
  have st := s.step j1
  exact ⟨v, p, cvs, _, us, f t, rfl, upd_same, k, (r1.step st).tyX st.hh et fun c e => hc c (hcs c e), hf d t et hcs, kk _ _ _ _ n1 (s1.trans st) (s.J j1) (.bl _) h1⟩
theorem pd_isiT {CS : List Str} {f : Ty → Bool} {es : List Expr} {x1} {tT : TA} {cvs : List V} {us : List Value} (hc : ∀ c ∈ CS, TyF X.K c) (hf : ∀ d t, tyD d = some t → (∀ c, t = .own c → c ∈ CS) → PySem.W.kitAny X.K (t.val X.K) us = some (f t)) (hgi : Gl X "isinstance") (hmi : X.mg "isinstance" = none)
    (hT : PA X es tT) (hT2 : ∀ σ H Q, Q cvs H → tT σ H Q) (k : Paired ClsV cvs us) (hl : cvs.length ≤ sizeLine) (h : PB X W a δ) (hst : starEach [a, .Tuple es x1 pT] X.env = (false, eval a X.env) :: starEach [.Tuple es x1 pT] X.env := by rfl) (hst2 : starEach [.Tuple es x1 pT] X.env = [(false, eval (.Tuple es x1 pT) X.env)] := by rfl)
    (hpl : (backTo pos (starEach [.Tuple es x1 pT] X.env)).any (·.1) = false := by rfl) : PD X W (.Call (.Name "isinstance" p) [a, .Tuple es x1 pT] [] pos) (isD CS f δ) := by
  obtain ⟨t, pe, e⟩ := h
  exact ⟨_, pe_callB call_isiT hgi hmi (by decide +kernel) (pa_cons pe (pa_cons (pe_tup hT) pa_nil hst2) hst) (by decide) (by decide) hst hpl, ed_isiT hc e hT2 k hl hf⟩
end

def dPar (i j : Nat) (a : DA) : DS := fun E ρ n => a (E.xx ρ) ρ n fun ds n1 => match ds with
  | [u, v] => E.nx ((ρ.set i (some (.val u))).set j (some (.val v))) n1
  | _ => False
section
variable {X : Cx} {W : WX} {a b e tg : Expr} {δ : DE} {α' : DA} {pos : Pos} {x y : Str}
theorem ps_parD (i j : Nat) {px py pt : Pos} {kt k2 pt2} (hc : X.calm = true) (hN : X.N.Nodup) (ha : PAD X W [a, b] α') (hi : X.N[i]? = some x := by rfl) (hj : X.N[j]? = some y := by rfl) (hij : i ≠ j := by decide)
    (hx : X.env.scope.names.lookup x = some .local := by rfl) (hy : X.env.scope.names.lookup y = some .local := by rfl)
    (hw : swappedStores [.Tuple [.Name x px, .Name y py] kt pt] (.Tuple [a, b] k2 pt2) X.env = pure (some [x, y]) := by rfl)
    (hs : swapsWithSole [.Tuple [.Name x px, .Name y py] kt pt] (.Tuple [a, b] k2 pt2) pos.line X.env = pure false := by rfl) :
    PSD X W (.Assign [.Tuple [.Name x px, .Name y py] kt pt] (.Tuple [a, b] k2 pt2) pos) (dPar i j α') := by
  obtain ⟨t, p, h⟩ := ha
  refine ⟨_, ps_par hc hN hi hj hij hx hy p hw hs, fun B σ H ρ n G α D E hK R L hd => ?_⟩
  refine h B σ H ρ n G α _ _ _ hK R (L.xl R) hd fun vs H1 G1 ds n1 s1 j1 r1 h1 => ?_
  split at h1
  · rename_i u v
    cases r1 with
    | cons r1 t1 =>
      cases t1 with
      | cons r2 t2 =>
        cases t2
        exact ⟨_, _, rfl, L.nx _ H1 _ n1 G1 α (((R.step s1 j1).set i (hK ▸ r1)).set j (hK ▸ r2)) h1⟩
  · exact h1.elim
def dAsg (γ : DG) (δ : DE) : DS := fun E ρ n => δ (E.xx ρ) ρ n fun d n1 => γ d ρ fun ρ1 => E.nx ρ1 n1
end

def pairsD : List D → Option (List (Key × D))
  | [] => some []
  | .tup [k, v] :: ds => (keyD k).bind fun j => (pairsD ds).map ((j, v) :: ·)
  | _ :: _ => none
def mergeD (kvs more : List (Key × D)) : List (Key × D) := more.foldl (fun acc kv => putD acc kv.1 kv.2) kvs
def fDict : FL := f1 fun d k => match d with
  | .lst ds => opt (pairsD ds) fun kvs => k (.dct (mergeD [] kvs))
  | _ => False
theorem pairs_rep {K : PySem.W.Frag} {G : Hp} : ∀ {ds : List D} {vs : List V} {kvs : List (Key × D)}, RepL K G ds vs → pairsD ds = some kvs → ∃ (ps : List Addr) (ws : List (Key × V)), vs = ps.map V.ref ∧ Paired (fun p kv => SqT K G p [kV kv.1, kv.2]) ps ws ∧ RepK K G kvs ws
  | _, _, _, .nil, h => by cases h; exact ⟨[], [], rfl, .nil, .nil⟩
  | _, _, kvs, .cons (d := d) (ds := ds) r t, h => by
    unfold pairsD at h
    split at h
    · rename_i h0; cases h0
    · rename_i k v ds' h0
      cases h0
      cases ek : keyD k with
      | none => rw [ek] at h; cases h
      | some j =>
        rw [ek] at h
        cases ep : pairsD ds with
        | none => rw [ep] at h; cases h
        | some more =>
          rw [ep] at h
          have h : some ((j, v) :: more) = some kvs := h
          cases h
          obtain ⟨ps, ws, e1, e2, e3⟩ := pairs_rep t ep
          cases r with
          | tup es rl =>
            cases rl with
            | cons r1 t1 =>
              cases t1 with
              | cons r2 t2 =>
                cases t2
                rename_i b v1 v2
                have ev : v1 = kV j := by
                  cases k with
                  | int i => cases ek; cases r1; rfl
                  | str i => cases ek; cases r1; rfl
                  | _ => exact nomatch ek
                subst ev
                exact ⟨b :: ps, (j, v2) :: ws, by rw [e1]; rfl, .cons es e2, .cons r2 e3⟩
    · cases h
theorem RepK.merge {K : PySem.W.Frag} {G : Hp} : ∀ {more : List (Key × D)} {ms : List (Key × V)} {kvs : List (Key × D)} {ws : List (Key × V)}, RepK K G more ms → RepK K G kvs ws → RepK K G (mergeD kvs more) (mergeK ws ms)
  | _, _, _, _, .nil, h => h
  | _, _, _, _, .cons (k := k) r t, h => by
    have z := RepK.merge t (h.put (k := k) r)
    exact z
theorem paired_mono {α β : Type} {F F' : α → β → Prop} (h : ∀ a b, F a b → F' a b) : ∀ {l : List α} {m : List β}, Paired F l m → Paired F' l m
  | _, _, .nil => .nil
  | _, _, .cons r t => .cons (h _ _ r) (paired_mono h t)
end DL

end

section
set_option autoImplicit false
namespace DL
open PySem PySem.Spec L2

abbrev AlM : Type := He.AlD × Bool
def tys : List String := ["int", "bool", "list", "tuple", "str", "dict"]
def tysN : List String := ["NoneType", "bool", "int", "str", "list", "tuple", "dict"]
def chkTy (CS : List Str) (sub : Str → Str → Bool) (K : PySem.W.Frag) : Bool := CS.all fun c =>
  (He.Fa.cls c).ok K && (He.eqO (PySem.W.findIn K (.ref (ca K c)) "__class__") (some (some (.builtin "object.__class__"))) && (decide (PySem.W.specialIn K (.builtin "object.__class__") "__get__" = some (some (.builtin "getset_descriptor.__get__"))) &&
  (decide (PySem.W.takesIn K (.builtin "object.__class__") = some true) && (decide (PySem.W.mroIn K (ca K c) (.type "object") = some true) &&
  ((tys.all fun T => decide (PySem.W.kitOne K (.ref (ca K c)) (.type T) = some false)) && ((tysN.all fun T => decide (PySem.W.kitOne K (.type T) (.ref (ca K c)) = some false)) && (CS.all fun c' => decide (PySem.W.kitOne K (.ref (ca K c)) (.ref (ca K c')) = some (sub c c')))))))))
def isaB (n : String) : Ty → Bool
  | .b m => m == n || (n == "int" && m == "bool")
  | .own _ => false
def isaO (sub : Str → Str → Bool) (c : Str) : Ty → Bool
  | .b _ => false
  | .own c' => sub c' c
section
variable {K : PySem.W.Frag} {CS : List Str} {sub : Str → Str → Bool}
theorem chk_at (h : chkTy CS sub K = true) {c : Str} (hc : c ∈ CS) : TyF K c ∧ (∀ T ∈ tys, PySem.W.kitOne K (.ref (ca K c)) (.type T) = some false) ∧ (∀ T ∈ tysN, PySem.W.kitOne K (.type T) (.ref (ca K c)) = some false) ∧ ∀ c' ∈ CS, PySem.W.kitOne K (.ref (ca K c)) (.ref (ca K c')) = some (sub c c') := by
  have z := List.all_eq_true.mp h c hc
  obtain ⟨h1, z⟩ := He.ba z
  obtain ⟨h2, z⟩ := He.ba z
  obtain ⟨h3, z⟩ := He.ba z
  obtain ⟨h4, z⟩ := He.ba z
  obtain ⟨h5, z⟩ := He.ba z
  obtain ⟨h6, z⟩ := He.ba z
  obtain ⟨h7, h8⟩ := He.ba z
  exact ⟨⟨He.cls_ok h1, He.eqO_ok h2, of_decide_eq_true h3, of_decide_eq_true h4, of_decide_eq_true h5⟩, fun T hT => of_decide_eq_true (List.all_eq_true.mp h6 T hT), fun T hT => of_decide_eq_true (List.all_eq_true.mp h7 T hT), fun c' hc' => of_decide_eq_true (List.all_eq_true.mp h8 c' hc')⟩
theorem chk_tyf (h : chkTy CS sub K = true) : ∀ c ∈ CS, TyF K c := fun _ hc => (chk_at h hc).1
theorem tyD_mem {d : D} {m : String} (h : tyD d = some (.b m)) : m ∈ tysN := by
  cases d <;> first | (cases h; decide) | (exact nomatch h)
theorem kit_bb (n : String) (hn : n ∈ tys) : ∀ m ∈ tysN, kitB m n = some (isaB n (.b m)) := by
  have e : ∀ n ∈ tys, ∀ m ∈ tysN, kitB m n = some (isaB n (.b m)) := by decide +kernel
  exact e n hn
theorem chk_kb (h : chkTy CS sub K = true) (n : String) (hn : n ∈ tys) : ∀ d t, tyD d = some t → (∀ c, t = .own c → c ∈ CS) → PySem.W.kitOne K (t.val K) (.type n) = some (isaB n t) := fun d t e hc => by
  cases t with
  | b m => exact kit_ty (kit_bb n hn m (tyD_mem e))
  | own c => exact (chk_at h (hc c rfl)).2.1 n hn
theorem chk_ko (h : chkTy CS sub K = true) {c : Str} (hc : c ∈ CS) : ∀ d t, tyD d = some t → (∀ c, t = .own c → c ∈ CS) → PySem.W.kitOne K (t.val K) (.ref (ca K c)) = some (isaO sub c t) := fun d t e hcs => by
  cases t with
  | b m => exact (chk_at h hc).2.2.1 m (tyD_mem e)
  | own c' => exact (chk_at h (hcs c' rfl)).2.2.2 c hc
theorem chk_kt (h : chkTy CS sub K = true) : ∀ (ns : List String), (∀ n ∈ ns, n ∈ tys) → ∀ d t, tyD d = some t → (∀ c, t = .own c → c ∈ CS) → PySem.W.kitAny K (t.val K) (ns.map Value.type) = some (ns.any fun n => isaB n t)
  | [], _, _, _, _, _ => kitAny_nil
  | n :: ns, hn, d, t, e, hc => by
    rw [List.map_cons, List.any_cons]
    refine kitAny_cons (chk_kb h n (hn n List.mem_cons_self) d t e hc) (fun q => ?_) (fun q => ?_)
    · rw [q, Bool.false_or]
      exact chk_kt h ns (fun m hm => hn m (List.mem_cons_of_mem _ hm)) d t e hc
    · rw [q, Bool.true_or]
end

def tupAt (K : PySem.W.Frag) (a : Addr) (vs : List He.Dv) : Bool := match K.lookup a with
  | some ⟨.type c, _, .seq its _, _⟩ => decide (c = "tuple") && (decide (its.size ≤ sizeLine) && He.relAll (vs.map (He.Dv.v K)) its.toList)
  | _ => false
theorem tupAt_ok {K : PySem.W.Frag} {a : Addr} {vs : List He.Dv} (h : tupAt K a vs = true) (H : Hp) : SqT K H a (vs.map (He.Dv.v K)) := by
  unfold tupAt at h
  cases q : K.lookup a with
  | none =>
    rw [q] at h
    cases h
  | some o =>
    obtain ⟨oc, od, dt, osl⟩ := o
    rw [q] at h
    cases oc with
    | type c =>
      cases dt with
      | seq its n =>
        obtain ⟨h1, h2⟩ := He.ba (show (decide (c = "tuple") && (decide (its.size ≤ sizeLine) && He.relAll (vs.map (He.Dv.v K)) its.toList)) = true from h)
        obtain ⟨h3, h4⟩ := He.ba h2
        exact .inr ⟨_, its, n, q, congrArg Value.type (of_decide_eq_true h1), rfl, of_decide_eq_true h3, He.relAll_ok h4⟩
      | _ => cases h
    | _ => cases dt <;> cases h
theorem rep_ints {K : PySem.W.Frag} {a : Addr} {ns : List Int} (h : tupAt K a (ns.map He.Dv.int) = true) (G : Hp) : Rep K G (.tup (ns.map D.int)) (.ref a) := by
  have z := tupAt_ok h G
  rw [List.map_map] at z
  exact .tup z (RepL.of_ints ns)
end DL

end

section
set_option autoImplicit false
namespace DL
open PySem PySem.Spec PySem.W
section
variable {prog : Program} {w : World} {A : Around} {E : Value → Shared → Prop} {s : Shared} {K : Frag} {x C f : Addr} {ox : Obj} {od : Option Obj}
def mro2 (K : Frag) (C : Addr) : Bool := (clsIn K C).any fun cd => decide (cd.mro = [.ref C, .type "object"])
theorem bin1_int {nm : String} {b : Value} {rr tk0 : Option Value} {Q : Option Value → Shared → Prop} (X : K.In s.heap) (I : InstAt s.heap x ox C od) (hb : Looks (model prog w) s.heap (typeOf b) (.type "int")) (hc : mro2 K C = true)
    (hs : findIn K (.ref C) (PySem.dunder nm) = some (some (.ref f))) (hf : isFn K (.ref f) = true) (hsub : subIn K (.type "int") (.ref C) = some false) (hR : findIn K (.ref C) (dunderR nm) = some rr) (hfi : fillsNumberSlot (.type "int") nm = pure true) (htk : typeLookup (.type "int") (dunderR nm) = pure tk0)
    (hrr : ∃ z, ∀ t, calledByName t (dunderR nm) rr = pure z)
    (h : wpAny (model prog w) A (call (.ref f) [.ref x, b]) (fun v s' => v ≠ .notImplemented ∧ Q (some v) s') E s) : wpAny (model prog w) A (binaryOp1 nm (.ref x) b) Q E s := by
  obtain ⟨cd, hcd, hm⟩ := any_some hc
  have hm := of_decide_eq_true hm
  obtain ⟨z, hz⟩ := hrr
  unfold binaryOp1
  refine wpAny_bind (I.type.here (wpAny_bind (hb.here (wpAny_bind ((fills_K X hcd hm hs).here ?_)))))
  rw [if_neg (by simp)]
  rw [hfi]
  refine wpAny_bind (wpAny_pure ?_)
  simp only [Bool.and_self, if_true, ite_true]
  refine wpAny_bind ((looks_subIn X hsub).here ?_)
  simp only [Bool.false_eq_true, if_false, Bool.not_false, Bool.and_self, if_true]
  have hnp : Looks (model prog w) s.heap (numberSlotInPython (.ref C) nm) true := by
    unfold numberSlotInPython
    refine (looks_findIn X hs).andThen ?_
    refine Looks.andThen (a := true) .now ?_
    refine (looks_findIn X hR).andThen ?_
    rw [hz]
    refine Looks.andThen (a := z) .now ?_
    rw [Bool.true_or, if_pos rfl]
    exact .now
  refine wpAny_bind (hnp.here ?_)
  simp only [if_true]
  refine wpAny_bind (m := numberSlotInPython (.type "int") nm) (wpAny_pure ?_)
  simp only [Bool.not_false, if_true]
  rw [htk]
  refine wpAny_bind (wpAny_pure ?_)
  refine wpAny_bind (m := tryMethod (.ref x) _ b) ?_
  unfold tryMethod
  refine wpAny_bind (special_fn X I hs (beq_iff_eq.mp hf) (wpAny_mono h (fun v s' hv => ?_) fun _ _ e => e))
  obtain ⟨hv, hq⟩ := hv
  cases v <;> first | exact (hv rfl).elim | exact wpAny_pure (wpAny_pure hq)

theorem bin1_same {nm : String} {b : Value} {Q : Option Value → Shared → Prop} (X : K.In s.heap) (I : InstAt s.heap x ox C od) (hb : Looks (model prog w) s.heap (typeOf b) (.ref C)) (hc : mro2 K C = true)
    (hs : findIn K (.ref C) (PySem.dunder nm) = some (some (.ref f))) (hf : isFn K (.ref f) = true)
    (h : wpAny (model prog w) A (call (.ref f) [.ref x, b]) (fun v s' => v ≠ .notImplemented ∧ Q (some v) s') E s) : wpAny (model prog w) A (binaryOp1 nm (.ref x) b) Q E s := by
  obtain ⟨cd, hcd, hm⟩ := any_some hc
  have hm := of_decide_eq_true hm
  unfold binaryOp1
  refine wpAny_bind (I.type.here (wpAny_bind (hb.here (wpAny_bind ((fills_K X hcd hm hs).here ?_)))))
  simp only [beq_self_eq_true, if_true]
  refine wpAny_bind (wpAny_pure ?_)
  simp only [Bool.and_false, Bool.false_eq_true, if_false, Bool.false_and]
  refine wpAny_bind (wpAny_pure ?_)
  simp only [Bool.false_eq_true, if_false]
  refine wpAny_bind (m := tryMethod (.ref x) _ b) ?_
  unfold tryMethod
  refine wpAny_bind (special_fn X I hs (beq_iff_eq.mp hf) (wpAny_mono h (fun v s' hv => ?_) fun _ _ e => e))
  obtain ⟨hv, hq⟩ := hv
  cases v <;> first | exact (hv rfl).elim | exact wpAny_pure (wpAny_pure hq)
theorem binop_of1 {op : Operator} {a b : Value} {Q : Value → Shared → Prop} (h : wpAny (model prog w) A (binaryOp1 op.info.2 a b) (fun r s' => ∃ v, r = some v ∧ Q v s') E s) : wpAny (model prog w) A (binaryOp op a b) Q E s := by
  unfold binaryOp
  refine wpAny_holding (wpAny_bind (wpAny_mono h (fun r s' hr => ?_) fun _ _ e => e))
  obtain ⟨v, rfl, hq⟩ := hr
  exact wpAny_pure hq
end

section
open L2
def opB (c : Str) (op : Operator) (K : Frag) : Bool := mro2 K (ca K c) && (decide (subIn K (.type "int") (.ref (ca K c)) = some false) && ((match findIn K (.ref (ca K c)) (dunderR op.info.2) with
  | some none => true
  | some (some (.ref _)) => true
  | _ => false) && decide (findIn K (.ref (ca K c)) (dunderI op.info.2) = some none)))
structure OpK (K : Frag) (c : Str) (op : Operator) : Prop where
  mro : mro2 K (ca K c) = true
  si : subIn K (.type "int") (.ref (ca K c)) = some false
  rr : ∃ rr, findIn K (.ref (ca K c)) (dunderR op.info.2) = some rr ∧ ∃ z, ∀ t, calledByName t (dunderR op.info.2) rr = pure z
  ini : findIn K (.ref (ca K c)) (dunderI op.info.2) = some none
theorem opB_ok {K : Frag} {c : Str} {op : Operator} (h : opB c op K = true) : OpK K c op := by
  obtain ⟨h1, h⟩ := He.ba h
  obtain ⟨h2, h⟩ := He.ba h
  obtain ⟨h3, h4⟩ := He.ba h
  refine ⟨h1, of_decide_eq_true h2, ?_, of_decide_eq_true h4⟩
  cases e : findIn K (.ref (ca K c)) (dunderR op.info.2) with
  | none => rw [e] at h3; cases h3
  | some r =>
    rw [e] at h3
    cases r with
    | none => exact ⟨none, rfl, false, fun _ => rfl⟩
    | some v =>
      cases v with
      | ref g => exact ⟨_, rfl, true, fun _ => rfl⟩
      | _ => cases h3
structure OpI (op : Operator) : Prop where
  fi : fillsNumberSlot (.type "int") op.info.2 = pure true
  tk : ∃ tk0, typeLookup (.type "int") (dunderR op.info.2) = pure tk0
  ob : typeLookup (.type "object") (dunderI op.info.2) = pure none
theorem opI_add : OpI .Add := ⟨by kernel_rfl, ⟨some (.builtin "int.__radd__"), by kernel_rfl⟩, by kernel_rfl⟩
variable {X : Cx} {CX : CXT} {k : Nat} {f C : Addr} {fd : FuncData} {ps : List Str} {sp : Sp} {E : L2.St → XK} {a b : Expr} {ta tb : TE} {pos : Pos} {op : Operator} {c m : Str}
theorem EP.notNI {X : Cx} {pins : List (Addr × Obj)} {σ : L2.St} {Q : VK} {u : Value} {s' : Shared} (h : EP X pins σ Q u s') : u ≠ .notImplemented := by
  obtain ⟨v, H', _, r, _⟩ := h
  intro e
  subst e
  cases v <;> first | exact nomatch r | (obtain ⟨t, r⟩ := r; exact nomatch r)
def tBinO (C : Addr) (sp : Sp) (E : L2.St → XK) (ta tb : TE) : TE := fun σ H Q => ta σ H fun x H1 => tb σ H1 fun y H2 => ∃ a dx fs, x = .ref a ∧ H2 a = some (.ins C dx fs) ∧ ((∃ i, y = .int i) ∨ ∃ b dy gs, y = .ref b ∧ H2 b = some (.ins C dy gs)) ∧ sp [x, y] H2 Q (E σ)
theorem bin1_run {pins : List (Addr × Obj)} {σ : L2.St} {H : Hp} {s : Shared} {Q : VK} {x y : V} {v u : Value} (O : OpK X.K c op) (OI : OpI op) (hm : Meth X.K (ca X.K c) m f) (hop : PySem.dunder op.info.2 = m) (F : FnOk X.prog X.w X.K X.mg X.base CX k f fd ps sp) (hr : Room k X.A) (hb : Binds X.K fd ps []) (hx : PassesAt CX X σ (E σ))
    (I : Inv X pins σ H s) (rx : RelV x v) (ry : RelV y u) {p dx : Addr} {fs : List (Str × V)} (ex : x = .ref p) (ea : H p = some (.ins (ca X.K c) dx fs)) (hy : (∃ i, y = .int i) ∨ ∃ b dy gs, y = .ref b ∧ H b = some (.ins (ca X.K c) dy gs)) (hsp : sp [x, y] H Q (E σ)) :
    wpAny (model X.prog X.w) X.A (binaryOp1 op.info.2 v u) (fun r s' => ∃ z, r = some z ∧ EP X pins σ Q z s') X.xe s ∧ ∃ (ox : Obj) (od : Option Obj), InstAt s.heap p ox (ca X.K c) od ∧ v = .ref p := by
  subst ex
  obtain rfl : v = Value.ref p := rx
  obtain ⟨mA, J, _⟩ := ins_get I.hok ea
  obtain ⟨od, J, _⟩ := J.look
  have call := run_fnSD (us := [.ref p, u]) (vs := [.ref p, y]) (dvs := []) (ds := []) (Q := Q) F hr hb .nil hx I (.cons rfl (.cons ry .nil)) hsp
  have call' := wpAny_mono call (Q' := fun v s' => v ≠ .notImplemented ∧ ∃ z, some v = some z ∧ EP X pins σ Q z s') (fun z s' h => ⟨EP.notNI h, z, rfl, h⟩) fun _ _ h => h
  refine ⟨?_, _, _, J, rfl⟩
  rcases hy with ⟨i, e⟩ | ⟨q, dy, gs, e, eb⟩
  · subst e
    obtain ⟨t, rfl⟩ := ry
    obtain ⟨rr, hR, hrr⟩ := O.rr
    obtain ⟨tk0, htk⟩ := OI.tk
    exact bin1_int I.kIn J (Looks.of_pure rfl) O.mro (by rw [hop]; exact hm.at_) hm.fn O.si hR OI.fi htk hrr call'
  · subst e
    obtain rfl : u = Value.ref q := ry
    obtain ⟨mB, J', _⟩ := ins_get I.hok eb
    obtain ⟨od', J', _⟩ := J'.look
    exact bin1_same I.kIn J J'.type O.mro (by rw [hop]; exact hm.at_) hm.fn call'
theorem pe_binO (O : OpK X.K c op) (OI : OpI op) (hm : Meth X.K (ca X.K c) m f) (hop : PySem.dunder op.info.2 = m) (F : FnOk X.prog X.w X.K X.mg X.base CX k f fd ps sp) (hr : Room k X.A) (hb : Binds X.K fd ps []) (hx : ∀ σ, PassesAt CX X σ (E σ)) (ha : PE X a ta) (hb' : PE X b tb) : PE X (.BinOp a op b pos) (tBinO (ca X.K c) sp E ta tb) := by
  refine ⟨fun pins s σ H Q I h => ?_⟩
  refine wpAny_BinOp (bin ha hb' I h fun v u s2 x y H2 I2 rx ry q => ?_)
  obtain ⟨p, dx, fs, ex, ea, hy, hsp⟩ := q
  exact binop_of1 (bin1_run O OI hm hop F hr hb (hx σ) I2 rx ry ex ea hy hsp).1
end
section
open L2
def rOk (c : Str) : D → Prop
  | .int _ => True
  | .obj c' _ => c' = c
  | _ => False
def dBinO (c : Str) (F : DF) (a b : DE) : DE := fun x ρ n q => a x ρ n fun u n1 => b x ρ n1 fun v n2 => (∃ fs, u = .obj c fs) ∧ rOk c v ∧ F x.w [u, v] n2 q x.ex
variable {X : Cx} {W : WX} {k : Nat} {F : DF} {c m n : Str} {a b : Expr} {δa δb : DE} {pos pos' : Pos} {op : Operator}
theorem rOk_at {K : Frag} {G H : Hp} {d : D} {v : V} (h : rOk c d) (le : Le G H) (r : Rep K G d v) : (∃ i, v = .int i) ∨ ∃ b dy gs, v = .ref b ∧ H b = some (.ins (ca K c) dy gs) := by
  cases d with
  | int i => cases r; exact .inl ⟨i, rfl⟩
  | obj c' fs =>
    cases r with
    | obj e _ =>
      have h : c' = c := h
      subst h
      exact .inr ⟨_, _, _, rfl, le.get e⟩
  | _ => exact h.elim
theorem pd_binO (O : OpK X.K c op) (OI : OpI op) (S : Mg X.prog X.w X.K X.mg X.base c m k 2 F []) (hr : Room k X.A) (tk : Takes X W) (ha : PD X W a δa) (hb : PD X W b δb) (hop : PySem.dunder op.info.2 = m := by decide +kernel) : PD X W (.BinOp a op b pos) (dBinO c F δa δb) := by
  obtain ⟨ta, pa, ea⟩ := ha
  obtain ⟨tb, pb, eb⟩ := hb
  obtain ⟨f, fd, ps, ds, dvs, hF, hm, hbd, hd, hdv⟩ := S.ex
  have ev : dvs = [] := by
    have z := hdv (fun _ => none)
    cases z
    rfl
  subst ev
  cases hd
  refine ⟨_, pe_binO O OI hm hop hF hr hbd (fun σ => passAt tk σ) pa pb, fun B σ H ρ n G α Q x q hK R hx h kk => ?_⟩
  refine ea B σ H ρ n G α _ x _ hK R hx h fun v1 H1 G1 d1 n1 s1 j1 r1 h1 => ?_
  have R1 := R.step s1 j1
  refine eb B σ H1 ρ n1 G1 α _ x _ hK R1 (hx.step s1) h1 fun v2 H2 G2 d2 n2 s2 j2 r2 h2 => ?_
  have R2 := R1.step s2 j2
  have hx2 := (hx.step s1).step s2
  obtain ⟨⟨fs, ed⟩, hok, h2⟩ := h2
  subst ed
  rw [hx.1] at h2
  have r1' := r1.mono s2.le
  cases r1' with
  | obj e rf =>
    refine ⟨_, _, _, rfl, s2.hh.get e, rOk_at hok s2.hh r2, B.W, n2, G2, [_, d2], q, x.ex, s2.hh, R2.rg, j2, .cons (.obj e rf) (.cons r2 .nil), rfl, h2, fun v H' G' d n' s j r hq => kk v H' G' d n' ((s1.trans s2).trans s) j r hq, fun cc dd H' G' e n' s j r hq => hx2.2 cc dd H' G' e n' s j (hK ▸ r) hq⟩
def dAugO (i : Nat) (c : Str) (F : DF) (b : DE) : DS := fun E ρ n => match ρ[i]? with
  | some (some (Sl.val u)) => b (E.xx ρ) ρ n fun v n2 => (∃ fs, u = .obj c fs) ∧ rOk c v ∧ F E.w [u, v] n2 (fun z n3 => E.nx (ρ.set i (some (.val z))) n3) fun e n3 => E.ex e ρ n3
  | _ => False
end
end DL

end

section
set_option autoImplicit false
namespace DL
open PySem PySem.Spec L2
def keyOf : Key → D
  | .inl i => .int i
  | .inr x => .str x
theorem keyOf_rep {K : PySem.W.Frag} {G : Hp} (k : Key) : Rep K G (keyOf k) (kV k) := by
  cases k with
  | inl i => exact .int i
  | inr x => exact .str x
section
variable {K : PySem.W.Frag} {G : Hp}
theorem RepK.getV : ∀ {kvs : List (Key × D)} {ws : List (Key × V)} {i : Nat} {k : Key} {v : V}, RepK K G kvs ws → ws[i]? = some (k, v) → ∃ d, kvs[i]? = some (k, d) ∧ Rep K G d v
  | _, _, _, _, _, .nil, e => by simp at e
  | _, _, 0, _, _, .cons r _, e => by
    simp at e
    obtain ⟨rfl, rfl⟩ := e
    exact ⟨_, rfl, r⟩
  | _, _, i + 1, k, v, .cons _ t, e => by
    obtain ⟨u, h1, h2⟩ := RepK.getV (i := i) (k := k) (v := v) t (by simpa using e)
    exact ⟨u, by simpa using h1, h2⟩
theorem walkD_keys {d : Addr} {o : Obj} {ws : List (Key × V)} {kvs : List (Key × D)} (e : G d = some (.frz o (.dK ws))) (r : RepK K G kvs ws) : WalkD K (Itk d o ws) G (kvs.map fun kv => keyOf kv.1) := by
  have hl := r.length
  refine ⟨fun i H G' hi l1 l2 => ⟨l2.get (l1.get e), by simpa [hl] using hi⟩, fun H G' l1 l2 => ⟨l2.get (l1.get e), by simp [hl]⟩, fun i H G' x H' hi l1 l2 y => ?_⟩
  obtain ⟨rfl, k, v, e1, rfl⟩ := y
  obtain ⟨dd, h1, h2⟩ := r.getV e1
  exact ⟨keyOf k, G', by rw [List.getElem?_map, h1]; rfl, .refl l2, keyOf_rep k⟩
def enumD (ds : List D) : List D := (List.range ds.length).map fun (i : Nat) => D.tup [.int (i : Int), ds.getD i .non]
def zipD (ds es : List D) : List D := (ds.zip es).map fun p => D.tup [p.1, p.2]
end
def iKy (δ : DE) : DI := fun x ρ n q => δ x ρ n fun d n1 => match d with
  | .dct kvs => q (kvs.map fun kv => keyOf kv.1) n1
  | _ => False
def iIt (δ : DE) : DI := fun x ρ n q => δ x ρ n fun d n1 => match d with
  | .dct kvs => q (kvs.map fun kv => D.tup [keyOf kv.1, kv.2]) n1
  | _ => False
def iEn (δ : DA) : DI := fun x ρ n q => δ x ρ n fun ds n1 => match ds with
  | [.lst es] => q (enumD es) n1
  | _ => False
def iZp (δ : DA) : DI := fun x ρ n q => δ x ρ n fun ds n1 => match ds with
  | [.lst a, .lst b] => q (zipD a b) n1
  | [.tup a, .tup b] => q (zipD a b) n1
  | _ => False
section
variable {X : Cx} {W : WX} {tg e a b c : Expr} {δ : DE} {α' : DA} {p pos tpos apos cpos : Pos} {elts : List Expr} {kk : Nat}
theorem pid_keys (h : PD X W e δ) : PID X W tg e (iKy δ) := by
  obtain ⟨t, pe, h⟩ := h
  refine ⟨_, pi_keys pe, fun B σ H ρ n G α R x q hK RB hx hd k => ?_⟩
  refine h B σ H ρ n G α _ x _ hK RB hx hd fun v H1 G1 d n1 s1 j1 r1 h1 => ?_
  cases d with
  | dct kvs =>
    cases r1 with
    | dct e r => exact ⟨_, _, rfl, .inl ⟨_, s1.hh.get e, k _ H1 G1 _ n1 s1 j1 (walkD_keys e r) h1⟩⟩
  | _ => exact h1.elim
end

section
variable {X : Cx} {W : WX} {e : Expr} {te : TE} {p apos cpos pos : Pos} {δ : DE}
def itemsD (kvs : List (Key × D)) : List D := kvs.map fun kv => D.tup [keyOf kv.1, kv.2]
def dItems (δ : DE) : DE := fun x ρ n q => δ x ρ n fun d n1 => match d with
  | .dct kvs => q (.lst (itemsD kvs)) n1
  | _ => False
end

abbrev DKV := DX → Env → Nat → (List (Key × D) → Nat → Prop) → Prop
def kv0 : DKV := fun _ _ n q => q [] n
def kvC (a b : DE) (r : DKV) : DKV := fun x ρ n q => a x ρ n fun k n1 => b x ρ n1 fun d n2 => opt (keyD k) fun j => r x ρ n2 fun kvs n3 => q ((j, d) :: kvs) n3
def dDisp (r : DKV) : DE := fun x ρ n q => r x ρ n fun kvs n1 => kvs.length ≤ 15 ∧ q (.dct (mergeD [] kvs)) n1
section
variable {X : Cx} {W : WX} {pos : Pos} {k v : Expr} {ks : List (Option Expr)} {vs : List Expr} {a b : DE} {r : DKV}
end

def dExt (i : Nat) (δ : DE) : DS := fun E ρ n => match ρ[i]? with
  | some (some (.own (.lst ds))) => δ (E.xx ρ) ρ n fun d n1 => (match d with
    | .lst es => ds.length + es.length ≤ 16777216 ∧ E.nx (ρ.set i (some (.own (.lst (ds ++ es))))) n1
    | _ => False)
  | _ => False
section
variable {X : Cx} {W : WX} {e : Expr} {δ : DE} {pos pos' apos cpos : Pos} {x : Str}
end

abbrev DSl := DX → Env → Nat → (Sl → Nat → Prop) → Prop
def ES (K : PySem.W.Frag) (W : WX) (t : TE) (δ : DSl) : Prop :=
  ∀ (B : Bs) (σ : St) (H : Hp) (ρ : Env) (n : Nat) (G : Hp) (α : Nat → Addr) (Q : VK) (x : DX) (q : Sl → Nat → Prop), B.K = K → RelB B σ H ρ n G α → XL B W σ H G x → δ x ρ n q →
    (∀ v H' G' sl n', Step B.W H G H' G' → B.W.J n' H' → SlRep K B.W H G' H' sl v → q sl n' → Q v H') → t σ H Q
def PSl (X : Cx) (W : WX) (e : Expr) (δ : DSl) : Prop := ∃ t, PE X e t ∧ ES X.K W t δ
def slV (δ : DE) : DSl := fun x ρ n q => δ x ρ n fun d n1 => q (.val d) n1
def slO (δ : DE) : DSl := fun x ρ n q => δ x ρ n fun d n1 => q (.own d) n1
section
variable {X : Cx} {W : WX} {a b c e : Expr} {δ : DE} {δ1 δ2 δ3 : DSl} {pos : Pos} {x y z : Str}
theorem PD.sl (h : PD X W e δ) : PSl X W e (slV δ) := by
  obtain ⟨t, p, h⟩ := h
  exact ⟨t, p, fun B σ H ρ n G α Q x q hK R hx hd k => h B σ H ρ n G α Q x _ hK R hx hd fun v H' G' d n' s j r hq => k v H' G' (.val d) n' s j r hq⟩
theorem PF.sl (h : PF X W e δ) : PSl X W e (slO δ) := by
  obtain ⟨t, p, h⟩ := h
  exact ⟨t, p, fun B σ H ρ n G α Q x q hK R hx hd k => h B σ H ρ n G α Q x _ hK R hx hd fun v H' G' d n' s j np ng nr o hq => k _ H' G' (.own d) n' s j ⟨_, rfl, np, ng, nr, o⟩ hq⟩
theorem h0_of {B : Bs} {σ : St} {H : Hp} {ρ : Env} {n : Nat} {G : Hp} {α : Nat → Addr} (R : RelB B σ H ρ n G α) {a : Addr} (e : H a = none) (nr : ¬ B.W.rg a) : B.H0 a = none := by
  cases q : B.H0 a with
  | none => rfl
  | some u => have := R.st.fr a u q nr; rw [e] at this; cases this
theorem RelB.next {B : Bs} {σ : L2.St} {H H1 : Hp} {ρ : Env} {n n1 : Nat} {G G1 : Hp} {α : Nat → Addr} {u : Sl} {v : V} (R : RelB B σ H ρ n G α) (s : Step B.W H G H1 G1) (j : B.W.J n1 H1) (r : SlRep B.K B.W H G1 H1 u v) (i : Nat) (i0 : i ≠ 0) : ∃ α', RelB B (σ.set i (some v)) H1 (ρ.set i (some u)) n1 G1 α' := by
  have R' := R.step s j
  have fg : ∀ {a : Addr}, H a = none → ∀ (k : Nat) (r : D) (gs : List (Addr × D)), ρ[k]? = some (some (.gst r gs)) → ∀ g ∈ gs, g.1 ≠ a := fun {a} n0 k r gs e g hm z => by
    obtain ⟨o, q⟩ := (R.gh.at_ k r gs e g hm).2.2.2.there
    rw [z, n0] at q; cases q
  have fo : ∀ {a : Addr}, H a = none → ∀ (k : Nat) (d : D), ρ[k]? = some (some (.own d)) → α k ≠ a := fun {a} n0 k d e z => by
    obtain ⟨o, q⟩ := (R.own k d e).2.2.2.2.there
    rw [z, n0] at q; cases q
  cases u with
  | val d => exact ⟨α, R'.set i r⟩
  | own d =>
    obtain ⟨a, rfl, n0, g, nr, o⟩ := r
    exact ⟨_, R'.setOwn i i0 (a := a) (d := d) (fun j e _ hj => fo n0 j e hj) g (h0_of R n0 nr) nr o (fg n0)⟩
  | gst r' gs =>
    obtain ⟨hr, nd, hg⟩ := r
    exact ⟨α, R'.setGst i i0 hr nd (fun g hm => by obtain ⟨n0, g1, nr, o⟩ := hg g hm; exact ⟨g1, h0_of R n0 nr, nr, o⟩) (fun j d _ e g hm z => fo (hg g hm).1 j d e z.symm) fun j r' gs' _ e g hm g' hm' z => fg (hg g hm).1 j r' gs' e g' hm' z.symm⟩
def dPar2 (i j : Nat) (a b : DSl) : DS := fun E ρ n => a (E.xx ρ) ρ n fun u n1 => b (E.xx ρ) ρ n1 fun v n2 => E.nx ((ρ.set i (some u)).set j (some v)) n2
end

def dNeverE : DE := fun _ _ _ _ => False
theorem pd_never {X : Cx} {W : WX} {e : Expr} : PD X W e dNeverE := ⟨fun _ _ _ => False, ⟨fun _ _ _ _ _ _ h => h.elim⟩, fun _ _ _ _ _ _ _ _ _ _ _ _ _ h => h.elim⟩
end DL

end

section
set_option autoImplicit false
namespace DL
open PySem PySem.Spec L2
theorem takes0 {X : Cx} : Takes X W0 := fun _ _ ⟨_, _, _, _, _, _, _, _, _, _, _, _, _, _, _, _, w⟩ => w.elim
end DL

end

section
set_option autoImplicit false
namespace DL
open PySem PySem.Spec PyProof.Rows L2
def oexB (K : PySem.W.Frag) (C : Addr) : Bool := match K.lookup C with
  | some ⟨.type "type", _, .cls cd, sl⟩ => (match cd.mro, sl.toList with
    | .ref C' :: bm, [_, _, _, _, some (.builtin n), _] => C' == C && (n == "ValueError.__new__" && (!cd.hasDel && (cd.hasDict && PySem.HandSPX.refsVE bm)))
    | _, _ => false)
  | _ => false
theorem oexB_ok {K : PySem.W.Frag} {C : Addr} (q : oexB K C = true) : ∃ nm qn N bs bm sn sub ab col dd k0 k1 k2 k3 k5, K.lookup C = some (excClassObj nm qn C N bs bm true sn sub ab col dd k0 k1 k2 k3 k5 "ValueError.__new__") ∧ PySem.HandSPX.refsVE bm = true := by
  unfold oexB at q
  split at q
  · rename_i dd cd sl ho
    split at q
    · rename_i C' bm k0 k1 k2 k3 n k5 hm hs
      simp only [Bool.and_eq_true, beq_iff_eq, Bool.not_eq_true'] at q
      obtain ⟨rfl, rfl, hdel, hdc, hr⟩ := q
      obtain ⟨nm, bs, mro, ns, qn, hd, sn, sub, ab, col, del⟩ := cd
      dsimp only at hm hdel hdc
      subst hm hdel hdc
      have e : sl = #[k0, k1, k2, k3, some (.builtin "ValueError.__new__"), k5] := by
        obtain ⟨l⟩ := sl
        have hs' : l = _ := hs
        rw [hs']
      subst e
      exact ⟨nm, qn, ns, bs, bm, sn, sub, ab, col, dd, k0, k1, k2, k3, k5, ho, hr⟩
    · cases q
  · cases q
structure XC (K : PySem.W.Frag) (c : Str) : Prop where
  oex : OexC K (ca K c)
  ini : PySem.W.findIn K (.ref (ca K c)) "__init__" = some (some (.ref (He.ma K (ca K c) "__init__")))
  fn : PySem.W.typeIn K (.ref (He.ma K (ca K c) "__init__")) = some (.type "function")
def excB (c : Str) (K : PySem.W.Frag) : Bool := oexB K (ca K c) && (He.eqO (PySem.W.findIn K (.ref (ca K c)) "__setattr__") (some (some (.builtin "object.__setattr__"))) && (decide (PySem.W.subIn K (.ref (ca K c)) (.type "BaseException") = some true) &&
  (decide (PySem.W.typeIn K (.ref (ca K c)) = some (.type "type")) && (PySem.W.keepIn K (.ref (ca K c)) && (He.eqO (PySem.W.findIn K (.ref (ca K c)) "__init__") (some (some (.ref (He.ma K (ca K c) "__init__")))) && decide (PySem.W.typeIn K (.ref (He.ma K (ca K c) "__init__")) = some (.type "function")))))))
theorem excB_ok {K : PySem.W.Frag} {c : Str} (h : excB c K = true) : XC K c := by
  obtain ⟨h1, h⟩ := He.ba h
  obtain ⟨h2, h⟩ := He.ba h
  obtain ⟨h3, h⟩ := He.ba h
  obtain ⟨h4, h⟩ := He.ba h
  obtain ⟨h5, h⟩ := He.ba h
  obtain ⟨h6, h7⟩ := He.ba h
  exact ⟨⟨oexB_ok h1, He.eqO_ok h2, of_decide_eq_true h3, of_decide_eq_true h4, h5⟩, He.eqO_ok h6, of_decide_eq_true h7⟩
structure XBase (K : PySem.W.Frag) (b : Str) : Prop where
  rd : PySem.W.readsIn K (ca K b) (.type "type") = true
  fc : PySem.W.findCls K (.ref (ca K b)) (.type "type") "__init__" = some (.val (.builtin "ValueError.__init__"))
  ga : PySem.W.specialIn K (.ref (ca K b)) "__getattribute__" = some (some (.builtin "type.__getattribute__"))
def seB (b : Str) (K : PySem.W.Frag) : Bool := PySem.W.readsIn K (ca K b) (.type "type") && ((match PySem.W.findCls K (.ref (ca K b)) (.type "type") "__init__" with
  | some (.val (.builtin n)) => n == "ValueError.__init__"
  | _ => false) && He.eqO (PySem.W.specialIn K (.ref (ca K b)) "__getattribute__") (some (some (.builtin "type.__getattribute__"))))
theorem seB_ok {K : PySem.W.Frag} {b : Str} (h : seB b K = true) : XBase K b := by
  obtain ⟨h1, h⟩ := He.ba h
  obtain ⟨h2, h3⟩ := He.ba h
  refine ⟨h1, ?_, He.eqO_ok h3⟩
  split at h2
  · rename_i n e
    rw [e, beq_iff_eq.mp h2]
  · cases h2

section
variable {X : Cx} {e : Expr} {es : List Expr} {ta : TA} {p1 p2 pos : Pos} {b : Str}
theorem pe_seinit {pl : Sem Bool} (B : XBase X.K b) (hg : Gl X b) (hm : X.mg b = some (.ref (ca X.K b))) (ha : PA X (e :: es) ta) (hdb : (b == ("__debug__" : Str)) = false := by decide)
    (hc : eval (.Call (.Attribute (.Name b p1) "__init__" p2) (e :: es) [] pos) X.env = (do
      let ov ← eval (.Name b p1) X.env
      standAt p2.atName
      let (f, first) ← holding [ov] (getMethod ov "__init__" pl)
      callWith pos f first (backTo pos (starEach (e :: es) X.env)) (backToKw pos (keywordEach [] X.env))) := by rfl)
    (he : starEach (e :: es) X.env = (false, eval e X.env) :: starEach es X.env := by rfl) (hpl : (backTo pos (starEach es X.env)).any (·.1) = false := by rfl) :
    PE X (.Call (.Attribute (.Name b p1) "__init__" p2) (e :: es) [] pos) (tVeI X.K ta) := by
  refine ⟨fun pins s σ H Q I h => ?_⟩
  refine PySem.W.methodCall_KW (ld_glob I hg hm ?_ hdb) hc
  refine PySem.W.method_cls I.kIn B.ga (PySem.W.cls_value I.kIn B.rd B.fc (by decide +kernel) ?_)
  show wpAny _ _ (callWith pos (Value.builtin "ValueError.__init__") [] (backTo pos (starEach (e :: es) X.env)) []) _ _ _
  refine PyProof.Rows.callWith_method1 (thn (ha.run pos pins _ σ H _ (I.tok _) h) fun us s1 q => ?_) he hpl
  obtain ⟨vs, H1, I1, r1, a, C, ws, ev, hl, T, ea, q⟩ := q
  subst ev
  cases r1 with
  | @cons _ u0 _ ur ra rt =>
    obtain rfl : u0 = Value.ref a := ra
    exact oinit_ok T I1 ea (by rw [← Paired.length rt, sizeLine_eq]; omega) fun s' J => ⟨.non, H1, J, rfl, q⟩
end

def spXF (K : PySem.W.Frag) (c f : Str) : Sp := fun vs H Q _ => ∃ (a : Addr) (v : V), vs = [.ref a, v] ∧ H a = some (exo a (ca K c) none) ∧ ∀ dx, H dx = none → dx ≠ a → Q .non (upd (upd H dx (exd dx [(f, v)])) a (exo a (ca K c) (some dx)))
def spX0 (K : PySem.W.Frag) (c : Str) : Sp := fun vs H Q _ => ∃ a : Addr, vs = [.ref a] ∧ H a = some (exo a (ca K c) none) ∧ Q .non H
structure Xg (P : Program) (w : World) (K : PySem.W.Frag) (mg : Str → Option Value) (base : Heap) (c : Str) (sp : Sp) (m : Nat) : Prop where
  xc : XC K c
  gl : mg c = some (.ref (ca K c))
  ex : ∃ (fd : FuncData) (ps : List Str), ps.length = m ∧ FnOk P w K mg base (L2.CX P w) 1 (He.ma K (ca K c) "__init__") fd ps sp ∧ Binds K fd ps []
theorem passes0 {X : Cx} : Passes (L2.CX X.prog X.w) X (fun _ _ _ => False) := fun _ _ _ _ _ _ _ ⟨_, _, _, _, _, _, _, _, _, _, _, _, z⟩ => z.elim

def dRaise (c f : Str) (a : DA) : DS := fun E ρ n => a (E.xx ρ) ρ n fun ds n1 => match ds with
  | [d] => E.ex (c, [(f, d)]) ρ n1
  | _ => False
section
variable {X : Cx} {W : WX} {c f : Str} {e : Expr} {α' : DA} {p pos pos' : Pos}
theorem ps_raiseD (S : Xg X.prog X.w X.K X.mg X.base c (spXF X.K c f) 2) (hr : Room 2 X.A) (hc : X.calm = true) (tk : Takes X W) (hg : Gl X c) (ha : PAD X W [e] α') (hdb : (c == ("__debug__" : Str)) = false := by decide)
    (he : starEach [e] X.env = (false, eval e X.env) :: starEach [] X.env := by rfl) (hpl : (backTo pos (starEach [] X.env)).any (·.1) = false := by rfl) : PSD X W (.Raise (some (.Call (.Name c p) [e] [] pos)) none pos') (dRaise c f α') := by
  obtain ⟨t, pa, ea⟩ := ha
  obtain ⟨fd, ps, hl, hF, hb⟩ := S.ex
  refine ⟨_, ps_raise hc tk (pmk_oex S.xc.oex S.xc.ini S.xc.fn hF hr hb .nil passes0 hg S.gl pa hdb he hpl), fun B σ H ρ n G α D E hK R L hd => ?_⟩
  refine ea B σ H ρ n G α _ _ _ hK R (L.xl R) hd fun vs H1 G1 ds n1 s1 j1 r1 h1 => ?_
  have R1 := R.step s1 j1
  split at h1
  · cases r1 with
    | @cons d v _ _ r r' =>
      cases r'
      refine ⟨by show 1 ≤ 1000; decide, fun a na => ⟨a, v, rfl, upd_same, fun dx nd ne => ⟨rfl, dx, [(f, v)], upd_same, ?_, ?_, ?_⟩⟩⟩
      · rw [upd_ne ne, upd_same]
      · rw [upd_ne ne] at nd; exact nd
      · rw [upd_ne ne] at nd
        have e3 : upd (del (upd (upd (upd H1 a (exo a (ca X.K c) none)) dx (exd dx [(f, v)])) a (exo a (ca X.K c) (some dx))) a) dx (.xd [(f, v)]) = upd H1 dx (.xd [(f, v)]) := by
          funext b
          by_cases h1 : b = dx
          · rw [h1, upd_same, upd_same]
          · rw [upd_ne h1, upd_ne h1]
            by_cases h2 : b = a
            · rw [h2, del_same, na]
            · rw [del_ne h2, upd_ne h2, upd_ne h1, upd_ne h2]
        rw [e3]
        have nrg : ¬ B.W.rg dx := fun z => B.W.there n1 H1 dx R1.J z nd
        have n0 : B.H0 dx = none := by
          cases qq : B.H0 dx with
          | none => rfl
          | some o =>
            have := R1.st.fr dx o qq nrg
            rw [nd] at this; cases this
        have s2 := StepP.laid (o := .xd [(f, v)]) R1.le nd
        exact L.ex _ (some dx) σ _ ρ n1 G1 α (c, [(f, _)]) (R1.step (s2.step j1) (s2.J j1)) ⟨by rw [hK], ⟨n0, nrg⟩, _, upd_same, .cons (hK ▸ r) .nil⟩ h1
  · exact h1.elim
end

section
variable {X : Cx}
theorem mk_endN {pins : List (Addr × Obj)} {σ : L2.St} {H1 H2 : Hp} {Q : XK} {hp hp2 h2 : Heap} {g1 g2 : Array GenState} {d1 d2 : Drawn} {t1 t2 : Nat} {os1 os2 : OsState} {a C : Addr} (T : Raises X (.ref C)) (I1 : Inv X pins σ H1 ⟨hp, g1, d1, t1, os1⟩)
    (ha : hp.objs.size ≤ a) (k : ∀ b o, hp.get? b = some o → hp2.get? b = some o) (un : Un (frs X.stack) [] (upd H1 a (exo a C none)) H2 hp2 h2) (hok : HOk X.prog X.w H2 h2) (ho : os2 = os1) (hb : AllBare g2)
    (ea : H2 a = some (exo a C none)) (q : Q (.ref C) none (del H2 a)) : MkP X pins σ Q (.ref a) ⟨h2, g2, d2, t2, os2⟩ := by
  obtain ⟨t0, hoe⟩ := exo_at hok ea
  have hn : H1 a = none := I1.hok.fresh ha
  obtain ⟨G, g1', g2'⟩ := restrict h2 fun b => decide (b ≠ a)
  have gk : ∀ b, b ≠ a → G.get? b = h2.get? b := fun b hb => g1' b (decide_eq_true hb)
  have ge : G.get? a = none := g2' a (by simp)
  have nha : ∀ {b : Addr} {o : Obj}, hp.get? b = some o → b ≠ a := fun {b o} z => Nat.ne_of_lt (Nat.lt_of_lt_of_le (Heap.lt_size z) ha)
  have up : ∀ {b : Addr}, b ≠ a → H1 b = none → upd H1 a (exo a C none) b = none := fun {b} hb n => by rw [upd_ne hb]; exact n
  have U : Un (frs X.stack) [] H1 (del H2 a) hp G := {
    keep := fun b o z n hf hx => by rw [gk b (nha z)]; exact un.keep b o (k b o z) (up (nha z) n) hf hx
    slot := fun b o z n hf hx => by rw [gk b (nha z)]; exact un.slot b o (k b o z) (up (nha z) n) hf hx
    free := fun b o z n hx => by rw [del_ne (nha z)]; exact un.free b o (k b o z) (up (nha z) n) hx
    there := fun b o z hx => by rw [gk b (nha z)]; exact un.there b o (k b o z) hx
    tups := fun b xs z => by rw [del_ne (ne_of_none z hn)]; exact un.tups b xs (by rw [upd_ne (ne_of_none z hn)]; exact z)
    frzs := fun b o v z => by rw [del_ne (ne_of_none z hn)]; exact un.frzs b o v (by rw [upd_ne (ne_of_none z hn)]; exact z)
    tbls := fun b ps z => by rw [del_ne (ne_of_none z hn)]; exact un.tbls b ps (by rw [upd_ne (ne_of_none z hn)]; exact z) }
  have hok3 : HOk X.prog X.w (del H2 a) G := fun b o z => by
    have hba : b ≠ a := fun e => by rw [e, del_same] at z; cases z
    rw [del_ne hba] at z
    have noa : ∀ {c : Addr}, H2 c = some (.own b) → c ≠ a := fun {c} hc => at_ne ea hc exo_own
    refine (hok b o z).stay (fun c v hc y => ?_) (fun c hc => by rw [del_ne (noa hc)]; exact hc) (fun c xs hc => by rw [del_ne (at_ne ea hc exo_tup)]; exact hc)
    have hca : c ≠ a := by
      rcases hc with hc | hc
      · rw [hc]; exact hba
      · exact noa hc
    rw [gk c hca]
    exact y
  have J : Inv X pins σ (del H2 a) ⟨G, g2, d2, t2, os2⟩ := I1.call' (ch := []) ho U hok3 hb (fun b z => absurd z (by simp))
  refine ⟨a, _, _, ⟨G, g2, d2, t2, os2⟩, _, .ref C, none, rfl, J, fun b o z => ?_, ge, hoe, ⟨rfl, rfl⟩, rfl, rfl, del_same, rfl, hb, T, q⟩
  by_cases hba : b = a
  · rw [hba, ge] at z; cases z
  · exact (gk b hba).symm.trans z
def tMkN (C : Addr) (sp : Sp) : L2.St → Hp → XK → Prop := fun _ H Q => ∀ a, H a = none → sp [.ref a] (upd H a (exo a C none)) (fun v H2 => v = .non ∧ H2 a = some (exo a C none) ∧ Q (.ref C) none (del H2 a)) (fun _ _ _ => False)
theorem pmk_oex0 {CX : CXT} {x : Str} {C fI : Addr} {k : Nat} {fd : FuncData} {ps : List Str} {sp : Sp} {p pos : Pos} (T : OexC X.K C) (iC : PySem.W.findIn X.K (.ref C) "__init__" = some (some (.ref fI))) (tI : PySem.W.typeIn X.K (.ref fI) = some (.type "function"))
    (F1 : FnOk X.prog X.w X.K X.mg X.base CX k fI fd ps sp) (hr : Room (k + 1) X.A) (hb : Binds X.K fd ps []) (hx : Passes CX X (fun _ _ _ => False)) (hg : Gl X x) (hm : X.mg x = some (.ref C))
    (hdb : (x == ("__debug__" : Str)) = false := by decide) : PMk X (.Call (.Name x p) [] [] pos) (tMkN C sp) := by
  intro pins s σ H Q I h
  obtain ⟨nm, q, N, bs, bm, sn, sub, ab, col, dd, k0, k1, k2, k3, k5, hC, hbm⟩ := T.cls
  refine wpAny_Call_Name_kw (ld_glob I hg hm ?_ hdb)
  refine PySem.W.callWith_K0 I.kIn T.kC ?_
  show wpAny _ _ (call (.ref C) []) _ _ _
  obtain ⟨hp, g, dr, tk, os⟩ := s
  have hsz : hp.objs.size ≤ hp.objs.size + 1 := Nat.le_succ _
  have hq := h (hp.objs.size + 1) (I.hok.fresh hsz)
  have kk : ∀ b o, hp.get? b = some o → ((hp.push (PySem.W.kdv_tup [])).push (PySem.HandSPX.excO C hp.objs.size)).get? b = some o := fun b o e => Heap.get?_push_of_some _ (Heap.get?_push_of_some _ e)
  have hget : ((hp.push (PySem.W.kdv_tup [])).push (PySem.HandSPX.excO C hp.objs.size)).get? (hp.objs.size + 1) = some (PySem.HandSPX.excO C hp.objs.size) := by heap_get
  have I2 : Inv X pins σ (upd H (hp.objs.size + 1) (exo (hp.objs.size + 1) C none)) ⟨(hp.push (PySem.W.kdv_tup [])).push (PySem.HandSPX.excO C hp.objs.size), g, dr, tk, os⟩ :=
    I.laid (t' := tk) (a := hp.objs.size + 1) (o := exo (hp.objs.size + 1) C none) (h' := (hp.push (PySem.W.kdv_tup [])).push (PySem.HandSPX.excO C hp.objs.size)) kk hsz (exo_ok hget)
  have r2 : Vals [V.ref (hp.objs.size + 1)] [Value.ref (hp.objs.size + 1)] := .cons rfl .nil
  have hl : ([Value.ref (hp.objs.size + 1)] ++ []).length = ps.length := by
    have e := F1.len _ _ _ _ hq
    exact e
  refine wpAny_call (PySem.HandSPX.call_own F.excBase_ValueError (fun Y => PySem.HandSPX.refsVE_contains Y bm hbm) (I.kIn _ _ hC) (PySem.W.looks_findIn I.kIn iC) (fun self => PySem.W.bind_fn I.kIn self tI) (Nat.zero_le _)
    (codeAny_mono (F1.run _ X.stack _ _ ⟨[Value.ref (hp.objs.size + 1)], []⟩ [Value.ref (hp.objs.size + 1)] _ _ (fun _ _ _ => False) (hr.make C [] []) (I2.env0.make C [] []) (hb _ [Value.ref (hp.objs.size + 1)] I2.kIn hl) r2 hq) fun r s' hq' => ?_))
  cases r with
  | error er => exact hx pins σ _ _ er s' I2 hq'
  | ok fl =>
    cases fl with
    | ret u =>
      obtain ⟨v, H2, os2, bare2, un2, hok2, rv, ev, ea, q2⟩ := hq'
      subst ev
      obtain ⟨h2, g2, d2, t2, os'⟩ := s'
      exact ⟨rv, mk_endN (raises_own T.exC T.tyC) I hsz kk un2 hok2 os2 bare2 ea q2⟩
    | next => exact False.elim hq'
    | brk => exact False.elim hq'
    | cont => exact False.elim hq'
def dRaise0 (c : Str) : DS := fun E ρ n => E.ex (c, []) ρ n
theorem ps_raise0 {W : WX} {c : Str} {p pos pos' : Pos} (S : Xg X.prog X.w X.K X.mg X.base c (spX0 X.K c) 1) (hr : Room 2 X.A) (hc : X.calm = true) (tk : Takes X W) (hg : Gl X c) (hdb : (c == ("__debug__" : Str)) = false := by decide) : PSD X W (.Raise (some (.Call (.Name c p) [] [] pos)) none pos') (dRaise0 c) := by
  obtain ⟨fd, ps, hl, hF, hb⟩ := S.ex
  refine ⟨_, ps_raise hc tk (pmk_oex0 S.xc.oex S.xc.ini S.xc.fn hF hr hb passes0 hg S.gl hdb), fun B σ H ρ n G α D E hK R L hd => ?_⟩
  intro a na
  refine ⟨a, rfl, upd_same, rfl, upd_same, ?_⟩
  have e3 : del (upd H a (exo a (ca X.K c) none)) a = H := by
    funext b
    by_cases h2 : b = a
    · rw [h2, del_same, na]
    · rw [del_ne h2, upd_ne h2]
  rw [e3]
  exact L.ex _ none σ H ρ n G α (c, []) R ⟨by rw [hK], rfl⟩ hd
end
end DL

end

section
set_option autoImplicit false
namespace DL
open PySem PySem.Spec L2
def sOf (K : PySem.W.Frag) (W : WX) (b : DS) : TS := fun D σ H => ∃ (B : Bs) (ρ : Env) (n : Nat) (G : Hp) (α : Nat → Addr) (E : DEnds), B.K = K ∧ RelB B σ H ρ n G α ∧ Lk B W D E ∧ b E ρ n
theorem PSsD.pss {X : Cx} {W : WX} {sts : List Stmt} {b : DS} (h : PSsD X W sts b) : PSs X sts (sOf X.K W b) := by
  obtain ⟨t, p, h⟩ := h
  refine ⟨fun pins s σ H D I hw => ?_⟩
  obtain ⟨B, ρ, n, G, α, E, hK, R, L, hb⟩ := hw
  exact p.run pins s σ H D I (h B σ H ρ n G α D E hK R L hb)
def xsB (XS : List Str) (sub : Str → Str → Bool) (K : PySem.W.Frag) : Bool := XS.all fun c => XS.all fun c' => decide (PySem.W.exmOne K (.ref (ca K c)) (.ref (ca K c')) = some (sub c c'))
theorem xsB_ok {XS : List Str} {sub : Str → Str → Bool} {K : PySem.W.Frag} (h : xsB XS sub K = true) : ∀ c ∈ XS, ∀ c' ∈ XS, PySem.W.exmOne K (.ref (ca K c)) (.ref (ca K c')) = some (sub c c') := fun c hc c' hc' =>
  of_decide_eq_true (List.all_eq_true.mp (List.all_eq_true.mp h c hc) c' hc')
def dTry (XS : List Str) (sub : Str → Str → Bool) (c : Str) (b s : DS) : DS := fun E ρ n => b { E with ex := fun e ρ' n' => e.1 ∈ XS ∧ if sub e.1 c = true then s { E with ex := fun _ _ _ => False } ρ' n' else E.ex e ρ' n' } ρ n
section
variable {X : Cx} {W : WX} {c : Str} {body suite : List Stmt} {b₀ : Stmt} {np pos pos' : Pos} {b s : DS} {XS : List Str} {sub : Str → Str → Bool}
end
end DL

end

section
set_option autoImplicit false
namespace DL
open PySem PySem.Spec L2
section
variable {X : Cx} {W : WX} {k : Nat} {f C : Addr} {fd : FuncData} {ps : List Str} {sp : Sp} {E : L2.St → XK} {a b : Expr} {ta tb : TE} {pos : Pos} {m c : Str}
end
def dEqO (CS : List Str) (c : Str) (F : DF) (a b : DE) : DE := fun x ρ n q => a x ρ n fun u n1 => b x ρ n1 fun v n2 => (∃ fs, u = .obj c fs) ∧ opt (tyD v) fun t => (∀ c', t = .own c' → c' ∈ CS) ∧ F x.w [u, v] n2 q x.ex
section
variable {X : Cx} {W : WX} {k : Nat} {F : DF} {c : Str} {a b : Expr} {δa δb : DE} {pos : Pos} {CS : List Str}
end
end DL
namespace DL
open PySem PySem.Spec L2
section
variable {X : Cx} {W : WX} {k : Nat} {f C : Addr} {fd : FuncData} {ps : List Str} {sp : Sp} {E : L2.St → XK} {e : Expr} {te : TE} {c : Str} {F : DF} {δ : DE}
def dTruO (c : Str) (F : DF) (δ : DE) : DT := fun x ρ n q => δ x ρ n fun u n1 => (∃ fs, u = .obj c fs) ∧ F x.w [u] n1 (fun d n2 => match d with
  | .bl b => q b n2
  | _ => False) x.ex
end
end DL
namespace DL
open PySem PySem.Spec L2
section
variable {X : Cx} {W : WX} {k : Nat} {f C : Addr} {fd : FuncData} {ps : List Str} {sp : Sp} {E : L2.St → XK} {a b : Expr} {ta tb : TE} {c : Str} {F : DF} {δa δb : DE} {pos : Pos}
def dGetO (c : Str) (F : DF) (a b : DE) : DE := fun x ρ n q => a x ρ n fun u n1 => b x ρ n1 fun v n2 => (∃ fs, u = .obj c fs) ∧ F x.w [u, v] n2 q x.ex
end
end DL
namespace DL
open PySem PySem.Spec L2
section
variable {X : Cx} {W : WX} {k : Nat} {f C : Addr} {fd : FuncData} {ps : List Str} {sp : Sp} {E : L2.St → XK} {a : Expr} {ta : TE} {c : Str} {F : DF} {δa : DE} {pos : Pos}
def dNegO (c : Str) (F : DF) (a : DE) : DE := fun x ρ n q => a x ρ n fun u n1 => (∃ fs, u = .obj c fs) ∧ F x.w [u] n1 q x.ex
end
end DL

end

section
set_option autoImplicit false
namespace DL
open PySem PySem.Spec L2
theorem Mg.get {P : Program} {w : World} {K : PySem.W.Frag} {mg : Str → Option Value} {base : Heap} {c x : Str} {k m : Nat} {F : DF} (S : Mg P w K mg base c x k m F []) : ∃ f fd ps, FnOk P w K mg base (L2.CX P w) k f fd ps (spW K m F) ∧ Meth K (ca K c) x f ∧ Binds K fd ps [] := by
  obtain ⟨f, fd, ps, ds, dvs, hF, hm, hbd, hd, hdv⟩ := S.ex
  have ev : dvs = [] := by
    have z := (hdv (fun _ => none)).length
    exact List.length_eq_zero_iff.mp z.symm
  subst ev
  cases hd
  exact ⟨f, fd, ps, hF, hm, hbd⟩
section
variable {prog : Program} {w : World} {A : Around} {E : Value → Shared → Prop} {s : Shared} {K : PySem.W.Frag} {x C f : Addr} {ox : Obj} {od : Option Obj} {b : Value}
open PySem.W
end
end DL
namespace DL
open PySem PySem.Spec L2
section
variable {X : Cx} {W : WX} {k : Nat} {f C : Addr} {fd : FuncData} {ps : List Str} {sp : Sp} {E : L2.St → XK} {a b : Expr} {ta tb : TE} {pos : Pos} {m c : Str}
end
def dNeO (CS : List Str) (c : Str) (F : DF) (a b : DE) : DE := fun x ρ n q => a x ρ n fun u n1 => b x ρ n1 fun v n2 => (∃ fs, u = .obj c fs) ∧ opt (tyD v) fun t => (∀ c', t = .own c' → c' ∈ CS) ∧ F x.w [u, v] n2 (bd fun k n3 => q (.bl (!k)) n3) x.ex
section
variable {X : Cx} {W : WX} {k : Nat} {F : DF} {c : Str} {a b : Expr} {δa δb : DE} {pos : Pos} {CS : List Str}
end

section
variable {X : Cx} {W : WX} {k : Nat} {f C : Addr} {fd : FuncData} {ps : List Str} {sp : Sp} {E : L2.St → XK} {e : Expr} {te : TE} {c : Str} {F : DF} {δ : DE} {pos p : Pos}
def dNotO (c : Str) (F : DF) (δ : DE) : DE := fun x ρ n q => δ x ρ n fun u n1 => (∃ fs, u = .obj c fs) ∧ F x.w [u] n1 (bd fun b n2 => q (.bl (!b)) n2) x.ex
end
end DL
namespace DL
open PySem PySem.Spec PySem.W
section
variable {prog : Program} {w : World} {A : Around} {E : Value → Shared → Prop} {s : Shared} {K : Frag} {x C f g dx : Addr} {od : Option Obj}
end
end DL
namespace DL
open PySem PySem.Spec L2
section
variable {X : Cx} {W : WX} {k : Nat} {f : Addr} {fd : FuncData} {ps : List Str} {sp : Sp} {E : L2.St → XK} {a b : Expr} {ta tb : TE} {c : Str} {F : DF} {δa δb : DE} {pos : Pos}
def dRmulO (c : Str) (F : DF) (a b : DE) : DE := fun x ρ n q => a x ρ n fun u n1 => b x ρ n1 fun v n2 => (∃ i, u = .int i) ∧ (∃ fs, v = .obj c fs) ∧ F x.w [v, u] n2 q x.ex
end
end DL

end

section
set_option autoImplicit false
namespace DL
open PySem PySem.Spec PySem.W PyProof.Rows L2
structure TSrc (prog : Program) (w : World) (A : Around) (I d : Addr) (wr : List Addr) (qs : List (V × V)) (St : Nat → Heap → Prop) : Prop where
  off : d ∉ wr
  frame : ∀ i h h', St i h → (∀ b o, b ≠ d → h.get? b = some o → h'.get? b = some o) → St i h'
  item : ∀ i (s : Shared) (Q : Option Value → Shared → Prop) (E : Value → Shared → Prop) (q : V × V), qs[i]? = some q → St i s.heap → d < s.heap.objs.size →
    (∀ k v h' tk, RelV q.1 k → RelV q.2 v → h'.get? s.heap.objs.size = some { cls := .type "tuple", data := .seq #[k, v] } → h'.objs.size = s.heap.objs.size + 1 → St (i + 1) h' → (∀ b o, b ∉ wr → s.heap.get? b = some o → h'.get? b = some o) → Q (some (.ref s.heap.objs.size)) { s with heap := h', toks := tk }) → wpAny (model prog w) A (pyNext (.ref I)) Q E s
  done : ∀ (s : Shared) (Q : Option Value → Shared → Prop) (E : Value → Shared → Prop), St qs.length s.heap →
    (∀ h' tk, (∀ b o, b ∉ wr → s.heap.get? b = some o → h'.get? b = some o) → Q none { s with heap := h', toks := tk }) → wpAny (model prog w) A (pyNext (.ref I)) Q E s
structure TOut (qs : List (V × V)) (lo : Addr) (h : Heap) (as : List Addr) : Prop where
  rise : as.Pairwise (· < ·)
  above : ∀ a ∈ as, lo ≤ a
  pairs : ∀ (j : Nat) (a : Addr), as[j]? = some a → ∃ q k v, qs[j]? = some q ∧ RelV q.1 k ∧ RelV q.2 v ∧ h.get? a = some { cls := .type "tuple", data := .seq #[k, v] }
theorem TOut.there {qs : List (V × V)} {lo : Addr} {h : Heap} {as : List Addr} (g : TOut qs lo h as) {a : Addr} (ha : a ∈ as) : a < h.objs.size := by
  obtain ⟨j, hj⟩ := List.mem_iff_getElem?.mp ha
  obtain ⟨_, _, _, _, _, _, e⟩ := g.pairs j a hj
  exact Heap.lt_size e
section
variable {prog : Program} {w : World} {A : Around} {s : Shared} {R : Result → Shared → Prop} {qs : List (V × V)} {S I lo : Addr} {wr : List Addr} {St : Nat → Heap → Prop}
end
structure TArg (prog : Program) (w : World) (A : Around) (T : String) (a : Addr) (fp wr : List Addr) (qs : List (V × V)) (OK : Heap → Prop) : Prop where
  type : ∀ s : Shared, OK s.heap → s.TypeIs (.ref a) T
  nl : (Value.type T == Value.type "list") = false
  nt : (Value.type T == Value.type "tuple") = false
  len : typeLookup (.type T) "__len__" = pure none
  hint : typeLookup (.type T) "__length_hint__" = pure none
  mem : a ∈ fp
  sub : ∀ b ∈ wr, b ∈ fp
  keep : ∀ h h', OK h → (∀ b o, b ∈ fp → h.get? b = some o → h'.get? b = some o) → OK h'
  there : ∀ h, OK h → ∀ b ∈ fp, ∃ o, h.get? b = some o
  iter : ∀ (s : Shared) (d : Addr) (Q : Value → Shared → Prop) (E : Value → Shared → Prop), OK s.heap → d < s.heap.objs.size → d ∉ fp →
    (∀ St, TSrc prog w A a d wr qs St → St 0 s.heap → Q (.ref a) s) → wpAny (model prog w) A (pyIter (.ref a)) Q E s
section
variable {prog : Program} {w : World} {A : Around} {E : Value → Shared → Prop} {s : Shared} {T : String} {a : Addr} {fp wr : List Addr} {qs : List (V × V)} {OK : Heap → Prop}
end
section
variable {prog : Program} {w : World} {A : Around}
def enQ (xs : List V) : List (V × V) := (List.range xs.length).map fun i => (V.int (i : Nat), xs.getD i .non)
theorem enQ_get {xs : List V} {i : Nat} {q : V × V} (h : (enQ xs)[i]? = some q) : i < xs.length ∧ q.1 = .int (i : Nat) ∧ xs[i]? = some q.2 := by
  unfold enQ at h
  rw [List.getElem?_map] at h
  by_cases hi : i < xs.length
  · rw [List.getElem?_range hi] at h
    cases h
    exact ⟨hi, rfl, by simp [List.getD, hi]⟩
  · rw [List.getElem?_eq_none (by simpa using hi)] at h
    cases h
theorem TArg.enumerate (hA : A.handled = none) (e it l : Addr) (hei : e ≠ it) (hle : l ≠ e) (hli : l ≠ it) (xs : List V) (its : List Value) (r : Vals xs its) :
    TArg prog w A "enumerate" e [e, it, l] [e, it] (enQ xs) (fun h => (∃ old, IsEnum h e it 0 old) ∧ h.IsListIter it l 0 ∧ h.IsList l its.toArray) where
  type := fun s ok => let ⟨⟨_, he⟩, _⟩ := ok; ⟨_, he, rfl⟩
  nl := by decide
  nt := by decide
  len := by rw [typeLookup_type, builtinLookup_eq_fast]; kernel_rfl
  hint := by rw [typeLookup_type, builtinLookup_eq_fast]; kernel_rfl
  mem := List.mem_cons_self ..
  sub := fun b hb => by simp at hb ⊢; rcases hb with rfl | rfl <;> simp
  keep := fun h h' ok hk => by
    obtain ⟨⟨old, he⟩, hit, hl⟩ := ok
    exact ⟨⟨old, hk _ _ (by simp) he⟩, hit.at fun o x => hk _ o (by simp) x, hl.at fun o x => hk _ o (by simp) x⟩
  there := fun h ok b hb => by
    obtain ⟨⟨old, he⟩, ⟨o1, h1, _⟩, ⟨o2, h2, _⟩⟩ := ok
    simp only [List.mem_cons, List.not_mem_nil, or_false] at hb
    rcases hb with rfl | rfl | rfl
    all_goals first | exact ⟨_, he⟩ | exact ⟨_, h1⟩ | exact ⟨_, h2⟩
  iter := fun s d Q E ok hd hdf h => by
    obtain ⟨⟨old, he⟩, hit, hl⟩ := ok
    simp only [List.mem_cons, List.not_mem_nil, or_false, not_or] at hdf
    obtain ⟨de, dit, dl⟩ := hdf
    refine wpAny_pyIter_enum he (h (fun i h => h.IsListIter it l i ∧ h.IsList l its.toArray ∧ ((∃ old, IsEnum h e it i old) ∨ ∃ old T f oT, IsEnumHeld h e it i old T f ∧ h.get? T = some oT ∧ T ≠ e ∧ T ≠ it ∧ T ≠ d)) ?_
      ⟨hit, hl, .inl ⟨old, he⟩⟩)
    exact {
      off := fun hm => by
        simp only [List.mem_cons, List.not_mem_nil, or_false] at hm
        rcases hm with x | x
        · exact de x
        · exact dit x
      frame := fun i h₁ h₂ st hk => by
        obtain ⟨hit, hl, he⟩ := st
        refine ⟨hit.at fun o x => hk _ o (Ne.symm dit) x, hl.at fun o x => hk _ o (Ne.symm dl) x, ?_⟩
        rcases he with ⟨old, he⟩ | ⟨old, T, f, oT, he, hT, r1, r2, r3⟩
        · exact .inl ⟨old, hk _ _ (Ne.symm de) he⟩
        · exact .inr ⟨old, T, f, oT, hk _ _ (Ne.symm de) he, hk _ _ r3 hT, r1, r2, r3⟩
      item := fun i s₁ Q₁ E₁ q hq st hds hQ => by
        obtain ⟨hit, hl, he⟩ := st
        obtain ⟨hi, eq1, eq2⟩ := enQ_get hq
        obtain ⟨u, hu, ru⟩ := r.get eq2
        have ex : its.toArray[i]? = some u := by simpa using hu
        have ec : ((i + 1 : Nat) : Int) = (i : Int) + 1 := by omega
        have nit : s₁.heap.objs.size ≠ it := let ⟨_, x, _⟩ := hit; Nat.ne_of_gt (Heap.lt_size x)
        rcases he with ⟨old, he⟩ | ⟨old, T, f, oT, he, hT, r1, r2, r3⟩
        · refine wpAny_pyNext_enum_item he hit hl ex hei fun h' ho hit' hT hsz hk => ?_
          exact hQ _ _ h' (s₁.toks + 1) (by rw [eq1]; exact ⟨_, rfl⟩) ru hT hsz
            ⟨hit', hl.at fun o x => hk l o hle hli x, .inr ⟨_, s₁.heap.objs.size, false, _, (by rw [ec]; exact ho), hT, Nat.ne_of_gt (Heap.lt_size he), nit, Nat.ne_of_gt hds⟩⟩
            fun b o hb x => hk b o (fun y => hb (by simp [y])) (fun y => hb (by simp [y])) x
        · refine wpAny_pyNext_enum_item_held he hT r1 r2 hit hl ex hei fun h' ho hit' hT' hsz hk => ?_
          exact hQ _ _ h' (s₁.toks + 1) (by rw [eq1]; exact ⟨_, rfl⟩) ru hT' hsz
            ⟨hit', hl.at fun o x => hk l o hle hli x, .inr ⟨old, T, true, oT, (by rw [ec]; exact ho), hk _ _ r1 r2 hT, r1, r2, r3⟩⟩
            fun b o hb x => hk b o (fun y => hb (by simp [y])) (fun y => hb (by simp [y])) x
      done := fun s₁ Q₁ E₁ st hQ => by
        obtain ⟨hit, hl, he⟩ := st
        have hx : its.toArray[(enQ xs).length]? = none := by
          have := r.length
          simp [enQ]; omega
        rcases he with ⟨old, he⟩ | ⟨old, T, f, oT, he, hT, r1, r2, r3⟩
        · exact wpAny_pyNext_enum_end hA he hit hl hx fun h' hk => hQ h' s₁.toks fun b o hb x => hk b o (fun y => hb (by simp [y])) x
        · exact wpAny_pyNext_enum_end_held hA he hit hl hx fun h' hk => hQ h' s₁.toks fun b o hb x => hk b o (fun y => hb (by simp [y])) x }
theorem TArg.zip (hA : A.handled = none) (z TI TO i1 i2 l1 l2 : Addr) (D : ZipApart z TI TO i1 i2 l1 l2) (vs us : List V) (xs ys : List Value) (r1 : Vals vs xs) (r2 : Vals us ys) :
    TArg prog w A "zip" z [z, TI, TO, i1, i2, l1, l2] [z, TO, i1, i2] (vs.zip us)
      (fun h => IsZip h z TI TO .none ∧ IsPair h TI (.ref i1) (.ref i2) ∧ (∃ a b, IsPair h TO a b) ∧ h.IsListIter i1 l1 0 ∧ h.IsListIter i2 l2 0 ∧ h.IsList l1 xs.toArray ∧ h.IsList l2 ys.toArray) where
  type := fun s ok => ⟨_, ok.1, rfl⟩
  nl := by decide
  nt := by decide
  len := by rw [typeLookup_type, builtinLookup_eq_fast]; kernel_rfl
  hint := by rw [typeLookup_type, builtinLookup_eq_fast]; kernel_rfl
  mem := List.mem_cons_self ..
  sub := fun b hb => by simp at hb ⊢; rcases hb with rfl | rfl | rfl | rfl <;> simp
  keep := fun h h' ok hk => by
    obtain ⟨hz, hTI, ⟨a, b, hTO⟩, h1, h2, hl1, hl2⟩ := ok
    exact ⟨hk _ _ (by simp) hz, hk _ _ (by simp) hTI, ⟨a, b, hk _ _ (by simp) hTO⟩, h1.at fun o e => hk _ o (by simp) e, h2.at fun o e => hk _ o (by simp) e, hl1.at fun o e => hk _ o (by simp) e, hl2.at fun o e => hk _ o (by simp) e⟩
  there := fun h ok b hb => by
    obtain ⟨hz, hTI, ⟨a, c, hTO⟩, ⟨o1, h1, _⟩, ⟨o2, h2, _⟩, ⟨o3, hl1, _⟩, ⟨o4, hl2, _⟩⟩ := ok
    simp only [List.mem_cons, List.not_mem_nil, or_false] at hb
    rcases hb with rfl | rfl | rfl | rfl | rfl | rfl | rfl
    all_goals first | exact ⟨_, hz⟩ | exact ⟨_, hTI⟩ | exact ⟨_, hTO⟩ | exact ⟨_, h1⟩ | exact ⟨_, h2⟩ | exact ⟨_, hl1⟩ | exact ⟨_, hl2⟩
  iter := fun s d Q E ok hd hdf h => by
    obtain ⟨hz, hTI, ⟨a, b, hTO⟩, h1, h2, hl1, hl2⟩ := ok
    simp only [List.mem_cons, List.not_mem_nil, or_false, not_or] at hdf
    obtain ⟨dz, dTI, dTO, di1, di2, dl1, dl2⟩ := hdf
    refine wpAny_pyIter_zip hz (h (fun i h => IsPair h TI (.ref i1) (.ref i2) ∧ h.IsListIter i1 l1 i ∧ h.IsListIter i2 l2 i ∧ h.IsList l1 xs.toArray ∧ h.IsList l2 ys.toArray ∧
      ((IsZip h z TI TO .none ∧ ∃ a b, IsPair h TO a b) ∨ ∃ T f oT, IsZipHeld h z TI TO T f ∧ h.get? T = some oT ∧ T ≠ z ∧ T ≠ i1 ∧ T ≠ i2 ∧ T ≠ d)) ?_
      ⟨hTI, h1, h2, hl1, hl2, .inl ⟨hz, a, b, hTO⟩⟩)
    exact {
      off := fun hm => by
        simp only [List.mem_cons, List.not_mem_nil, or_false] at hm
        rcases hm with e | e | e | e
        · exact dz e
        · exact dTO e
        · exact di1 e
        · exact di2 e
      frame := fun i h₁ h₂ st hk => by
        obtain ⟨hTI, h1, h2, hl1, hl2, hz⟩ := st
        refine ⟨hk _ _ (Ne.symm dTI) hTI, h1.at fun o e => hk _ o (Ne.symm di1) e, h2.at fun o e => hk _ o (Ne.symm di2) e, hl1.at fun o e => hk _ o (Ne.symm dl1) e, hl2.at fun o e => hk _ o (Ne.symm dl2) e, ?_⟩
        rcases hz with ⟨hz, a, b, hTO⟩ | ⟨T, f, oT, hz, hT, r1, r2, r3, r4⟩
        · exact .inl ⟨hk _ _ (Ne.symm dz) hz, a, b, hk _ _ (Ne.symm dTO) hTO⟩
        · exact .inr ⟨T, f, oT, hk _ _ (Ne.symm dz) hz, hk _ _ r4 hT, r1, r2, r3, r4⟩
      item := fun i s₁ Q₁ E₁ q hq st hds hQ => by
        obtain ⟨hTI, h1, h2, hl1, hl2, hz⟩ := st
        rw [List.getElem?_zip_eq_some] at hq
        obtain ⟨u, hu, ru⟩ := r1.get hq.1
        obtain ⟨v, hv, rv⟩ := r2.get hq.2
        have ex : xs.toArray[i]? = some u := by simpa using hu
        have ey : ys.toArray[i]? = some v := by simpa using hv
        have lt : ∀ {c o}, s₁.heap.get? c = some o → s₁.heap.objs.size ≠ c := fun e => Nat.ne_of_gt (Heap.lt_size e)
        have n1 : s₁.heap.objs.size ≠ i1 := let ⟨_, e, _⟩ := h1; lt e
        have n2 : s₁.heap.objs.size ≠ i2 := let ⟨_, e, _⟩ := h2; lt e
        rcases hz with ⟨hz, a, b, hTO⟩ | ⟨T, f, oT, hz, hT, t1, t2, t3, t4⟩
        · refine wpAny_pyNext_zip_item D hz hTI hTO h1 h2 hl1 hl2 ex ey fun h' a1 a2 a3 a4 a5 a6 hk => ?_
          exact hQ _ _ h' s₁.toks ru rv a5 a6
            ⟨hk _ _ D.TIz D.TITO D.TIi1 D.TIi2 hTI, a3, a4, hl1.at fun o e => hk _ o D.l1z D.l1TO D.l1i1 D.l1i2 e, hl2.at fun o e => hk _ o D.l2z D.l2TO D.l2i1 D.l2i2 e,
              .inr ⟨s₁.heap.objs.size, false, _, a1, a5, lt hz, n1, n2, Nat.ne_of_gt hds⟩⟩
            fun c o hc e => hk c o (fun x => hc (by simp [x])) (fun x => hc (by simp [x])) (fun x => hc (by simp [x])) (fun x => hc (by simp [x])) e
        · refine wpAny_pyNext_zip_item_held D hz hT hTI h1 h2 hl1 hl2 ex ey fun h' a1 a3 a4 a5 a6 hk => ?_
          exact hQ _ _ h' s₁.toks ru rv a5 a6
            ⟨hk _ _ D.TIz D.TIi1 D.TIi2 hTI, a3, a4, hl1.at fun o e => hk _ o D.l1z D.l1i1 D.l1i2 e, hl2.at fun o e => hk _ o D.l2z D.l2i1 D.l2i2 e,
              .inr ⟨T, true, oT, a1, hk _ _ t1 t2 t3 hT, t1, t2, t3, t4⟩⟩
            fun c o hc e => hk c o (fun x => hc (by simp [x])) (fun x => hc (by simp [x])) (fun x => hc (by simp [x])) e
      done := fun s₁ Q₁ E₁ st hQ => by
        obtain ⟨hTI, h1, h2, hl1, hl2, hz⟩ := st
        have l1 := r1.length
        have l2 := r2.length
        have hend : xs.toArray[(vs.zip us).length]? = none ∨ ys.toArray[(vs.zip us).length]? = none := by
          rw [List.length_zip]
          rcases Nat.le_total vs.length us.length with h | h
          · refine .inl ?_
            rw [Nat.min_eq_left h]
            simp; omega
          · refine .inr ?_
            rw [Nat.min_eq_right h]
            simp; omega
        rcases hz with ⟨hz, a, b, hTO⟩ | ⟨T, f, oT, hz, hT, t1, t2, t3, t4⟩
        · exact wpAny_pyNext_zip_end hA D hz hTI hTO h1 h2 hl1 hl2 hend fun h' hk => hQ h' s₁.toks fun c o hc e => hk c o (fun x => hc (by simp [x])) (fun x => hc (by simp [x])) (fun x => hc (by simp [x])) (fun x => hc (by simp [x])) e
        · exact wpAny_pyNext_zip_end_held hA D hz hT hTI h1 h2 hl1 hl2 hend fun h' hk => hQ h' s₁.toks fun c o hc e => hk c o (fun x => hc (by simp [x])) (fun x => hc (by simp [x])) (fun x => hc (by simp [x])) e }
end
section
variable {X : Cx} {e e2 : Expr} {ta : TA} {p p2 pos pos2 : Pos}
end
inductive RepPs (K : PySem.W.Frag) (G : Hp) : List (D × D) → List (V × V) → Prop where
  | nil : RepPs K G [] []
  | cons {d e : D} {v u : V} {ds : List (D × D)} {vs : List (V × V)} : Rep K G d v → Rep K G e u → RepPs K G ds vs → RepPs K G ((d, e) :: ds) ((v, u) :: vs)
theorem RepPs.mono {K : PySem.W.Frag} {G G' : Hp} (h : Le G G') : ∀ {ds : List (D × D)} {vs : List (V × V)}, RepPs K G ds vs → RepPs K G' ds vs
  | _, _, .nil => .nil
  | _, _, .cons r s t => .cons (r.mono h) (s.mono h) (RepPs.mono h t)
def dLEn (δ : DA) : DE := fun x ρ n q => δ x ρ n fun ds n1 => match ds with
  | [.lst es] => q (.lst (enumD es)) n1
  | _ => False
def dLZp (δ : DA) : DE := fun x ρ n q => δ x ρ n fun ds n1 => match ds with
  | [.lst es, .lst fs] => q (.lst (zipD es fs)) n1
  | _ => False
section
variable {X : Cx} {W : WX} {e e2 : Expr} {α' : DA} {p p2 pos pos2 : Pos}
end
end DL

end

section
set_option autoImplicit false
namespace DL
open PySem PySem.Spec PySem.W PyProof.Rows L2
section
variable {X : Cx} {W : WX} {e : Expr} {es : List Expr} {te : TE} {t : TA} {p : Pos} {δ : DE} {α' : DA}
def dStarD (a : DE) (r : DA) : DA := fun x ρ n q => a x ρ n fun d n1 => match d with
  | .dct kvs => r x ρ n1 fun ds n2 => q ((kvs.map fun kv => keyOf kv.1) ++ ds) n2
  | _ => False
end
section
variable {X : Cx} {W : WX} {a b c : Expr} {ta : TA} {p p2 pos pos2 : Pos} {α' : DA}
def dLR2 (δ : DA) : DE := fun x ρ n q => δ x ρ n fun ds n1 => match ds with
  | [.int i, .int j] => (-(2 ^ 62) ≤ i ∧ i < 2 ^ 62 ∧ -(2 ^ 62) ≤ j ∧ j < 2 ^ 62 ∧ (j - i).toNat ≤ 2 ^ 24) ∧ q (.lst (rngD i (j - i).toNat)) n1
  | _ => False
def dLR3 (δ : DA) : DE := fun x ρ n q => δ x ρ n fun ds n1 => match ds with
  | [.int i, .int j, .int c] => c = -1 ∧ (-(2 ^ 62) ≤ i ∧ i < 2 ^ 62 ∧ -(2 ^ 62) ≤ j ∧ j < 2 ^ 62 ∧ (i - j).toNat ≤ 2 ^ 24) ∧ q (.lst (rngC i (-1) (i - j).toNat)) n1
  | _ => False
end
end DL

end

section
set_option autoImplicit false
namespace DL
open PySem PySem.Spec PySem.W PyProof.Rows L2
set_option maxHeartbeats 1000000 in
theorem meets_enum1 {v : Value} {o : Obj} {H : Heap → Prop} (B : Begins v o H) :
    Meets (Builtin.«enumerate.__new__» ⟨[.type "enumerate", v], []⟩) (fun _ R s => H s.heap ∧
      R (.ok (.ret (.ref (s.heap.push o).objs.size))) { s with heap := (s.heap.push o).push { cls := .type "enumerate", data := .fields #[.none, .bool false, .ref s.heap.objs.size, rawInt 0, .none, .none] } }) :=
  .of_wp fun prog w A R s h => by
    obtain ⟨hp, g, d, tk, os⟩ := s; obtain ⟨h1, h⟩ := h
    have hsub := sub_enumerate
    have q1 : ∀ {A' : Around} {E : Value → Shared → Prop} {Q : Value → Shared → Prop}, Q (.ref hp.objs.size) ⟨hp.push o, g, d, tk, os⟩ → wpAny (model prog w) A' (pyIter v) Q E ⟨hp, g, d, tk, os⟩ :=
      fun q => B.iter prog w _ _ ⟨hp, g, d, tk, os⟩ _ h1 q
    wp_walk using q1
    refine wpAny_stack_any fun st => wpAny_pure ?_
    split
    · rename_i c _ _ _ _ _
      cases (c == Value.type "enumerate")
      · wp_walk using q1
        exact ⟨_, rfl, h⟩
      · wp_walk using q1
        exact ⟨_, rfl, h⟩
    · wp_walk using q1
      exact ⟨_, rfl, h⟩
section
variable {prog : Program} {w : World} {A : Around} {E : Value → Shared → Prop} {s : Shared}
theorem enum_begins1 {v : Value} {o : Obj} {H : Heap → Prop} {Q : Value → Shared → Prop} (B : Begins v o H) (h1 : H s.heap)
    (h : ∀ h', IsEnum h' (s.heap.objs.size + 1) s.heap.objs.size 0 .none → h'.get? s.heap.objs.size = some o → h'.objs.size = s.heap.objs.size + 2 →
      (∀ b o, s.heap.get? b = some o → h'.get? b = some o) → Q (.ref (s.heap.objs.size + 1)) { s with heap := h' }) :
    wpAny (model prog w) A (call (.type "enumerate") [v]) Q E s := by
  refine callType_new F.called_enumerate (by decide) (F.typeCall_enumerate_1 _) (F.newCall_enumerate_1 _) (fun obj => F.args_object_init_2 obj _) F.entry_enumerate_new
    (meets_enum1 B) ⟨h1, ?_⟩
  have hz : (s.heap.push o).objs.size = s.heap.objs.size + 1 := Heap.size_push ..
  show _ ∧ _
  rw [hz]
  have he : IsEnum ((s.heap.push o).push { cls := .type "enumerate", data := .fields #[.none, .bool false, .ref s.heap.objs.size, rawInt 0, .none, .none] }) (s.heap.objs.size + 1) s.heap.objs.size 0 .none := by
    have := Heap.get?_push_size (s.heap.push o) (o := { cls := .type "enumerate", data := .fields #[.none, .bool false, .ref s.heap.objs.size, rawInt 0, .none, .none] }) rfl
    rw [hz] at this; exact this
  refine ⟨⟨_, he, rfl⟩, h _ he (Heap.get?_push_of_some _ (Heap.get?_push_size _ B.free)) (by rw [Heap.size_push, hz]) fun b o x => Heap.get?_push_of_some _ (Heap.get?_push_of_some _ x)⟩
end
def SqK (t : Bool) (K : PySem.W.Frag) (H : Hp) (a : Addr) (xs : List V) : Prop := if t = true then SqT K H a xs else SqL K H a xs
def IsItK (t : Bool) (h : Heap) (it a : Addr) (i : Nat) : Prop := if t = true then h.IsTupleIter it a i else h.IsListIter it a i
def IsSqK (t : Bool) (h : Heap) (a : Addr) (its : Array Value) : Prop := if t = true then h.IsTuple a its else h.IsList a its
theorem SqK.inj {t : Bool} {X : Cx} {pins : List (Addr × Obj)} {σ : L2.St} {H : Hp} {s : Shared} (I : Inv X pins σ H s) {a : Addr} {xs ys : List V} (h : SqK t X.K H a xs) (h' : SqK t X.K H a ys) : xs = ys := by
  cases t with
  | true => exact I.tuple_inj h h'
  | false => exact I.list_inj h h'
theorem SqK.items {t : Bool} {X : Cx} {pins : List (Addr × Obj)} {σ : L2.St} {H : Hp} {s : Shared} (I : Inv X pins σ H s) {a : Addr} {xs : List V} (h : SqK t X.K H a xs) : ∃ its : List Value, Vals xs its ∧ IsSqK t s.heap a its.toArray ∧ xs.length ≤ sizeLine := by
  cases t with
  | true =>
    obtain ⟨its, r, e, z⟩ := I.tuple h
    exact ⟨its, r, e, z⟩
  | false =>
    obtain ⟨its, r, e, z⟩ := I.list h
    exact ⟨its, r, e.isList, z⟩
theorem IsItK.at {t : Bool} {h h' : Heap} {it a : Addr} {i : Nat} (x : IsItK t h it a i) (e : ∀ o, h.get? it = some o → h'.get? it = some o) : IsItK t h' it a i := by
  cases t with
  | true => obtain ⟨o, h1, h2, h3⟩ := (show h.IsTupleIter it a i from x); exact ⟨o, e o h1, h2, h3⟩
  | false => exact Heap.IsListIter.at (show h.IsListIter it a i from x) e
theorem IsItK.obj {t : Bool} {h : Heap} {it a : Addr} {i : Nat} (x : IsItK t h it a i) : ∃ o, h.get? it = some o ∧ ∀ v, o.data ≠ .prim v := by
  cases t with
  | true => obtain ⟨o, h1, h2, h3⟩ := (show h.IsTupleIter it a i from x); exact ⟨o, h1, fun v z => by rw [h3] at z; cases z⟩
  | false => obtain ⟨o, h1, h2, h3⟩ := (show h.IsListIter it a i from x); exact ⟨o, h1, fun v z => by rw [h3] at z; cases z⟩
theorem draws_K (t : Bool) {prog : Program} {w : World} {A : Around} (hh : A.handled = none) (it a : Addr) (hne : a ≠ it) (items : Array Value) : Draws prog w A it [it, a] items.size (fun i v => items[i]? = some v) (fun i h => IsItK t h it a i ∧ IsSqK t h a items) := by
  cases t with
  | true => exact Draws.tuple hh it a hne items
  | false => exact Draws.list hh it a hne items
theorem begins_K (t : Bool) (a : Addr) (items : Array Value) : ∃ o, Begins (.ref a) o (fun h => IsSqK t h a items) ∧ ∀ h it, h.get? it = some o → IsItK t h it a 0 := by
  cases t with
  | true => exact ⟨_, begins_tuple a items, fun h it e => ⟨_, e, rfl, rfl⟩⟩
  | false => exact ⟨_, begins_list a items, fun h it e => ⟨_, e, rfl, rfl⟩⟩
theorem IsItK.cell {t : Bool} {h : Heap} {it a : Addr} {i : Nat} (x : IsItK t h it a i) : ∃ o, h.get? it = some o ∧ ∀ v, o.data ≠ .cell v := by
  cases t with
  | true => obtain ⟨o, h1, h2, h3⟩ := (show h.IsTupleIter it a i from x); exact ⟨o, h1, fun v z => by rw [h3] at z; cases z⟩
  | false => obtain ⟨o, h1, h2, h3⟩ := (show h.IsListIter it a i from x); exact ⟨o, h1, fun v z => by rw [h3] at z; cases z⟩
theorem IsItK.lt {t : Bool} {h : Heap} {it a : Addr} {i : Nat} (x : IsItK t h it a i) : it < h.objs.size := by
  obtain ⟨o, e, _⟩ := x.obj
  exact Heap.lt_size e

def IteK (t : Bool) (K : PySem.W.Frag) (a : Addr) : It :=
  ⟨fun i H => ∃ (xs : List V) (x : V), SqK t K H a xs ∧ xs[i]? = some x, fun i H v H' => ∃ T x, v = .ref T ∧ H T = none ∧ H' = upd H T (.tup [.int (i : Nat), x]) ∧ ∀ xs, SqK t K H a xs → xs[i]? = some x, fun i H => ∃ xs : List V, SqK t K H a xs ∧ xs.length = i⟩
theorem enum_overD {prog : Program} {w : World} {A : Around} {E : Value → Shared → Prop} {s : Shared} {e it : Addr} {fp : List Addr} {n : Nat} {P : Nat → Value → Prop} {St : Nat → Heap → Prop} {old : Value} {i : Int} {Q : Option Value → Shared → Prop}
    (D : Draws prog w A.in1 it fp n P St) (he : IsEnum s.heap e it i old) (hst : St n s.heap) (hQ : ∀ h', Heap.ExtBut it s.heap h' → Q none { s with heap := h' }) : wpAny (model prog w) A (pyNext (.ref e)) Q E s := by
  have hT : s.TypeIs (.ref e) "enumerate" := ⟨_, he, rfl⟩
  unfold pyNext
  refine wpAny_bind (wpAny_attempt (wpAny_callSpecial?_slot (name := Str.ofString "__next__") hT F.slot_enumerate_next
    (wpAny_call_entry F.slot_enumerate_next hT F.entry_enumerate_next ?_ (F.args_enumerate_next_1 _))))
  show wpAny _ _ (field (.ref e) 2 >>= _) _ _ _
  refine wpAny_bind (wpAny_field he rfl (x := .ref it) rfl ?_)
  refine wpAny_bind (D.done _ _ _ hst fun h' x he' hx' => ?_)
  obtain ⟨o, ho, hc⟩ := hx'
  refine wpAny_bind (wpAny_isInstance (T := "StopIteration") (b := true) ⟨o, ho, hc⟩ isSubtype_stop ?_)
  exact wpAny_pure (hQ _ he')
theorem turn_enumK (t : Bool) {P : Program} {w : World} {K : PySem.W.Frag} {elts : List Expr} {kk : Nat} {tpos : Pos} (a e it : Addr) (hne : e ≠ it) (hai : a ≠ it) (hae : a ≠ e) :
    Turn P w K (.Tuple elts kk tpos) (IteK t K a) [e, it] e (fun i h => (∃ old, IsEnum h e it ((i : Nat) : Int) old) ∧ IsItK t h it a i) where
  mem := by simp
  obj := fun i h st b hb => by
    obtain ⟨⟨old, he⟩, hi⟩ := st
    have e' : b = e ∨ b = it := by simpa using hb
    rcases e' with z | z
    · rw [z]; exact ⟨_, he, fun v q => nomatch q⟩
    · rw [z]; exact hi.cell
  keep := fun i h h' st k => let ⟨⟨old, he⟩, hi⟩ := st; ⟨⟨old, k e (by simp) _ he⟩, hi.at fun o q => k it (by simp) o q⟩
  item := by
    intro X hP hw hK hc i pins s σ H E I hf st hg
    subst hP hw hK
    obtain ⟨⟨old, he⟩, hit⟩ := st
    obtain ⟨xs, x, hq, hx⟩ := hg
    obtain ⟨its, rv, p, hz⟩ := hq.items I
    obtain ⟨u, hu, ru⟩ := rv.get hx
    have hel : e < s.heap.objs.size := Heap.lt_size he
    have hil : it < s.heap.objs.size := hit.lt
    have hlt : i < its.toArray.size := by
      have := (List.getElem?_eq_some_iff.mp hu).1
      simpa using this
    refine wpAny_pyNext_enum_itemD (draws_K t (A := X.A.in1) (I.ok.hd hc) it a hai its.toArray) he ⟨hit, p⟩ hlt hne (by simp; exact ⟨hne, fun z => hae z.symm⟩) fun x' h' tk hP ho hit' hT hsz hk => ?_
    have hx' : x' = u := by
      have : its.toArray[i]? = some u := by simpa using hu
      rw [this] at hP
      exact (Option.some.inj hP).symm
    subst hx'
    refine ⟨_, rfl, wpAny_letOwnedTupleGo_enum (s := { s with heap := h', toks := tk + 1 }) ho fun h'' he' sb => ?_⟩
    have hT2 : h''.get? s.heap.objs.size = some { cls := .type "tuple", data := .seq #[.int i tk, x'] } := (sb.2 _ (Nat.ne_of_gt hel)).trans hT
    have new : ObjOk X.prog X.w (upd H s.heap.objs.size (.tup [.int (i : Nat), x])) h'' s.heap.objs.size (.tup [.int (i : Nat), x]) :=
      ⟨by show 2 ≤ sizeLine; decide, [.int i tk, x'], .cons ⟨_, rfl⟩ (.cons ru .nil), ⟨_, hT2, rfl, _, rfl⟩⟩
    have I1 : Inv X pins σ (upd H s.heap.objs.size (.tup [.int (i : Nat), x])) { s with heap := h'', toks := tk + 1 } :=
      I.turnedNew (ch := [e, it]) (fun b ob hb q => (sb.2 b (fun z => hb (by simp [z]))).trans (hk b ob (fun z => hb (by simp [z])) (fun z => hb (by simp [z])) q)) hf (Nat.le_refl _) new
    refine ⟨.ref s.heap.objs.size, _, I1, rfl, ⟨_, x, rfl, I.hok.fresh (Nat.le_refl _), rfl, fun ys hy => by rw [SqK.inj I hy hq]; exact hx⟩, ⟨⟨x', ?_⟩, hit'.1.at fun o q => (sb.2 it (Ne.symm hne)).trans q⟩, fun b hb => ?_⟩
    · have e1 : ((i + 1 : Nat) : Int) = (i : Int) + 1 := by omega
      rw [e1]; exact he'
    · have hb' : b < s.heap.objs.size := by
        have e' : b = e ∨ b = it := by simpa using hb
        rcases e' with z | z
        · rw [z]; exact hel
        · rw [z]; exact hil
      rw [upd_ne (Nat.ne_of_lt hb')]
      exact (hf b hb).1
  done := by
    intro X hP hw hK hc i pins s σ H E I hf st hg
    subst hP hw hK
    obtain ⟨⟨old, he⟩, hit⟩ := st
    obtain ⟨xs, hq, hx⟩ := hg
    obtain ⟨its, rv, p, hz⟩ := hq.items I
    obtain ⟨f0, f1, f2, f3, f4, f5⟩ := hf it (by simp)
    have hl : its.toArray.size = i := by rw [← hx, rv.length]; simp
    exact enum_overD (draws_K t (A := X.A.in1) (I.ok.hd hc) it a hai its.toArray) he ⟨by rw [hl]; exact hit, p⟩ fun h' eb => ⟨rfl, I.turned (t' := s.toks) (fun b o hb q => eb b o hb q) f0 f1 f3 f4 f5⟩
  self := fun A i s Q E st h => let ⟨⟨_, he⟩, _⟩ := st; wpAny_pyIter_enum he h
def iEnumK (K : PySem.W.Frag) (ta : TA) : TI := fun σ H R => ta σ H fun vs H1 => ∃ t a xs, vs = [.ref a] ∧ SqK t K H1 a xs ∧ R (IteK t K a) H1
theorem IsSqK.lt {t : Bool} {h : Heap} {a : Addr} {its : Array Value} (x : IsSqK t h a its) : a < h.objs.size := by
  cases t with
  | true => obtain ⟨o, e, _⟩ := (show h.IsTuple a its from x); exact Heap.lt_size e
  | false => obtain ⟨o, e, _⟩ := (show h.IsList a its from x); exact Heap.lt_size e
theorem pi_enumK {X : Cx} {e : Expr} {ta : TA} {p pos tpos : Pos} {elts : List Expr} {kk : Nat} (hg : Gl X "enumerate") (hm : X.mg "enumerate" = none) (ha : PA X [e] ta) (hs : starEach [e] X.env = [(false, eval e X.env)] := by rfl) :
    PI X (.Tuple elts kk tpos) (.Call (.Name "enumerate" p) [e] [] pos) (iEnumK X.K ta) := by
  refine ⟨fun pins s σ H R I h => ?_⟩
  refine Call_ (ld_blt I hg hm boot_enumerate (PyProof.Rows.callWith_type1 (thn (ha.run pos pins s σ H _ I h) fun us s1 ⟨vs, H1, I1, r1, q1⟩ => ?_) hs rfl))
  obtain ⟨t, a, xs, ex, hq, q⟩ := q1
  subst ex
  cases r1 with
  | cons r rr =>
    cases rr
    cases r
    obtain ⟨its, rv, p', hz⟩ := hq.items I1
    obtain ⟨o, bg, ob⟩ := begins_K t a its.toArray
    have la := p'.lt
    refine enum_begins1 bg p' fun h' he hit hsz hk => wpAny_pyIter_enum he ?_
    have I2 : Inv X pins σ H1 { s1 with heap := h' } := I1.kept (t' := s1.toks) hk
    refine ⟨s1.heap.objs.size + 1, [s1.heap.objs.size + 1, s1.heap.objs.size], _, _, H1, rfl, I2, turn_enumK t a (s1.heap.objs.size + 1) s1.heap.objs.size (Nat.succ_ne_self _) (Nat.ne_of_lt la) (Nat.ne_of_lt (Nat.lt_succ_of_lt la)), ⟨⟨.none, he⟩, ob _ _ hit⟩, fun b hb => ?_, q⟩
    have e' : b = s1.heap.objs.size + 1 ∨ b = s1.heap.objs.size := by simpa using hb
    have hle : s1.heap.objs.size ≤ b := by
      rcases e' with z | z
      · rw [z]; exact Nat.le_add_right _ _
      · rw [z]; exact Nat.le_refl _
    exact I1.fpOk hle (I1.hok.fresh hle)

theorem Rep.sqK {K : PySem.W.Frag} {G H : Hp} {d : D} {v : V} {ds : List D} (le : Le G H) (r : Rep K G d v) (h : seqD d = some ds) : ∃ t a vs, v = .ref a ∧ (∀ H' G', Le G G' → Le G' H' → SqK t K H' a vs) ∧ RepL K G ds vs := by
  cases d with
  | lst es =>
    cases h
    cases r with
    | lst e r => exact ⟨false, _, _, rfl, fun H' G' l1 l2 => SqL.of (l2.get (l1.get e)), r⟩
  | tup es =>
    cases h
    cases r with
    | tup e r => exact ⟨true, _, _, rfl, fun H' G' l1 l2 => l2.sqT (l1.sqT e), r⟩
  | rol es =>
    cases h
    cases r with
    | rol e r => exact ⟨false, _, _, rfl, fun H' G' l1 l2 => .inl (.inr ⟨_, l2.get (l1.get e)⟩), r⟩
  | _ => exact nomatch h
section
variable {K : PySem.W.Frag} {G : Hp}
theorem walkD_enumK {t : Bool} {a : Addr} {vs : List V} {ds : List D} (e : ∀ H' G', Le G G' → Le G' H' → SqK t K H' a vs) (r : RepL K G ds vs) : WalkD K (IteK t K a) G (enumD ds) := by
  have hl := r.length
  have hle : (enumD ds).length = ds.length := by simp [enumD]
  refine ⟨fun i H G' hi l1 l2 => ?_, fun H G' l1 l2 => ?_, fun i H G' x H' hi l1 l2 y => ?_⟩
  · rw [hle, hl] at hi
    exact ⟨vs, vs[i], e _ _ l1 l2, List.getElem?_eq_getElem hi⟩
  · exact ⟨vs, e _ _ l1 l2, by rw [hle, hl]⟩
  · rw [hle] at hi
    obtain ⟨T, v, rfl, nT, rfl, hv⟩ := y
    have e1 := hv vs (e _ _ l1 l2)
    obtain ⟨dd, h1, h2⟩ := r.getV e1
    have s := StepP.made (o := .tup [.int (i : Nat), v]) l2 nT
    refine ⟨.tup [.int i, dd], _, ?_, s, .tup (.inl (.inl upd_same)) (.cons (.int _) (.cons (h2.mono (l1.trans s.le)) .nil))⟩
    rw [List.getElem?_eq_getElem hi] at h1
    injection h1 with h1
    simp [enumD, hi, List.getD, h1]
end
def iEnK (δ : DA) : DI := fun x ρ n q => δ x ρ n fun ds n1 => match ds with
  | [d] => opt (seqD d) fun es => q (enumD es) n1
  | _ => False
def iZpK (δ : DA) : DI := fun x ρ n q => δ x ρ n fun ds n1 => match ds with
  | [d, e] => opt (seqD d) fun es => opt (seqD e) fun fs => q (zipD es fs) n1
  | _ => False
section
variable {X : Cx} {W : WX} {e a b : Expr} {α' : DA} {p pos tpos : Pos} {elts : List Expr} {kk : Nat}
theorem pid_enumK (hg : Gl X "enumerate") (hm : X.mg "enumerate" = none) (ha : PAD X W [e] α') (hs : starEach [e] X.env = [(false, eval e X.env)] := by rfl) : PID X W (.Tuple elts kk tpos) (.Call (.Name "enumerate" p) [e] [] pos) (iEnK α') := by
  obtain ⟨t, pa, h⟩ := ha
  refine ⟨_, pi_enumK hg hm pa hs, fun B σ H ρ n G α R x q hK RB hx hd k => ?_⟩
  refine h B σ H ρ n G α _ x _ hK RB hx hd fun vs H1 G1 ds n1 s1 j1 r1 h1 => ?_
  split at h1
  · obtain ⟨es, ee, h1⟩ := opt_some h1
    cases r1 with
    | cons r t =>
      cases t
      obtain ⟨t, a, vs, rfl, hq, rl⟩ := r.sqK s1.hh ee
      exact ⟨t, a, vs, rfl, hq _ _ (Le.refl _) s1.hh, k _ H1 G1 _ n1 s1 j1 (walkD_enumK hq rl) h1⟩
  · exact h1.elim
end
def fBoolL : FL := f1 fun d k => match d with
  | .lst es => k (.bl (!es.isEmpty))
  | _ => False
theorem dcall_boolL {K : PySem.W.Frag} : DCall K (fun xs H Q => ∃ (a : Addr) (zs : List V), xs = [.ref a] ∧ SqL K H a zs ∧ Q (.bl (!zs.isEmpty)) H) fBoolL := by
  intro W H G vs ds Q k le r hf hk
  cases r with
  | nil => exact hf.elim
  | cons r t =>
    cases t with
    | cons _ _ => exact hf.elim
    | nil =>
      rename_i d v
      cases d with
      | lst es =>
        obtain ⟨a, us, rfl, e, rl⟩ := r.lst le
        refine ⟨a, us, rfl, SqL.of e, hk _ H G _ (.refl le) ?_ hf⟩
        have : us.isEmpty = es.isEmpty := by
          cases rl <;> rfl
        rw [this]
        exact .bl _
      | _ => exact hf.elim
end DL

end

section
set_option autoImplicit false
namespace DL
open PySem PySem.Spec L2
def spWF (K : PySem.W.Frag) (m : Nat) (F : DF) : Sp := fun vs H Q E => ∃ (W : Wd) (n : Nat) (G : Hp) (ds : List D) (q : DQ) (x : Xn → Nat → Prop), Le G H ∧ (∀ a, W.rg a → G a = none) ∧ W.J n H ∧ RepL K G ds vs ∧ ds.length = m ∧ F W ds n q x ∧
  (∀ a H' G' d n', Step W H G H' G' → W.J n' H' → H a = none → G' a = none → ¬ W.rg a → OwnAt K G' H' a d → q d n' → Q (.ref a) H') ∧ (∀ c dd H' G' e n', Step W H G H' G' → W.J n' H' → XRep K W H G' H' e c dd → x e n' → E c dd H')
def ownQ (q : DQ) : Sl → Nat → Prop := fun sl n => match sl with
  | .own d => q d n
  | _ => False
def endsF (W : Wd) (q : DQ) (x : Xn → Nat → Prop) : DEnds := ⟨fun _ _ => False, fun _ _ => False, fun _ _ => False, fun _ _ => False, fun e _ n => x e n, W, ownQ q⟩
structure SgF (P : Program) (w : World) (K : PySem.W.Frag) (mg : Str → Option Value) (base : Heap) (x : Str) (k m : Nat) (F : DF) (dvd : List D) : Prop where
  ex : ∃ (f : Addr) (fd : FuncData) (ps : List Str) (ds : List Value) (dvs : List V), FnOk P w K mg base (L2.CX P w) k f fd ps (spWF K m F) ∧ mg x = some (.ref f) ∧ PySem.W.keepIn K (.ref f) = true ∧ Binds K fd ps ds ∧ Vals dvs ds ∧ ∀ G, RepL K G dvd dvs
structure MgF (P : Program) (w : World) (K : PySem.W.Frag) (mg : Str → Option Value) (base : Heap) (c x : Str) (k m : Nat) (F : DF) (dvd : List D) : Prop where
  cl : Cls K (ca K c)
  ex : ∃ (f : Addr) (fd : FuncData) (ps : List Str) (ds : List Value) (dvs : List V), FnOk P w K mg base (L2.CX P w) k f fd ps (spWF K m F) ∧ Meth K (ca K c) x f ∧ Binds K fd ps ds ∧ Vals dvs ds ∧ ∀ G, RepL K G dvd dvs
section
variable {X : Cx} {W : WX} {k m : Nat} {F : DF} {dvd : List D} {x c y : Str} {p pos apos : Pos} {e o : Expr} {es : List Expr} {a : DA} {δ : DE}
end
def eqKD (ks ls : List (Key × D)) : Bool := ks.all fun q => match getD ls q.1 with
  | some d => eqD q.2 d
  | none => false
def fEqDct (neg : Bool) : F2 := fun x y k => match x, y with
  | .dct ks, .dct ls => (ks.all fun q => flatD q.2) = true ∧ (ls.all fun q => flatD q.2) = true ∧ k (.bl (if neg then !(ks.length == ls.length && eqKD ks ls) else (ks.length == ls.length && eqKD ks ls)))
  | _, _ => False
def eqKV (ks ls : List (Key × V)) : Bool := ks.all fun q => match valV ls q.1 with
  | some v => eqV q.2 v
  | none => false
theorem RepK.flat {K : PySem.W.Frag} {G : Hp} : ∀ {ks : List (Key × D)} {ws : List (Key × V)}, RepK K G ks ws → (ks.all fun q => flatD q.2) = true → (ws.all fun q => flatV q.2) = true
  | _, _, .nil, _ => rfl
  | _, _, .cons r t, h => by
    rw [List.all_cons, Bool.and_eq_true_iff] at h
    rw [List.all_cons, RepK.flat t h.2]
    dsimp only at h
    rw [r.flat h.1]; rfl
theorem getD_flat {ls : List (Key × D)} (h : (ls.all fun q => flatD q.2) = true) {k : Key} {v : D} (e : getD ls k = some v) : flatD v = true := by
  unfold getD at e
  cases q : ls.find? (fun kv => decide (kv.1 = k)) with
  | none => rw [q] at e; cases e
  | some kv =>
    rw [q] at e
    cases e
    exact List.all_eq_true.mp h kv (List.mem_of_find?_eq_some q)
theorem RepK.eqKV {K : PySem.W.Frag} {G : Hp} {ls : List (Key × D)} {us : List (Key × V)} (rl : RepK K G ls us) (fl : (ls.all fun q => flatD q.2) = true) : ∀ {ks : List (Key × D)} {ws : List (Key × V)}, RepK K G ks ws → (ks.all fun q => flatD q.2) = true → DL.eqKV ws us = eqKD ks ls
  | _, _, .nil, _ => rfl
  | _, _, .cons (k := k) (d := d) (v := v) r t, h => by
    rw [List.all_cons, Bool.and_eq_true_iff] at h
    have ih := RepK.eqKV rl fl t h.2
    unfold DL.eqKV eqKD at ih ⊢
    rw [List.all_cons, List.all_cons, ih]
    congr 1
    dsimp only
    rcases rl.val (k := k) with ⟨d', v', e1, e2, r'⟩ | ⟨e1, e2⟩
    · rw [e1, e2]
      exact r.eqV r' h.1 (getD_flat fl e1)
    · rw [e1, e2]
section
variable {X : Cx} {W : WX} {a b : Expr} {δa δb : DE} {pos : Pos}
end
end DL

end

section
set_option autoImplicit false
namespace DL
open PySem PySem.Spec L2
end DL

end

section
set_option autoImplicit false
namespace DL
open PySem PySem.Spec PyProof.Rows L2 LamX
def LamTo (P : Addr) (q : Str) (H H1 : Hp) : Prop := H1 = H ∨ ∃ (ps more : Array Value) (c' : Addr), H P = some (.tbl ps) ∧ H c' = none ∧ H1 = upd (upd H P (.tbl (ps ++ more))) c' (CodeO c' q)
section
variable {X : Cx} {pins : List (Addr × Obj)} {σ : L2.St} {H : Hp} {s : Shared}
end
def CatchV (K : PySem.W.Frag) (cls : Value) : List (Str × V) → (V → Prop) → Prop
  | [], _ => False
  | (c, v) :: l, k => ∃ b, PySem.W.exmOne K cls (.ref (ca K c)) = some b ∧ (b = true → k v) ∧ (b = false → CatchV K cls l k)
inductive HdsC : List ExceptHandler → List (Str × V) → Prop
  | nil : HdsC [] []
  | cons {c : Str} {e : Expr} {v : V} {np p6 p7 : Pos} {hds : List ExceptHandler} {l : List (Str × V)} (he : ∀ Y : Cx, PE Y e (tC v)) (r : HdsC hds l) : HdsC (.ExceptHandler (some (.Name c np)) none [.Return (some e) p6] p7 :: hds) ((c, v) :: l)
theorem HdsC.ok {X : Cx} {hds : List ExceptHandler} {l : List (Str × V)} (h : HdsC hds l) (hn : ∀ q ∈ l, Names X q.1 (.ref (ca X.K q.1))) : HdsOk X hds (l.map fun q => (.ref (ca X.K q.1), fun _ _ _ => tRet (tC q.2))) := by
  induction h with
  | nil => exact .nil
  | cons he r ih => exact .cons (hn _ (List.mem_cons_self ..)) (fun a oe cls d pn _ _ => pss_one (ps_ret (he _))) (ih fun q hq => hn q (List.mem_cons_of_mem _ hq))
def eOf (K : PySem.W.Frag) (W : WX) (δ : DE) : TE := fun σ H Q => ∃ (B : Bs) (ρ : Env) (n : Nat) (G : Hp) (α : Nat → Addr) (x : DX) (q : DQ), B.K = K ∧ RelB B σ H ρ n G α ∧ XL B W σ H G x ∧ δ x ρ n q ∧
  ∀ v H' G' d n', Step B.W H G H' G' → B.W.J n' H' → Rep K G' d v → q d n' → Q v H'
theorem PD.eOf {X : Cx} {W : WX} {e : Expr} {δ : DE} (h : PD X W e δ) : PE X e (eOf X.K W δ) := by
  obtain ⟨t, p, h⟩ := h
  refine ⟨fun pins s σ H Q I hw => ?_⟩
  obtain ⟨B, ρ, n, G, α, x, q, hK, R, hx, hd, k⟩ := hw
  exact p.run pins s σ H Q I (h B σ H ρ n G α Q x q hK R hx hd k)
structure LamW (W : Wd) (P : Addr) (q : Str) : Prop where
  rg : W.rg P
  tab : ∀ n H, W.J n H → TabS H P q
  st : ∀ n H H1, W.J n H → LamTo P q H H1 → TabS H1 P q → W.J n H1
theorem LamW.step {W : Wd} {P : Addr} {q : Str} {H G H1 : Hp} (l : LamW W P q) (rg : ∀ a, W.rg a → G a = none) (le : Le G H) (t : LamTo P q H H1) : Step W H G H1 G := by
  rcases t with rfl | ⟨ps, more, c', e, nc, rfl⟩
  · exact .refl _ le
  have st : ∀ a o, H a = some o → a ≠ P → upd (upd H P (.tbl (ps ++ more))) c' (CodeO c' q) a = some o := fun a o h n => by
    rw [upd_ne (ne_of_none h nc), upd_ne n]; exact h
  refine ⟨fun a o h r => st a o h fun z => r (z ▸ l.rg), Le.refl G, fun a o h => ?_, fun a h => .inl h⟩
  obtain ⟨o', h', z⟩ := le a o h
  exact ⟨o', st a o' h' (fun w => by rw [w, rg P l.rg] at h; cases h), z⟩
def catchD (sub : Str → Str → Bool) (c : Str) : List (Str × D) → (D → Prop) → Prop
  | [], _ => False
  | (c', d) :: l, k => if sub c c' = true then k d else catchD sub c l k
def dLam (LW : Wd → Prop) (XS : List Str) (sub : Str → Str → Bool) (hs : List (Str × D)) (d0 : D) (δ : DE) : DE := fun x ρ n q => LW x.w ∧ δ { x with ex := fun e n' => e.1 ∈ XS ∧ catchD sub e.1 hs fun d => q d n' } ρ n fun _ n' => q d0 n'
section
variable {X : Cx} {W : WX}
end
theorem okC {P : Program} {w : World} {K : PySem.W.Frag} {mg : Str → Option Value} {base : Heap} {x qual : Str} {params : Arguments} {body : List Stmt} {scope : Scope} {dvs : List V} {kws : List (Str × V)} {p : Str × Option Str} {fd : FuncData} {CX : CXT} {N ps : List Str} {k : Nat} {sp : Sp}
    (F : FunD K x qual params body scope dvs kws (He.fAd K p) fd) (S : FnScope N ps scope) (len : ∀ vs H Q E, sp vs H Q E → vs.length = ps.length)
    (hb : ∀ (cdv : Value) (A : Around) (outer : List PySem.Env) (s : Shared) (H : Hp) (vs : List V) (Q : VK) (E : XK), cdv = .ref (He.cT K p).1 → Room k (A.deeper (envOfC qual scope s.heap.objs.size (He.fAd K p) cdv)) → sp vs H Q E →
      ∃ t, PSs (cxOf CX P w K mg base N qual scope (He.fAd K p) cdv A outer s H E) body t ∧ t { nx := fun _ H' => Q .non H', rt := Q } (L2.start N vs) H) : FnOk P w K mg base CX (k + 1) (He.fAd K p) fd ps sp := by
  obtain ⟨oc, od, dV, kV, doc, pm, an, cdv, ct, osl, rfl, lk, hcd, _, _⟩ := F.ex
  obtain ⟨c, rfl⟩ := He.codeIn_ref hcd
  have e : (He.cT K p).1 = c := He.codeOf_eq lk rfl
  exact fn_of lk hcd S len fun A outer s H vs Q E hr hsp => hb (.ref c) A outer s H vs Q E (by rw [e]) hr hsp
abbrev LW (K : PySem.W.Frag) (x : Str) (W : Wd) : Prop := LamW W (He.cT K (x, none)).2 (x ++ ".<locals>.<lambda>")
abbrev AlL : Type := He.AlD × Bool
structure SaysL (fa : List He.Fa) (fn : List He.DefD) (tf : List He.Defn) (ex : PySem.W.Frag → Bool) (h : Heap) (K : PySem.W.Frag) : Prop where
  d : He.SaysD fa fn K
  more : ex K = true
  tabs : ∀ p ∈ tf, PySem.W.codeHdIn K (He.cT K p).1 (He.cT K p).2 = true ∧ K.lookup (He.cT K p).2 = none ∧ h.get? (He.cT K p).2 = some { cls := .none, data := .fields #[] }
end DL

end

section
set_option autoImplicit false
namespace DL
open PySem PySem.Spec L2
theorem RepL.dropLast {K : PySem.W.Frag} {G : Hp} {ds : List D} {vs : List V} (r : RepL K G ds vs) : RepL K G ds.dropLast vs.dropLast := by
  rw [List.dropLast_eq_take, List.dropLast_eq_take, ← r.length]
  exact r.take _
def dPop (i : Nat) : DS := fun E ρ n => match ρ[i]? with
  | some (some (.own (.lst ds))) => ds ≠ [] ∧ E.nx (ρ.set i (some (.own (.lst ds.dropLast)))) n
  | _ => False
def dPop0 (i : Nat) : DS := fun E ρ n => match ρ[i]? with
  | some (some (.own (.lst ds))) => ds ≠ [] ∧ E.nx (ρ.set i (some (.own (.lst ds.tail)))) n
  | _ => False
section
variable {X : Cx} {W : WX} {pos pos' apos cpos p0 : Pos} {x : Str} {j : Nat}
theorem pf_list {e : Expr} {α' : DA} {p : Pos} (hg : Gl X "list") (hm : X.mg "list" = none) (ha : PAB X W [e] α') (hst : starEach [e] X.env = (false, eval e X.env) :: starEach [] X.env := by rfl) (hpl : (backTo pos (starEach [] X.env)).any (·.1) = false := by rfl) :
    PF X W (.Call (.Name "list" p) [e] [] pos) (dCB fList α') := by
  obtain ⟨t, pa, ea⟩ := ha
  refine ⟨_, pe_callTy call_list_of hg hm (by decide +kernel) pa (by decide) (by decide) hst hpl, fun B σ H ρ n G α Q x q hK R hx hd k => ?_⟩
  refine ea B σ H ρ n G α _ x _ hK R hx hd fun vs H1 G1 ds n1 s1 j1 r hf => ?_
  unfold fList f1 at hf
  split at hf
  · rename_i d
    obtain ⟨v, rfl, r0⟩ := r.one
    split at hf
    · rename_i es e
      obtain ⟨a, us, e1, hs, r1⟩ := r0.seq s1.hh e
      subst e1
      refine ⟨a, us, rfl, hs, fun l np => ?_⟩
      have s := StepP.laid (o := .lst us) s1.hh np
      have nr : ¬ B.W.rg l := fun r => B.W.there n1 H1 l j1 r np
      have h0 : H l = none := by
        cases e : H l with
        | none => rfl
        | some o => rw [s1.fr l o e nr] at np; cases np
      have g0 : G1 l = none := by
        cases e : G1 l with
        | none => rfl
        | some o =>
          obtain ⟨o', e', _⟩ := s1.hh l o e
          rw [np] at e'; cases e'
      exact k l _ _ (.lst es) n1 (s1.trans (s.step j1)) (s.J j1) h0 g0 nr ⟨us, upd_same, r1⟩ hf
    · exact hf.elim
  · exact hf.elim
end
end DL

end

section
set_option autoImplicit false
namespace DL
open PySem PySem.Spec L2

section
variable {X : Cx} {CX : CXT} {k : Nat} {C p g : Addr} {mc : Value} {sp : Sp} {fd : FuncData} {ps : List Str} {dvs : List V} {ds : List Value} {E : St → XK} {o e : Expr} {es : List Expr} {m : Str} {pos apos : Pos} {ta : TE} {t : TA} {pl : Sem Bool}
end
def cF (K : PySem.W.Frag) (c : Str) (F : DF) : DF := fun W ds n q x => ∃ r, ds = .hnd (ca K c) :: r ∧ F W r n q x
structure Cg (P : Program) (w : World) (K : PySem.W.Frag) (mg : Str → Option Value) (base : Heap) (c x : Str) (k m : Nat) (F : DF) (dvd : List D) : Prop where
  gl : mg c = some (.ref (ca K c))
  rd : ClX.CRead K (ca K c) (.type "type")
  ex : ∃ (p g : Addr) (fd : FuncData) (ps : List Str) (ds : List Value) (dvs : List V), FnOk P w K mg base (L2.CX P w) k g fd ps (spW K m (cF K c F)) ∧ ClX.CMet K (ca K c) (.type "type") x p g ∧ Binds K fd ps ds ∧ Vals dvs ds ∧ ∀ G, RepL K G dvd dvs
def dCMeth (m : Nat) (F : DF) (dvd : List D) (a : DA) : DE := fun x ρ n q => a x ρ n fun ds n1 => (ds ++ dvd).length + 1 = m ∧ F x.w (ds ++ dvd) n1 q x.ex
section
variable {X : Cx} {W : WX} {k m : Nat} {F : DF} {FI : DFI} {dvd : List D} {x c y : Str} {p pos apos : Pos} {e o : Expr} {es : List Expr} {a : DA} {δ : DE}
def dMakeV (i : Nat) (C : Addr) (c : Str) (m : Nat) (F : DFI) (dvd : List D) (a : DA) : DE := fun x ρ n q => ρ[i]? = some (some (.val (.hnd C))) ∧ dMake c m F dvd a x ρ n q
end
abbrev AlN : Type := He.AlD × He.AlD × Bool
structure SaysN (fa : List He.Fa) (fn : List He.DefD) (cf : List He5.DefA) (tf : List He.Defn) (ex : PySem.W.Frag → Bool) (h : Heap) (K : PySem.W.Frag) : Prop where
  d : He.SaysD fa fn K
  cm : He5.SaysA [] cf K
  more : ex K = true
  tabs : ∀ p ∈ tf, PySem.W.codeHdIn K (He.cT K p).1 (He.cT K p).2 = true ∧ K.lookup (He.cT K p).2 = none ∧ h.get? (He.cT K p).2 = some { cls := .none, data := .fields #[] }
def tblOf (K : PySem.W.Frag) (tf : List Str) : List (Addr × Str) := tf.map fun x => ((He.cT K (x, none)).2, x ++ ".<locals>.<lambda>")
def tblB (tf : List Str) (K : PySem.W.Frag) : Bool := decide (((tblOf K tf).map (·.1)).Nodup)
theorem nodup_at {α β : Type} : ∀ {l : List (α × β)}, (l.map (·.1)).Nodup → ∀ {a : α} {b : β}, (a, b) ∈ l → ∀ p ∈ l, p.1 = a → p.2 = b
  | [], _, _, _, h, _, _, _ => nomatch h
  | q :: l, hn, a, b, h, p, hp, e => by
    rw [List.map_cons, List.nodup_cons] at hn
    rcases List.mem_cons.mp h with h | h
    · rcases List.mem_cons.mp hp with hp | hp
      · rw [hp, ← h]
      · exact (hn.1 (by rw [← h]; exact List.mem_map.mpr ⟨p, hp, e⟩)).elim
    · rcases List.mem_cons.mp hp with hp | hp
      · exact (hn.1 (by rw [← hp, e]; exact List.mem_map.mpr ⟨_, h, rfl⟩)).elim
      · exact nodup_at hn.2 h p hp e
end DL

end

section
set_option autoImplicit false
namespace DL
open PySem PySem.Spec L2
section
variable {K : PySem.W.Frag}
def fMin2 : FL := fun ds k => match ds with
  | [.int i, .int j] => k (.int (if j < i then j else i))
  | _ => False
def fMax2 : FL := fun ds k => match ds with
  | [.int i, .int j] => k (.int (if i < j then j else i))
  | _ => False
end
end DL

end

section
set_option autoImplicit false
namespace DL
open PySem PySem.Spec L2
section
variable {M : Model} {A : Around} {E : Value → Shared → Prop} {s : Shared} {env : PySem.Env} {pos : Pos} {first : List Value} {Q : Value → Shared → Prop} {a C dx : Addr}
end
section
variable {X : Cx} {pins : List (Addr × Obj)} {σ : L2.St} {H : Hp} {s : Shared} {CX : CXT} {k : Nat} {f C dx a : Addr} {fd : FuncData} {ps : List Str} {sp : Sp} {E : L2.St → XK} {Q : VK} {us : List Value} {vs : List V} {fs : List (Str × V)}
end
section
variable {X : Cx} {W : WX} {k m : Nat} {F : DF} {x c : Str} {p pos : Pos} {e : Expr} {es : List Expr} {a : DA}
def dCallO (i : Nat) (c : Str) (m : Nat) (F : DF) (a : DA) : DE := fun x ρ n q => match ρ[i]? with
  | some (some (.val (.obj c' fs))) => c' = c ∧ a x ρ n fun ds n1 => ds.length + 1 = m ∧ F x.w (.obj c' fs :: ds) n1 q x.ex
  | _ => False
end
end DL

end

section
set_option autoImplicit false
namespace DL
open PySem PySem.Spec L2
section
variable {X : Cx} {W : WX} {a b c : Expr} {δa δb : DE} {τa : DT} {pos : Pos}
def fRepL : F2 := fun x y k => match x, y with
  | .lst a, .int j => (-(2 ^ 63) ≤ j ∧ j < 2 ^ 63 ∧ a.length * j.toNat ≤ 16777216) ∧ k (.lst (List.replicate j.toNat a).flatten)
  | _, _ => False
end
end DL

end

section
set_option autoImplicit false
namespace DL
open PySem PySem.Spec L2
section
variable {X : Cx} {K : PySem.W.Frag} {W : WX} {a b c : Expr} {δa δb : DE} {pos : Pos}
def fMulS : F2 := fun x y k => match x, y with
  | .str a, .int j => (0 ≤ j ∧ j < 2 ^ 62 ∧ a.length * j.toNat ≤ 16777216) ∧ ∀ z, k (.str z)
  | _, _ => False
end
end DL

end

section
set_option autoImplicit false
namespace DL
open PySem PySem.Spec L2
section
variable {X : Cx} {W : WX} {k m : Nat} {F : DF} {c : Str} {pos : Pos} {o e : Expr} {es : List Expr} {a : DA} {δ : DE}
def dCallX (c : Str) (m : Nat) (F : DF) (δ : DE) (a : DA) : DE := fun x ρ n q => δ x ρ n fun d n1 => match d with
  | .obj c' fs => c' = c ∧ a x ρ n1 fun ds n2 => ds.length + 1 = m ∧ F x.w (.obj c' fs :: ds) n2 q x.ex
  | _ => False
end
end DL

end

section
set_option autoImplicit false
namespace DL
open PySem PySem.Spec L2
section
variable {prog : Program} {w : World} {A : Around} {E : Value → Shared → Prop} {s : Shared} {x : Addr}
theorem bool_meets : MeetsIn prog w (Builtin.«bool.__new__» ⟨[.type "bool", .ref x], []⟩) (fun A R s => wpAny (model prog w) A.in1 (truthy (.ref x)) (fun b s' => R (.ok (.ret (.bool b))) s') (fun e s' => R (.error e) s') s) :=
  .of_wp fun A R s h => by
    unfold Builtin.«bool.__new__»
    refine wpAny_bind (wpAny_of_eq (a := true) (show isType (.type "bool") = pure true by kernel_rfl) ?_)
    refine PySem.W.KFB.if_not rfl ?_
    refine wpAny_bind (wpAny_of_eq (a := true) PySem.F.conv_sub_bool ?_)
    refine PySem.W.KFB.if_not rfl ?_
    refine wpAny_bind (wpAny_of_eq (a := [.ref x]) (by rfl) ?_)
    refine wpAny_bind (wpAny_mono h (fun b s' hb => ?_) fun _ _ y => y)
    exact wpAny_pure ⟨_, rfl, hb⟩
theorem call_bool_obj {Q : Value → Shared → Prop} (h : wpAny (model prog w) A.in1.in1 (truthy (.ref x)) (fun b s' => Q (.bool b) s') E s) : wpAny (model prog w) A (call (.type "bool") [.ref x]) Q E s :=
  PySem.callType_newIn PySem.F.called_bool PySem.F.newNe_bool (PySem.F.typeCall_bool_1 _) (PySem.F.newCall_bool_1 _) (fun obj => PySem.F.args_object_init_2 obj _) PySem.F.entry_bool_new bool_meets (wpAny_mono h (fun b s' hb => ⟨rfl, hb⟩) fun _ _ y => y)
end
section
variable {X : Cx} {pins : List (Addr × Obj)} {σ : L2.St} {H : Hp} {s : Shared} {CX : CXT} {k : Nat} {f : Addr} {fd : FuncData} {ps : List Str} {sp : Sp} {E : L2.St → XK} {Q : VK} {us : List Value} {vs : List V} {A : Around}
theorem run_in (F : FnOk X.prog X.w X.K X.mg X.base CX k f fd ps sp) (hr : Room k A) (e0 : Env0 X.prog X.w X.K X.mg X.base A X.stack s H) (hb : Binds X.K fd ps []) (hx : PassesAt CX X σ (E σ)) (I : Inv X pins σ H s) (r : Vals vs us) (h : sp vs H Q (E σ)) :
    wpAny (model X.prog X.w) A (call (.ref f) us) (EP X pins σ Q) X.xe s := by
  have hl : (us ++ []).length = ps.length := by
    have e := r.length
    rw [F.len _ _ _ _ h] at e
    rw [List.append_nil]
    exact e.symm
  have hbb := hb _ us I.kIn hl
  rw [List.append_nil] at hbb
  refine wpAny_call (codeAny_mono (F.run _ X.stack _ _ ⟨us, []⟩ us _ _ (E σ) hr e0 hbb r h) fun r s' hq' => ?_)
  cases r with
  | error e => exact hx pins _ _ e s' I hq'
  | ok fl =>
    cases fl with
    | ret u => exact I.after hq'
    | next => exact False.elim hq'
    | brk => exact False.elim hq'
    | cont => exact False.elim hq'
end
section
variable {X : Cx} {W : WX} {k : Nat} {f C : Addr} {fd : FuncData} {ps : List Str} {sp : Sp} {E : L2.St → XK} {a b e : Expr} {es : List Expr} {ta tb : TE} {t : TA} {x : Str} {p pos : Pos} {c : Str} {F : DF} {δa δb : DE} {α' : DA} {CS : List Str}
def tBoolO (C : Addr) (sp : Sp) (E : L2.St → XK) (t : TA) : TE := fun σ H Q => t σ H fun vs H1 => ∃ a dx fs, vs = [.ref a] ∧ H1 a = some (.ins C dx fs) ∧ sp [.ref a] H1 (fun v H2 => ∃ b, v = .bl b ∧ Q (.bl b) H2) (E σ)
theorem pe_boolO {CX : CXT} (hm : Meth X.K C "__bool__" f) (F : FnOk X.prog X.w X.K X.mg X.base CX k f fd ps sp) (hr : Room (k + 2) X.A) (hb : Binds X.K fd ps []) (hx : ∀ σ, PassesAt CX X σ (E σ)) (hg : Gl X x) (hmg : X.mg x = none) (hv : bootBuiltins x = some (.type "bool")) (ha : PA X (e :: es) t) (hn : x ≠ "__name__" := by decide) (hdb : (x == ("__debug__" : Str)) = false := by decide)
    (he : starEach (e :: es) X.env = (false, eval e X.env) :: starEach es X.env := by rfl) (hpl : (backTo pos (starEach es X.env)).any (·.1) = false := by rfl) : PE X (.Call (.Name x p) (e :: es) [] pos) (tBoolO C sp E t) := by
  refine ⟨fun pins s σ H Q I hw => ?_⟩
  refine wpAny_Call_Name_kw (ld_blt I hg hmg hv ?_ hn hdb)
  refine PyProof.Rows.callWith_type1 (thn (ha.run pos pins s σ H _ I hw) fun us s1 ⟨vs, H1, I1, r1, p, dx, fs, ev, ea, hsp⟩ => ?_) he hpl
  subst ev
  have r0 := r1
  obtain rfl := Vals.ref1 r1
  obtain ⟨mA, J, _⟩ := ins_get I1.hok ea
  obtain ⟨od, J, _⟩ := J.look
  obtain ⟨mm, hF⟩ := I1.fr
  have hr2 : Room k X.A.in1.in1 := (show Room (k + 1) X.A.in1 from Room.in1 hr).in1
  refine call_bool_obj (PySem.W.truthy_K hF I1.ok.mod.kin J hm.at_ hm.fn ?_)
  refine wpAny_mono (run_in F hr2 I1.env0.in1.in1 hb (hx σ) I1 r0 hsp) (fun w s' z => ?_) fun _ _ h => h
  obtain ⟨z', H', I', rz, b, ez, qz⟩ := z
  subst ez
  obtain rfl : w = Value.bool b := rz
  exact ⟨.bl b, H', I', rfl, qz⟩
def dBoolO (c : Str) (F : DF) (α' : DA) : DE := fun x ρ n q => α' x ρ n fun us n1 => ∃ fs, us = [.obj c fs] ∧ F x.w us n1 (fun d n2 => match d with
  | .bl b => q (.bl b) n2
  | _ => False) x.ex
def dLenO (c : Str) (F : DF) (α' : DA) : DE := fun x ρ n q => α' x ρ n fun us n1 => ∃ fs, us = [.obj c fs] ∧ F x.w us n1 (fun d n2 => match d with
  | .int i => (0 ≤ i ∧ i < 2 ^ 63) ∧ q (.int i) n2
  | _ => False) x.ex
def dInO (ng : Bool) (c : Str) (F : DF) (a b : DE) : DE := fun x ρ n q => a x ρ n fun u n1 => b x ρ n1 fun v n2 => (∃ fs, v = .obj c fs) ∧ F x.w [v, u] n2 (fun d n3 => match d with
  | .bl b => q (.bl (b != ng)) n3
  | _ => False) x.ex
theorem pd_boolO (S : Mg X.prog X.w X.K X.mg X.base c "__bool__" k 1 F []) (hr : Room (k + 2) X.A) (tk : Takes X W) (ha : PAD X W (e :: es) α') (hg : Gl X x) (hmg : X.mg x = none) (hv : bootBuiltins x = some (.type "bool") := by decide +kernel) (hn : x ≠ "__name__" := by decide) (hdb : (x == ("__debug__" : Str)) = false := by decide)
    (he : starEach (e :: es) X.env = (false, eval e X.env) :: starEach es X.env := by rfl) (hpl : (backTo pos (starEach es X.env)).any (·.1) = false := by rfl) : PD X W (.Call (.Name x p) (e :: es) [] pos) (dBoolO c F α') := by
  obtain ⟨t, pa, ea⟩ := ha
  obtain ⟨f, fd, ps, ds, dvs, hF, hm, hbd, hd, hdv⟩ := S.ex
  have ev : dvs = [] := by
    have z := (hdv (fun _ => none)).length
    exact List.length_eq_zero_iff.mp z.symm
  subst ev
  cases hd
  refine ⟨_, pe_boolO hm hF hr hbd (fun σ => passAt tk σ) hg hmg hv pa hn hdb he hpl, fun B σ H ρ n G α Q x q hK R hx h kk => ?_⟩
  refine ea B σ H ρ n G α _ x _ hK R hx h fun vs H1 G1 ds n1 s1 j1 r1 h1 => ?_
  have R1 := R.step s1 j1
  obtain ⟨fs, rfl, h1⟩ := h1
  rw [hx.1] at h1
  have rr := r1
  cases rr with
  | cons ro rt =>
    cases rt
    cases ro with
    | obj e r =>
      refine ⟨_, _, _, rfl, s1.hh.get e, B.W, n1, G1, _, _, x.ex, s1.hh, R1.rg, j1, r1, rfl, h1, fun v H' G' d n' s j r hq => ?_, fun cc dd H' G' e n' s j r hq => (hx.step s1).2 cc dd H' G' e n' s j (hK ▸ r) hq⟩
      cases d with
      | bl b => cases r; exact ⟨b, rfl, kk (.bl b) H' G' (.bl b) n' (s1.trans s) j (.bl b) hq⟩
      | _ => exact hq.elim
end
end DL

end

section
set_option autoImplicit false
namespace DL
open PySem PySem.Spec PySem.SeqAt L2
open AutoSeq1 (wpAny_loadPart')
open MeetsSeq MeetsSeq2 MeetsSeq3 SeqRoads2
section
variable {prog : Program} {w : World} {A : Around} {R : Result → Shared → Prop}
def opN (neg : Bool) : Int := if neg = true then 3 else 2
def LsT (prog : Program) (w : World) (A : Around) (E : Value → Shared → Prop) (l m : Addr) (N : Nat) (b : Nat → Bool) (J : Shared → Prop) : Prop :=
  ∀ s, J s → ∃ (xs ys : Array Value) (k k' : Nat), s.heap.get? l = some { cls := .type "list", data := .seq xs k } ∧ s.heap.get? m = some { cls := .type "list", data := .seq ys k' } ∧ xs.size = N ∧ ys.size = N ∧
    ∀ (i : Nat) (h1 : i < xs.size) (h2 : i < ys.size), wpAny (model prog w) A.in1 (eqBool xs[i] ys[i]) (fun r s' => r = b i ∧ J s') E s
def allB (b : Nat → Bool) (i : Nat) : Nat → Bool
  | 0 => true
  | k + 1 => b i && allB b (i + 1) k
theorem loop_eqB (neg : Bool) (l m : Addr) (N : Nat) (b : Nat → Bool) (J : Shared → Prop) (hl : LsT prog w A (fun e s' => R (.error e) s') l m N b J) (k : Nat) :
    ∀ i : Nat, N - i = k → i ≤ N → (∀ s, J s → R (.ok (.ret (.bool (allB b i k != neg)))) s) → ∀ s, J s →
      wpAny (model prog w) A.in1 (Builtin.«list.__eq__.loop» ⟨[.ref l, .ref m, rawInt i, rawInt (opN neg)], []⟩) (GQ.FinOf prog w A R) (fun e s' => R (.error e) s') s := by
  induction k with
  | zero =>
    intro i hk hi fin s hJ
    obtain ⟨xs, ys, n, n2, hx, hy, sx, sy, _⟩ := hl _ hJ
    have hR := fin s hJ
    obtain ⟨hp, g, d, tk, os⟩ := s
    have nx : xs[((i : Nat) : Int).toNat]? = none := by simp; omega
    have ny : ys[((i : Nat) : Int).toNat]? = none := by simp; omega
    cases neg
    · wp_walk using wpAny_loadPart' hx, wpAny_loadPart' hy
      rw [nx, ny]
      wp_walk using wpAny_loadPart' hx, wpAny_loadPart' hy
      show R (.ok (.ret (.bool (xs.size == ys.size)))) _
      rw [sx, sy, beq_self_eq_true]
      exact hR
    · wp_walk using wpAny_loadPart' hx, wpAny_loadPart' hy
      rw [nx, ny]
      wp_walk using wpAny_loadPart' hx, wpAny_loadPart' hy
      show R (.ok (.ret (.bool (xs.size != ys.size)))) _
      rw [sx, sy, bne_self_eq_false]
      exact hR
  | succ k ih =>
    intro i hk hi fin s hJ
    obtain ⟨xs, ys, n, n2, hx, hy, sx, sy, turn⟩ := hl _ hJ
    have ix : i < xs.size := by omega
    have iy : i < ys.size := by omega
    have ht := turn i ix iy
    have gx : xs[((i : Nat) : Int).toNat]? = some xs[i] := by simp [ix]
    have gy : ys[((i : Nat) : Int).toNat]? = some ys[i] := by simp [iy]
    have go : ∀ (s2 : Shared), J s2 → b i = true → wpAny (model prog w) A.in1 (Builtin.«list.__eq__.loop» ⟨[.ref l, .ref m, rawInt (i + 1 : Nat), rawInt (opN neg)], []⟩) (GQ.FinOf prog w A R) (fun e s' => R (.error e) s') s2 := fun s2 j2 hb =>
      ih (i + 1) (by omega) (by omega) (fun s' j' => by
        have := fin s' j'
        rwa [allB, hb, Bool.true_and] at this) s2 j2
    have stop : ∀ (s2 : Shared), J s2 → b i = false → R (.ok (.ret (.bool neg))) s2 := fun s2 j2 hb => by
      have := fin s2 j2
      rw [allB, hb, Bool.false_and] at this
      cases neg <;> exact this
    obtain ⟨hp, g, d, tk, os⟩ := s
    cases neg
    · wp_walk using wpAny_loadPart' hx, wpAny_loadPart' hy
      rw [gx, gy]
      refine wpAny_bind (wpAny_mono ht (fun r s2 h2 => ?_) fun _ _ z => z)
      obtain ⟨hr, j2⟩ := h2
      cases hb : b i with
      | true =>
        rw [hb] at hr
        subst hr
        have nxt := go s2 j2 hb
        obtain ⟨hp2, g2, d2, tk2, os2⟩ := s2
        wp_walk
        rw [show ((i : Int) + 1) = ((i + 1 : Nat) : Int) by omega]
        refine ⟨plainId_quiet plain_eq_loop _, codeAny_builtin entry_eq_loop ?_⟩
        rw [Around.under_plainId plain_eq_loop _]
        exact nxt
      | false =>
        rw [hb] at hr
        subst hr
        have hR := stop s2 j2 hb
        obtain ⟨xs2, ys2, n3, n4, hx2, hy2, sx2, sy2, _⟩ := hl _ j2
        obtain ⟨hp2, g2, d2, tk2, os2⟩ := s2
        have hx3 : i < xs2.size := by omega
        have hy3 : i < ys2.size := by omega
        wp_walk using wpAny_loadPart' hx2, wpAny_loadPart' hy2
        rw [show xs2[((i : Nat) : Int).toNat]? = some xs2[i] by simp [hx3], show ys2[((i : Nat) : Int).toNat]? = some ys2[i] by simp [hy3]]
        wp_walk
        exact hR
    · wp_walk using wpAny_loadPart' hx, wpAny_loadPart' hy
      rw [gx, gy]
      refine wpAny_bind (wpAny_mono ht (fun r s2 h2 => ?_) fun _ _ z => z)
      obtain ⟨hr, j2⟩ := h2
      cases hb : b i with
      | true =>
        rw [hb] at hr
        subst hr
        have nxt := go s2 j2 hb
        obtain ⟨hp2, g2, d2, tk2, os2⟩ := s2
        wp_walk
        rw [show ((i : Int) + 1) = ((i + 1 : Nat) : Int) by omega]
        refine ⟨plainId_quiet plain_eq_loop _, codeAny_builtin entry_eq_loop ?_⟩
        rw [Around.under_plainId plain_eq_loop _]
        exact nxt
      | false =>
        rw [hb] at hr
        subst hr
        have hR := stop s2 j2 hb
        obtain ⟨xs2, ys2, n3, n4, hx2, hy2, sx2, sy2, _⟩ := hl _ j2
        obtain ⟨hp2, g2, d2, tk2, os2⟩ := s2
        have hx3 : i < xs2.size := by omega
        have hy3 : i < ys2.size := by omega
        wp_walk using wpAny_loadPart' hx2, wpAny_loadPart' hy2
        rw [show xs2[((i : Nat) : Int).toNat]? = some xs2[i] by simp [hx3], show ys2[((i : Nat) : Int).toNat]? = some ys2[i] by simp [hy3]]
        show wpAny _ _ (ret (.bool true)) _ _ _
        exact wpAny_pure hR
theorem list_neB (l m : Addr) (N : Nat) (b : Nat → Bool) (J : Shared → Prop) (hl : LsT prog w A (fun e s' => R (.error e) s') l m N b J) (fin : ∀ s, J s → R (.ok (.ret (.bool (!allB b 0 N)))) s) {s : Shared} (h : J s) :
    wpAny (model prog w) A.in1 (Builtin.«list.__ne__» ⟨[.ref l, .ref m], []⟩) (GQ.FinOf prog w A R) (fun e s' => R (.error e) s') s := by
  obtain ⟨xs, ys, n, n2, hx, hy, sx, sy, _⟩ := hl _ h
  have nxt := loop_eqB (A := A) (R := R) true l m N b J hl N 0 rfl (Nat.zero_le _) (fun s' j' => by
    have := fin s' j'
    rwa [show (allB b 0 N != true) = !allB b 0 N by cases allB b 0 N <;> rfl]) s h
  obtain ⟨hp, g, d, tk, os⟩ := s
  have f3 := AutoSeq1.sub_list_list
  have hne : ¬ (xs.size != ys.size) = true := by simp [sx, sy]
  wp_walk using wpAny_loadPart' hx, wpAny_loadPart' hy
  refine ⟨plainId_quiet plain_eq_loop _, codeAny_builtin entry_eq_loop ?_⟩
  rw [Around.under_plainId plain_eq_loop _]
  exact nxt
theorem list_neD (l m : Addr) (xs ys : Array Value) (n n2 : Nat) {s : Shared} (hx : s.heap.get? l = some { cls := .type "list", data := .seq xs n }) (hy : s.heap.get? m = some { cls := .type "list", data := .seq ys n2 }) (ne : xs.size ≠ ys.size) (fin : R (.ok (.ret (.bool true))) s) :
    wpAny (model prog w) A.in1 (Builtin.«list.__ne__» ⟨[.ref l, .ref m], []⟩) (GQ.FinOf prog w A R) (fun e s' => R (.error e) s') s := by
  obtain ⟨hp, g, d, tk, os⟩ := s
  have f3 := AutoSeq1.sub_list_list
  have hne : (xs.size != ys.size) = true := by simpa using ne
  wp_walk using wpAny_loadPart' hx, wpAny_loadPart' hy
  exact fin
end
end DL

end

section
set_option autoImplicit false
namespace DL
open PySem PySem.Spec PySem.SeqAt L2
open AutoSeq1 (wpAny_loadPart')
open MeetsSeq MeetsSeq2 MeetsSeq3 SeqRoads2
section
variable {prog : Program} {w : World} {A : Around} {R : Result → Shared → Prop}
end
end DL

end

section
set_option autoImplicit false
namespace DL
open PySem PySem.Spec L2
mutual
def Sh : D → D → Prop
  | .lst a, .lst b => ShL a b
  | .tup a, .tup b => ShL a b
  | .dct a, .dct b => ShK a b
  | .obj c a, .obj c' b => c = c' ∧ ShF a b
  | .int _, .int _ => True
  | .str _, .str _ => True
  | .bl _, .bl _ => True
  | .non, .non => True
  | _, _ => False
def ShL : List D → List D → Prop
  | a :: as, b :: bs => Sh a b ∧ ShL as bs
  | _, _ => True
def ShK : List (Key × D) → List (Key × D) → Prop
  | (_, a) :: as, (_, b) :: bs => Sh a b ∧ ShK as bs
  | _, _ => True
def ShF : List (Str × D) → List (Str × D) → Prop
  | (_, a) :: as, (_, b) :: bs => Sh a b ∧ ShF as bs
  | _, _ => True
end
section
variable {X : Cx} {pins : List (Addr × Obj)} {σ : L2.St} {H G : Hp} {s : Shared}
mutual
theorem Rep.inj (I : Inv X pins σ H s) (le : Le G H) : ∀ {u v : D} {x : V}, Rep X.K G u x → Rep X.K G v x → Sh u v → u = v
  | _, _, _, .non, r, h => by cases r <;> first | rfl | exact h.elim
  | _, _, _, .bl b, r, h => by cases r <;> first | rfl | exact h.elim
  | _, _, _, .int i, r, h => by cases r <;> first | rfl | exact h.elim
  | _, _, _, .str x, r, h => by cases r <;> first | rfl | exact h.elim
  | _, _, _, .lst e t, r, h => by
    cases r with
    | lst e' t' =>
      rw [e] at e'
      cases e'
      unfold Sh at h
      rw [RepL.inj I le t t' h]
    | _ => unfold Sh at h; exact h.elim
  | _, _, _, .tup e t, r, h => by
    cases r with
    | tup e' t' =>
      have z := I.tuple_inj (le.sqT e) (le.sqT e')
      subst z
      unfold Sh at h
      rw [RepL.inj I le t t' h]
    | _ => unfold Sh at h; exact h.elim
  | _, _, _, .dct e t, r, h => by
    cases r with
    | dct e' t' =>
      rw [e] at e'
      cases e'
      unfold Sh at h
      rw [RepK.inj I le t t' h]
    | _ => unfold Sh at h; exact h.elim
  | _, _, _, .obj e t, r, h => by
    cases r with
    | obj e' t' =>
      unfold Sh at h
      obtain ⟨rfl, h⟩ := h
      rw [e] at e'
      cases e'
      rw [RepF.inj I le t t' h]
    | _ => unfold Sh at h; exact h.elim
  | _, _, _, .hnd a, r, h => by unfold Sh at h; exact h.elim
  | _, _, _, .exc _ _, r, h => by unfold Sh at h; exact h.elim
  | _, _, _, .rol _ _, r, h => by unfold Sh at h; exact h.elim
theorem RepL.inj (I : Inv X pins σ H s) (le : Le G H) : ∀ {u v : List D} {x : List V}, RepL X.K G u x → RepL X.K G v x → ShL u v → u = v
  | _, _, _, .nil, r, _ => by
    cases r
    rfl
  | _, _, _, .cons r t, q, h => by
    cases q with
    | cons r' t' =>
      unfold ShL at h
      rw [Rep.inj I le r r' h.1, RepL.inj I le t t' h.2]
theorem RepK.inj (I : Inv X pins σ H s) (le : Le G H) : ∀ {u v : List (Key × D)} {x : List (Key × V)}, RepK X.K G u x → RepK X.K G v x → ShK u v → u = v
  | _, _, _, .nil, r, _ => by
    cases r
    rfl
  | _, _, _, .cons r t, q, h => by
    cases q with
    | cons r' t' =>
      unfold ShK at h
      rw [Rep.inj I le r r' h.1, RepK.inj I le t t' h.2]
theorem RepF.inj (I : Inv X pins σ H s) (le : Le G H) : ∀ {u v : List (Str × D)} {x : List (Str × V)}, RepF X.K G u x → RepF X.K G v x → ShF u v → u = v
  | _, _, _, .nil, r, _ => by
    cases r
    rfl
  | _, _, _, .cons r t, q, h => by
    cases q with
    | cons r' t' =>
      unfold ShF at h
      rw [Rep.inj I le r r' h.1, RepF.inj I le t t' h.2]
end
end
def EqX (Q : Str → D → D → Bool → Prop) : Nat → D → D → Bool → Prop
  | 0, u, v, r => flatD u = true ∧ flatD v = true ∧ r = eqD u v
  | k + 1, u, v, r => (flatD u = true ∧ flatD v = true ∧ r = eqD u v) ∨
      (∃ us vs, ((u = .lst us ∧ v = .lst vs) ∨ (u = .tup us ∧ v = .tup vs)) ∧ us.length = vs.length ∧ ∃ b : Nat → Bool, r = allB b 0 us.length ∧ ∀ i x y, us[i]? = some x → vs[i]? = some y → EqX Q k x y (b i)) ∨
      (∃ us vs, u = .lst us ∧ v = .lst vs ∧ us.length ≠ vs.length ∧ r = false) ∨
      (∃ c fs gs, u = .obj c fs ∧ v = .obj c gs ∧ Q c u v r ∧ Sh u v ∧ (u = v → r = true)) ∨
      (∃ ks ls, u = .dct ks ∧ v = .dct ls ∧ (ks.all fun q => flatD q.2) = true ∧ (ls.all fun q => flatD q.2) = true ∧ r = (ks.length == ls.length && eqKD ks ls) ∧ Sh u v ∧ (u = v → r = true))
section
variable {X : Cx} {pins : List (Addr × Obj)} {σ : L2.St} {H G : Hp} {s : Shared} {Q : Str → D → D → Bool → Prop}
end
end DL

end

section
set_option autoImplicit false
namespace DL
open PySem PySem.Spec PySem.SeqAt L2
section
variable {prog : Program} {w : World} {A : Around} {E : Value → Shared → Prop} {s : Shared} {l m : Addr} {N : Nat} {b : Nat → Bool} {Q : Value → Shared → Prop} {xs ys : Array Value} {n n2 : Nat}
theorem rc_neB (hu : A.units < cLine) (J : Shared → Prop) (hl : LsT prog w A E l m N b J) (fin : ∀ s, J s → Q (.bool (!allB b 0 N)) s) (h : J s) : wpAny (model prog w) A (richCompare .NotEq (.ref l) (.ref m)) Q E s := by
  obtain ⟨xs, ys, n, n2, hx, hy, _⟩ := hl _ h
  exact wpAny_richCompare_same_room (op := .NotEq) ⟨_, hx, rfl⟩ ⟨_, hy, rfl⟩ F.slot_list_ne (GQ.call_here F.slot_list_ne ⟨_, hx, rfl⟩ F.entry_list_ne (F.args_list_ne_2 _ _)
    (list_neB (R := wants (fun v s' => v ≠ .notImplemented ∧ Q v s') E) l m N b J hl (fun s' q => ⟨(fun z => nomatch z), fin s' q⟩) h)) hu
theorem rc_neD (hu : A.units < cLine) (hx : s.heap.get? l = some { cls := .type "list", data := .seq xs n }) (hy : s.heap.get? m = some { cls := .type "list", data := .seq ys n2 }) (ne : xs.size ≠ ys.size) (fin : Q (.bool true) s) : wpAny (model prog w) A (richCompare .NotEq (.ref l) (.ref m)) Q E s :=
  wpAny_richCompare_same_room (op := .NotEq) ⟨_, hx, rfl⟩ ⟨_, hy, rfl⟩ F.slot_list_ne (GQ.call_here F.slot_list_ne ⟨_, hx, rfl⟩ F.entry_list_ne (F.args_list_ne_2 _ _)
    (list_neD (R := wants (fun v s' => v ≠ .notImplemented ∧ Q v s') E) l m xs ys n n2 hx hy ne ⟨(fun z => nomatch z), fin⟩)) hu
end
section
variable {X : Cx} {W : WX} {Q : Str → D → D → Bool → Prop} {n0 : Nat}
theorem Le.ext {G H H' : Hp} (h : Le G H) (e : Ext H H') : Le G H' := .of_same fun a o z => e a o (h.get z)
variable {a b : Expr} {δa δb : DE} {pos : Pos}
def dEqX (Q : Str → D → D → Bool → Prop) (neg : Bool) (a b : DE) : DE := fun x ρ n q => a x ρ n fun u n1 => b x ρ n1 fun v n2 => ∃ us vs r, u = .lst us ∧ v = .lst vs ∧ EqX Q 4 u v r ∧ q (.bl (r != neg)) n2
end
end DL

end

section
set_option autoImplicit false
namespace DL
open PySem PySem.Spec PyProof.Rows L2
section
variable {X : Cx} {tg : Expr}
end
def iRB (a : DA) : DI := fun x ρ n q => a x ρ n fun ds n1 => match ds with
  | [.int i, .int j] => q (rngD i (j - i).toNat) n1
  | _ => False
section
variable {X : Cx} {W : WX} {tg a b : Expr} {α' : DA} {p pos : Pos}
end
end DL

end

section
set_option autoImplicit false
namespace DL
open PySem PySem.Spec L2
def obsP (as : List Addr) (fa : List He.Fa) (fn : List He.DefD) (cf : List He5.DefA) (tf : List He.Defn) (ex : PySem.W.Frag → Bool) (g : Addr → Option Obj) : AlN := (fun K => (He.obsD fa fn K, He5.obsA [] cf K, ex K && He.tabsB g tf K)) (He.frT g as)
theorem saysP_of {as : List Addr} {fa : List He.Fa} {fn : List He.DefD} {cf : List He5.DefA} {tf : List He.Defn} {ex : PySem.W.Frag → Bool} {h : Heap} (e : obsP as fa fn cf tf ex h.get? = (He.valD fn, He5.valA cf, true)) : SaysN fa fn cf tf ex h (He.frT h.get? as) := by
  have e2 : He5.obsA [] cf (He.frT h.get? as) = He5.valA cf := congrArg (fun z : AlN => z.2.1) e
  obtain ⟨m, t⟩ := He.ba (congrArg (fun z : AlN => z.2.2) e)
  refine ⟨congrArg Prod.fst e, e2, m, fun p hp => ?_⟩
  obtain ⟨t1, t2⟩ := He.ba (List.all_eq_true.mp t p hp)
  cases q : h.get? (He.cT (He.frT h.get? as) p).2 with
  | none => rw [q] at t2; cases t2
  | some o =>
    rw [q] at t2
    exact ⟨t1, He.frT_none q t2, by rw [He.emptyTab_eq t2]⟩
def hookP (as : List Addr) (fa : List He.Fa) (fn : List He.DefD) (cf : List He5.DefA) (tf : List He.Defn) (ex : PySem.W.Frag → Bool) : PySem.W.Hook where
  α := AlN
  obs := fun s => obsP as fa fn cf tf ex s.heap.get?
  val := fun _ => (He.valD fn, He5.valA cf, true)
  says := fun _ h => ∃ K : PySem.W.Frag, K.In h ∧ SaysN fa fn cf tf ex h K
  of := fun _ _ e => ⟨_, He.frT_in, saysP_of e⟩
  keeps := fun _ _ _ ⟨K, hK, c⟩ k => ⟨K, PySem.W.Frag.In.keeps hK k, c.d, c.cm, c.more, fun p hp => ⟨(c.tabs p hp).1, (c.tabs p hp).2.1, k _ _ (c.tabs p hp).2.2⟩⟩
theorem obsP_eq {as : List Addr} {fa : List He.Fa} {fn : List He.DefD} {cf : List He5.DefA} {tf : List He.Defn} {ex : PySem.W.Frag → Bool} {g : Addr → Option Obj} {s : Shared} (h : ∀ a, g a = s.heap.get? a) : obsP as fa fn cf tf ex g = (hookP as fa fn cf tf ex).obs s := by
  obtain rfl : g = s.heap.get? := funext h
  rfl
theorem obsP_join {as : List Addr} {fa : List He.Fa} {fn : List He.DefD} {cf : List He5.DefA} {tf : List He.Defn} {ex : PySem.W.Frag → Bool} {g : Addr → Option Obj} (m : Nat) (h1 : He.obsD fa (fn.take m) (He.frT g as) = He.valD (fn.take m)) (h2 : He.obsD [] (fn.drop m) (He.frT g as) = He.valD (fn.drop m))
    (h3 : (He5.obsA [] cf (He.frT g as), ex (He.frT g as) && He.tabsB g tf (He.frT g as)) = (He5.valA cf, true)) : obsP as fa fn cf tf ex g = (He.valD fn, He5.valA cf, true) := by
  have e : He.obsD fa fn (He.frT g as) = He.valD fn := by
    have t1 := congrArg Prod.fst h1
    have t2 := congrArg Prod.snd h1
    have t3 := congrArg Prod.fst h2
    have t4 := congrArg Prod.snd h2
    simp only [He.obsD, He.valD, List.all_nil, Bool.true_and, Bool.and_eq_true] at t1 t2 t3 t4
    unfold He.obsD He.valD
    have e1 : (fn.all fun d => d.ok (He.frT g as)) = true := by
      rw [← List.take_append_drop m fn, List.all_append, t1.2, t3]; rfl
    have e2 : (fn.map fun d => He.fnW (He.frT g as) d.at_) = fn.map He.DefD.val := by
      rw [← List.take_append_drop m fn, List.map_append, List.map_append, t2, t4]
    rw [e1, e2, t1.1]; rfl
  have e2 := congrArg Prod.fst h3
  have e3 := congrArg Prod.snd h3
  dsimp only at e2 e3
  unfold obsP
  dsimp only
  rw [e, e2, e3]
theorem mapP {α β γ δ ε : Type} {o : Option α} {f : α → β} {g : α → γ} {h : α → δ} {k : α → ε} {a : β} {b : γ} {c : δ} {e : ε} (h1 : o.map f = some a) (h2 : o.map g = some b) (h3 : o.map h = some c) (hk : ∀ s, f s = a → g s = b → h s = c → k s = e) : o.map k = some e := by
  cases o with
  | none => exact nomatch h1
  | some s => exact congrArg some (hk s (Option.some.inj h1) (Option.some.inj h2) (Option.some.inj h3))
end DL

end

section
set_option autoImplicit false
namespace DL
open PySem PySem.Spec L2
def dIns (i : Nat) (δk δv : DE) : DS := fun E ρ n => match ρ[i]? with
  | some (some (.own (.lst ds))) => δk (E.xx ρ) ρ n fun k n1 => δv (E.xx ρ) ρ n1 fun d n2 => (match k with
    | .int z => ds.length < 16777216 ∧ 0 ≤ z ∧ z < 2 ^ 63 ∧ E.nx (ρ.set i (some (.own (.lst (ds.take z.toNat ++ [d] ++ ds.drop z.toNat))))) n2
    | _ => False)
  | _ => False
def dSwap (i : Nat) (δj δk δ : DE) : DS := fun E ρ n => match ρ[i]? with
  | some (some (.own (.lst ds))) => δ (E.xx ρ) ρ n fun d n1 => (match d with
    | .tup [u, v] => δj (E.xx ρ) ρ n1 fun a n2 => (match a with
      | .int z => opt (ixN ds.length z) fun j => δk (E.xx (ρ.set i (some (.own (.lst (ds.set j u)))))) (ρ.set i (some (.own (.lst (ds.set j u))))) n2 fun b n3 => (match b with
        | .int z2 => opt (ixN ds.length z2) fun j2 => E.nx (ρ.set i (some (.own (.lst ((ds.set j u).set j2 v))))) n3
        | _ => False)
      | _ => False)
    | _ => False)
  | _ => False
section
variable {X : Cx} {W : WX} {e k k2 : Expr} {δ δk δj δv : DE} {pos pos' apos cpos p1 p2 a1 a2 pt : Pos} {x : Str}
end
end DL

end

section
set_option autoImplicit false
namespace DL
open PySem PySem.Spec L2
def isLL (ds : List D) : Prop := ∀ e ∈ ds, ∃ l, e = .lst l
def rowLike : D → Prop
  | .lst (x :: xs) => ∀ y ∈ x :: xs, ∃ kvs, y = .dct kvs ∧ (kvs.all fun q => flatD q.2) = true
  | _ => False
def delG (G : Hp) (a : Addr) : Hp := fun b => if b = a then none else G b
theorem delG_ne {G : Hp} {a b : Addr} (h : b ≠ a) : delG G a b = G b := if_neg h
section
variable {K : PySem.W.Frag} {G G' : Hp}
theorem Rep.flatG {d : D} {v : V} (h : flatD d = true) (r : Rep K G d v) : Rep K G' d v := by
  cases r with
  | non => exact .non
  | bl b => exact .bl b
  | int i => exact .int i
  | str x => exact .str x
  | _ => cases h
theorem RepK.flatG : ∀ {ks : List (Key × D)} {ws : List (Key × V)}, RepK K G ks ws → (ks.all fun q => flatD q.2) = true → RepK K G' ks ws
  | _, _, .nil, _ => .nil
  | _, _, .cons r t, h => by
    rw [List.all_cons, Bool.and_eq_true_iff] at h
    exact .cons (r.flatG h.1) (RepK.flatG t h.2)
end
theorem RelB.freezeL {B : Bs} {σ : St} {H : Hp} {ρ : Env} {n : Nat} {G : Hp} {α : Nat → Addr} (R : RelB B σ H ρ n G α) {i : Nat} {ds : List D} (h : ρ[i]? = some (some (.own (.lst ds)))) :
    ∃ vs, H (α i) = some (.lst vs) ∧ RepL B.K G ds vs ∧ RelB B σ H (ρ.set i (some (.val (.lst ds)))) n (upd G (α i) (.lst vs)) α := by
  obtain ⟨e1, hg, h0, nr, vs, hH, rl⟩ := R.own i _ h
  have il : i < ρ.length := (List.getElem?_eq_some_iff.mp h).1
  have l2 : Le G (upd G (α i) (.lst vs)) := .of_same fun b u q => by rw [upd_ne (ne_of_none q hg)]; exact q
  have l1 : Le (upd G (α i) (.lst vs)) H := fun b u q => by
    by_cases z : b = α i
    · subst z
      rw [upd_same] at q
      cases q
      exact ⟨_, hH, rfl⟩
    · rw [upd_ne z] at q
      exact R.le b u q
  refine ⟨vs, hH, rl, R.st.frozen h0 nr (fun _ _ => rfl) l1 l2, fun a q => ?_, R.J, by rw [List.length_set, R.len], fun j e hj => ?_, fun j e hj => ?_, fun j k e f hj hk => R.inj j k e f (set_val_own hj) (set_val_own hk), fun a e h h' => R.p0 a e h (set_val_own h'), R.gh.frz h (fun _ _ => rfl) (fun b ne => upd_ne ne) l2⟩
  · rw [upd_ne (fun z : a = α i => nr (z ▸ q))]
    exact R.rg a q
  · rw [List.getElem?_set] at hj
    by_cases z : i = j
    · subst z
      rw [if_pos rfl, if_pos il] at hj
      injection hj with hj; injection hj with hj; injection hj with hj
      subst hj
      exact ⟨_, e1, .lst upd_same (rl.mono l2)⟩
    · rw [if_neg z] at hj
      obtain ⟨v, h1, h2⟩ := R.val j e hj
      exact ⟨v, h1, h2.mono l2⟩
  · rw [List.getElem?_set] at hj
    by_cases z : i = j
    · subst z
      rw [if_pos rfl, if_pos il] at hj
      injection hj with hj; injection hj with hj; cases hj
    · rw [if_neg z] at hj
      obtain ⟨h1, h2, h3, h4, h5⟩ := R.own j e hj
      have ne : α j ≠ α i := fun q => z (R.inj i j _ e h hj q.symm)
      exact ⟨h1, by rw [upd_ne ne]; exact h2, h3, h4, h5.mono l2 fun _ q => q⟩
def dSetT (k i : Nat) (δ : DE) : DS := fun E ρ n => match ρ[i]? with
  | some (some (.own (.lst ds))) => isLL ds ∧ δ (x0 E.w) (ρ.set i (some (.val (.lst ds)))) n fun d n1 => rowLike d ∧ E.nx (ρ.set k (some (.val d))) n1
  | _ => False
section
variable {X : Cx} {W : WX} {e : Expr} {δ : DE} {pos pos' : Pos} {x : Str}
end
end DL

end

section
set_option autoImplicit false
namespace DL
open PySem PySem.Spec L2 PyProof.Rows
section
variable {X : Cx} {W : WX} {a : Addr} {oe : Obj} {cls : Value} {d : Option Addr} {pn : List (Addr × Obj)} {e : Expr} {δ : DE} {C f : Str} {pos : Pos}
end
theorem RelB.caught {B : Bs} {σ : L2.St} {H : Hp} {ρ : Env} {n : Nat} {G : Hp} {α : Nat → Addr} (R : RelB B σ H ρ n G α) {dd : Addr} {ws : List (Str × V)} {c : Str} {fs : List (Str × D)} (n0 : B.H0 dd = none) (nr : ¬ B.W.rg dd) (hd : H dd = some (.xd ws)) (rf : RepF B.K G fs ws) (i : Nat) (a : Addr) :
    ∃ G', RelB B (σ.set i (some (.ref a))) H (ρ.set i (some (.val (.exc a dd c fs)))) n G' α := by
  have le : Le G (upd G dd (.xd ws)) := fun b o e => by
    by_cases z : b = dd
    · subst z
      have := R.le.get e
      rw [hd] at this
      cases this
      exact ⟨_, upd_same, rfl⟩
    · exact ⟨o, by rw [upd_ne z]; exact e, rfl⟩
  have R' : RelB B σ H ρ n (upd G dd (.xd ws)) α := by
    refine ⟨⟨R.st.fr, R.st.le.trans le, fun b o e => ?_, fun b e => ?_⟩, fun b r => ?_, R.J, R.len, fun j d e => ?_, fun j d e => ?_, R.inj, R.p0, R.gh.of rfl rfl rfl rfl (fun _ _ _ e => ⟨e, fun _ h => h⟩) (fun _ d e => .inl ⟨d, e, rfl⟩) (fun i r gs e g hm h1 _ _ => ⟨?_, fun _ q => q⟩) le⟩
    · by_cases z : b = dd
      · subst z
        rw [upd_same] at e
        cases e
        exact ⟨_, hd, rfl⟩
      · rw [upd_ne z] at e; exact R.le b o e
    · by_cases z : b = dd
      · exact .inr (z ▸ ⟨n0, nr⟩)
      · rw [upd_ne z] at e; exact R.st.new b e
    · rw [upd_ne (fun z : b = dd => nr (z ▸ r))]; exact R.rg b r
    · obtain ⟨v, h1, h2⟩ := R.val j d e
      exact ⟨v, h1, h2.mono le⟩
    · obtain ⟨h1, h2, h3, h4, h5⟩ := R.own j d e
      refine ⟨h1, ?_, h3, h4, h5.mono le fun _ q => q⟩
      rw [upd_ne fun z => ?_]
      · exact h2
      · rw [z] at h5
        cases d with
        | lst ds => obtain ⟨_, q, _⟩ := h5; rw [hd] at q; cases q
        | dct ds => obtain ⟨_, q, _⟩ := h5; rw [hd] at q; cases q
        | obj c fs => obtain ⟨_, _, q, _⟩ := h5; rw [hd] at q; cases q
        | _ => exact h5.elim
    · rw [upd_ne fun z => ?_]
      · exact h1
      · have h5 := (R.gh.at_ i r gs e g hm).2.2.2
        rw [z] at h5
        obtain ⟨u, d⟩ := g
        cases d with
        | lst ds => obtain ⟨_, q, _⟩ := h5; rw [hd] at q; cases q
        | dct ds => obtain ⟨_, q, _⟩ := h5; rw [hd] at q; cases q
        | obj c fs => obtain ⟨_, _, q, _⟩ := h5; rw [hd] at q; cases q
        | _ => exact h5.elim
  exact ⟨_, R'.set i (.exc upd_same (rf.mono le))⟩
abbrev Cl3 : Type := Value × Option Nat × (Addr → Value → Option Addr → TS)
def endA (D : Ends) : Option Nat → Ends
  | none => D
  | some i => { nx := fun τ Z => D.nx (τ.set i none) Z, rt := D.rt, bk := fun τ Z => D.bk (τ.set i none) Z, ct := fun τ Z => D.ct (τ.set i none) Z }
def slotA (σ : L2.St) (a : Addr) : Option Nat → L2.St
  | none => σ
  | some i => σ.set i (some (.ref a))
def wishA (K : PySem.W.Frag) (Wo : WX) (D : Ends) : List Cl3 → WX
  | [] => Wo
  | (c, oi, ts) :: r => fun cl d σ H => ∃ b, PySem.W.exmOne K cl c = some b ∧ (b = true → ∀ a, H a = none → ts a cl d (endA D oi) (slotA σ a oi) H) ∧ (b = false → wishA K Wo D r cl d σ H)
inductive ClsA (X : Cx) : List ExceptHandler → List Cl3 → Prop
  | nil : ClsA X [] []
  | plain {x : Str} {c : Value} {ts : Addr → Value → Option Addr → TS} {s0 : Stmt} {su : List Stmt} {p1 p2 : Pos} {hs : List ExceptHandler} {l : List Cl3} (hc : Names X x c)
      (hsu : ∀ (a : Addr) (ob : Obj) (cl : Value) (d : Option Addr) (pn : List (Addr × Obj)), Zc cl d ob → (∃ us, ob.data = .fields us) → PSs (X.suite a ((a, ob) :: pn)) (s0 :: su) (ts a cl d)) (r : ClsA X hs l) :
      ClsA X (.ExceptHandler (some (.Name x p1)) none (s0 :: su) p2 :: hs) ((c, none, ts) :: l)
  | named {x y : Str} {i : Nat} {c : Value} {ts : Addr → Value → Option Addr → TS} {s0 : Stmt} {su : List Stmt} {p1 p2 : Pos} {hs : List ExceptHandler} {l : List Cl3} (hN : X.N.Nodup) (hi : X.N[i]? = some y) (hy : X.env.kindOf y = some .local) (hc : Names X x c)
      (hsu : ∀ (a : Addr) (ob : Obj) (cl : Value) (d : Option Addr) (pn : List (Addr × Obj)), Zc cl d ob → (∃ us, ob.data = .fields us) → PSs (X.suite a ((a, ob) :: pn)) (s0 :: su) (ts a cl d)) (r : ClsA X hs l) :
      ClsA X (.ExceptHandler (some (.Name x p1)) (some y) (s0 :: su) p2 :: hs) ((c, some i, ts) :: l)
section
variable {X : Cx} {bd : List Stmt} {k0 : ExceptHandler} {ks : List ExceptHandler} {l : List Cl3} {pos : Pos} {tb : WX → TS} {Wo : WX}
theorem ps_tryA (eS : X.stack = X.env :: X.outer) (eF : X.env.frame = some X.env.locals) (tk : Takes X Wo)
    (hb : ∀ (W1 : WX) (pn : List (Addr × Obj)) (z : Value → Shared → Prop), Takes (X.tr pn z) W1 → PassesOwn (model X.prog X.w) X.A X.env z → PSs (X.tr pn z) bd (tb W1))
    (hk : ClsA X (k0 :: ks) l) : PS X (.Try bd (k0 :: ks) [] [] pos) (fun D σ H => tb (wishA X.K Wo D l) D σ H) := by
  refine ⟨fun pp s σ H D I hw => ?_⟩
  have okX := I.ok
  have eA : X.A.frames = some (X.env :: X.outer) := okX.frames.trans (congrArg some eS)
  refine wpAny_Try_except (wpAny_mono ((hb (wishA X.K Wo D l) (X.pn ++ pp) (fun e t1 => wpAny (model X.prog X.w) X.A (noteFrame e X.env) (fun _ t2 => wpAny (model X.prog X.w) X.A (setFlight e none) (fun _ t3 =>
    wpAny (model X.prog X.w) X.A (handleBy e X.env (k0 :: ks)) (SP X pp D) X.xe t3) X.xe t2) X.xe t1) (fun u t' xx => ?_) PassesOwn.looking).run [] s σ H D (I.toTry _) hw) (fun fl t1 hs1 => ?_) (fun e t1 he => he))
  · obtain ⟨a, Bg, sI, p2, τ, Z, cl, d, rfl, J0, nb, up, sk, na, os, ag, ww⟩ := xx
    have J : Inv X pp τ Z sI := J0.ofTry okX
    rw [eS] at sk
    refine (Sky.land Zc.steady eA eF sk fun g3 f3 u3 => ?_ : wpAny (model X.prog X.w) X.A (noteFrame (.ref a) X.env) _ _ _)
    have J3 : Inv X pp τ Z { t' with heap := g3 } := J.landed nb f3.1 (up.trans u3) os ag
    obtain ⟨o3, us3, q3, z3, v3⟩ := f3.there
    have off : a ∉ frs (X.env :: X.outer) := fun hm => by
      obtain ⟨_, o', e', hnf⟩ := f3.2.2.1.mem hm
      exact hnf _ (by rw [q3] at e'; cases e'; exact v3)
    have nL : a ≠ X.env.locals := fun z => off (List.mem_filterMap.mpr ⟨X.env, List.mem_cons_self, by rw [eF, z]⟩)
    have nF : a ∉ X.fs := fun mem => by obtain ⟨en, hen, qen⟩ := List.mem_filterMap.mp mem; exact off (List.mem_filterMap.mpr ⟨en, List.mem_cons_of_mem _ hen, qen⟩)
    have S3 := J3.suite q3 v3 na nL nF
    have LT : PySem.W.Looks (model X.prog X.w) g3 (typeOf (.ref a)) cl := fun _ _ _ _ kk q => wpAny_typeOf_ref (kk _ _ q3) (by rw [z3.1]; exact q)
    have tst : ∀ {x : Str} {c : Value} {p1 : Pos} {Q : Value → Shared → Prop} {E : Value → Shared → Prop}, Names X x c → Q c { t' with heap := g3 } → wpAny (model X.prog X.w) (X.A.mark (some (.ref a))) (eval (.Name x p1) X.env) Q E { t' with heap := g3 } := fun {x c p1 Q E} hc q => by
      obtain ⟨hg, hd, hm | ⟨hm, hv, hn⟩⟩ := hc
      · exact ld_glob (X := X.suite a ((a, o3) :: (X.pn ++ pp))) S3 hg hm q hd
      · exact ld_blt (X := X.suite a ((a, o3) :: (X.pn ++ pp))) S3 hg hm hv q hn hd
    have run : ∀ {hs : List ExceptHandler} {l : List Cl3}, ClsA X hs l → wishA X.K Wo D l cl d τ Z → wpAny (model X.prog X.w) X.A (handleBy (.ref a) X.env hs) (SP X pp D) X.xe { t' with heap := g3 } := by
      intro hs l hk
      induction hk with
      | nil =>
        intro w1
        refine wpAny_handleBy_nil ?_
        obtain ⟨k1, k2, k3, ob, us, T, oT, ts', he, hz, hv, h1, hr⟩ := id f3
        unfold PySem.passOn
        refine wpAny_bind (wpAny_field he hv h1 ?_)
        rw [if_neg (by simp : ¬ ((Value.ref T == Value.none) = true))]
        have fin : wpAny (model X.prog X.w) X.A (setFlight (.ref a) X.env.frame) (fun _ t4 => wpAny (model X.prog X.w) X.A (throw (.ref a) : Sem Flow) (SP X pp D) X.xe t4) X.xe { t' with heap := g3 } := by
          rw [eF]
          exact HandSPX.setFlight_upZ f3 fun g4 x4 u4 => wpAny_throw (tk _ _ ⟨a, Bg, sI, pp, τ, Z, cl, d, rfl, J, nb, (up.trans u3).trans u4, .inr (.inr (by rw [eS]; exact x4)), na, os, ag, w1⟩)
        first
          | exact wpAny_bind <| wpAny_pure <| wpAny_bind fin
          | exact wpAny_bind fin
      | @plain x c ts s0 su p1 p2 hs2 l2 hc hsu r ih =>
        intro w1
        obtain ⟨b, hb1, hy, hn⟩ := w1
        refine wpAny_handleBy_cons (codeAny_handlers_test (tst hc ((PySem.W.exm_one (M := model X.prog X.w) J3.kIn LT hb1).here ?_))) (fun q => nomatch q)
        cases b with
        | false => exact ih (hn rfl)
        | true =>
          refine codeAny_handlers_suite (HandSPX.lands_againZ f3 fun g4 f4 u4 => ?_)
          have J4 : Inv X pp τ Z { t' with heap := g4 } := J.landed nb f4.1 ((up.trans u3).trans u4) os ag
          obtain ⟨o4, us4, q4, z4, v4⟩ := f4.there
          refine wpAny_mono ((hsu a o4 cl d (X.pn ++ pp) z4 ⟨_, v4⟩).run [] _ _ Z _ (J4.suite q4 v4 na nL nF) (hy rfl a na)) (fun fl t6 hs6 => ?_) (fun _ _ z => False.elim z)
          cases fl with
          | next => obtain ⟨τ6, Z6, S6, q6⟩ := hs6; exact ⟨_, _, S6.unsuite okX, q6⟩
          | brk => obtain ⟨τ6, Z6, S6, q6⟩ := hs6; exact ⟨_, _, S6.unsuite okX, q6⟩
          | cont => obtain ⟨τ6, Z6, S6, q6⟩ := hs6; exact ⟨_, _, S6.unsuite okX, q6⟩
          | ret u => obtain ⟨v6, τ6, Z6, S6, r6, q6⟩ := hs6; exact ⟨_, _, _, S6.unsuite okX, r6, q6⟩
      | @named x y i c ts s0 su p1 p2 hs2 l2 hN hi hyl hc hsu r ih =>
        intro w1
        obtain ⟨b, hb1, hy, hn⟩ := w1
        refine wpAny_handleBy_cons (codeAny_handlers_test (tst hc ((PySem.W.exm_one (M := model X.prog X.w) J3.kIn LT hb1).here ?_))) (fun q => nomatch q)
        cases b with
        | false => exact ih (hn rfl)
        | true =>
          refine codeAny_handlers_suite_as (HandSPX.lands_againZ f3 fun g4 f4 u4 => ?_)
          have J4 : Inv X pp τ Z { t' with heap := g4 } := J.landed nb f4.1 ((up.trans u3).trans u4) os ag
          obtain ⟨o4, us4, q4, z4, v4⟩ := f4.there
          refine store_ok (X := X.suite a ((a, o4) :: (X.pn ++ pp))) (v := .ref a) (J4.suite q4 v4 na nL nF) hN hi (.inl hyl) rfl (fun t5 S5 => ?_) (.inr hyl)
          refine wpAny_mono ((hsu a o4 cl d (X.pn ++ pp) z4 ⟨_, v4⟩).run [] t5 _ Z _ S5 (hy rfl a na)) (fun fl t6 hs6 => ?_) (fun _ _ z => False.elim z)
          have bye : ∀ {τ6 : L2.St} {Z6 : Hp} {Q : Shared → Prop}, Inv (X.suite a ((a, o4) :: (X.pn ++ pp))) [] τ6 Z6 t6 → (∀ t7, Inv X pp (τ6.set i none) Z6 t7 → Q t7) →
              wpAny (model X.prog X.w) X.A (do bindName X.env y .none; unbindBehindTheSuite X.env y p2) (fun _ t7 => Q t7) X.xe t6 := fun {τ6 Z6 Q} S6 hq => gone_ok (S6.unsuite okX) hN hi hyl hq
          cases fl with
          | next => obtain ⟨τ6, Z6, S6, q6⟩ := hs6; exact bye S6 fun t7 J7 => ⟨_, _, J7, q6⟩
          | brk => obtain ⟨τ6, Z6, S6, q6⟩ := hs6; exact bye S6 fun t7 J7 => ⟨_, _, J7, q6⟩
          | cont => obtain ⟨τ6, Z6, S6, q6⟩ := hs6; exact bye S6 fun t7 J7 => ⟨_, _, J7, q6⟩
          | ret u => obtain ⟨v6, τ6, Z6, S6, r6, q6⟩ := hs6; exact bye S6 fun t7 J7 => ⟨_, _, _, J7, r6, q6⟩
    exact run hk ww
  · cases fl with
    | next => obtain ⟨τ, Z, J', q⟩ := hs1; exact wpAny_execs_nil ⟨τ, Z, J'.ofTry okX, q⟩
    | brk => obtain ⟨τ, Z, J', q⟩ := hs1; exact ⟨τ, Z, J'.ofTry okX, q⟩
    | cont => obtain ⟨τ, Z, J', q⟩ := hs1; exact ⟨τ, Z, J'.ofTry okX, q⟩
    | ret u => obtain ⟨v, τ, Z, J', r, q⟩ := hs1; exact ⟨v, τ, Z, J'.ofTry okX, r, q⟩
end
end DL

end

section
set_option autoImplicit false
namespace DL
open PySem PySem.Spec L2
abbrev Cl4 : Type := Str × Option Nat × (Addr → Value → Option Addr → DS)
def noX (E : DEnds) : DEnds := { E with ex := fun _ _ _ => False }
def ends1 (E : DEnds) (i : Nat) : DEnds := { noX E with nx := fun ρ n => E.nx (ρ.set i none) n, bk := fun ρ n => E.bk (ρ.set i none) n, ct := fun ρ n => E.ct (ρ.set i none) n }
def clsD (sub : Str → Str → Bool) (K : PySem.W.Frag) (E : DEnds) : List Cl4 → Xn → Env → Nat → Prop
  | [], e, ρ, n => E.ex e ρ n
  | (c, none, s) :: r, e, ρ, n => if sub e.1 c = true then ∀ a cl d, s a cl d (noX E) ρ n else clsD sub K E r e ρ n
  | (c, some i, s) :: r, e, ρ, n => if sub e.1 c = true then e.2 ≠ [] ∧ ∀ a dd, s a (.ref (ca K e.1)) (some dd) (ends1 E i) (ρ.set i (some (.val (.exc a dd e.1 e.2)))) n else clsD sub K E r e ρ n
def dTryA (XS : List Str) (sub : Str → Str → Bool) (K : PySem.W.Frag) (l : List Cl4) (b : DS) : DS := fun E ρ n => b { E with ex := fun e ρ' n' => e.1 ∈ XS ∧ clsD sub K E l e ρ' n' } ρ n
inductive ClsD (X : Cx) : List ExceptHandler → List Cl4 → Prop
  | nil : ClsD X [] []
  | plain {c : Str} {s : Addr → Value → Option Addr → DS} {s0 : Stmt} {su : List Stmt} {p1 p2 : Pos} {hs : List ExceptHandler} {l : List Cl4} (hc : Names X c (.ref (ca X.K c)))
      (hsu : ∀ (a : Addr) (oe : Obj) (cls : Value) (d : Option Addr) (pn : List (Addr × Obj)), Zc cls d oe → (∃ us, oe.data = .fields us) → PSsD (X.suite a ((a, oe) :: pn)) W0 (s0 :: su) (s a cls d)) (r : ClsD X hs l) :
      ClsD X (.ExceptHandler (some (.Name c p1)) none (s0 :: su) p2 :: hs) ((c, none, s) :: l)
  | named {c y : Str} {i : Nat} {s : Addr → Value → Option Addr → DS} {s0 : Stmt} {su : List Stmt} {p1 p2 : Pos} {hs : List ExceptHandler} {l : List Cl4} (hi : X.N[i]? = some y) (hy : X.env.kindOf y = some .local) (hc : Names X c (.ref (ca X.K c)))
      (hsu : ∀ (a : Addr) (oe : Obj) (cls : Value) (d : Option Addr) (pn : List (Addr × Obj)), Zc cls d oe → (∃ us, oe.data = .fields us) → PSsD (X.suite a ((a, oe) :: pn)) W0 (s0 :: su) (s a cls d)) (r : ClsD X hs l) :
      ClsD X (.ExceptHandler (some (.Name c p1)) (some y) (s0 :: su) p2 :: hs) ((c, some i, s) :: l)
def trs (K : PySem.W.Frag) (l : List Cl4) : List Cl3 := l.map fun z => (.ref (ca K z.1), z.2.1, fun a cl d => sOf K W0 (z.2.2 a cl d))
theorem ClsD.clsA {X : Cx} (hN : X.N.Nodup) {hs : List ExceptHandler} {l : List Cl4} (h : ClsD X hs l) : ClsA X hs (trs X.K l) := by
  induction h with
  | nil => exact .nil
  | plain hc hsu _ ih => exact .plain hc (fun a oe cl d pn z v => (hsu a oe cl d pn z v).pss) ih
  | named hi hy hc hsu _ ih => exact .named hN hi hy hc (fun a oe cl d pn z v => (hsu a oe cl d pn z v).pss) ih
theorem RelB.gone {B : Bs} {σ : L2.St} {H : Hp} {ρ : Env} {n : Nat} {G : Hp} {α : Nat → Addr} (R : RelB B σ H ρ n G α) (i : Nat) : RelB B (σ.set i none) H (ρ.set i none) n G α := R.wipe [i]
theorem Lk.one {B : Bs} {W : WX} {D : Ends} {E : DEnds} (L : Lk B W D E) (i : Nat) : Lk B W0 (endA D (some i)) (ends1 E i) :=
  ⟨fun _ _ _ _ _ _ R h => L.nx _ _ _ _ _ _ (R.gone i) h, L.rt, fun _ _ _ _ _ _ R h => L.bk _ _ _ _ _ _ (R.gone i) h, fun _ _ _ _ _ _ R h => L.ct _ _ _ _ _ _ (R.gone i) h, fun _ _ _ _ _ _ _ _ _ _ _ z => z, L.w, L.ro⟩
theorem clsD_wish {XS : List Str} {sub : Str → Str → Bool} {B : Bs} {W : WX} {D : Ends} {E : DEnds} (hx : ∀ c ∈ XS, ∀ c' ∈ XS, PySem.W.exmOne B.K (.ref (ca B.K c)) (.ref (ca B.K c')) = some (sub c c')) (L : Lk B W D E)
    {cl : Value} {dd : Option Addr} {σ : L2.St} {H : Hp} {ρ : Env} {n : Nat} {G : Hp} {α : Nat → Addr} {e : Xn} (R : RelB B σ H ρ n G α) (r : XRep B.K B.W B.H0 G H e cl dd) (hm : e.1 ∈ XS) :
    ∀ {l : List Cl4}, (∀ z ∈ l, z.1 ∈ XS) → clsD sub B.K E l e ρ n → wishA B.K W D (trs B.K l) cl dd σ H
  | [], _, h => L.ex _ dd σ H ρ n G α e R r h
  | (c, o, s) :: l, hl, h => by
    obtain ⟨ec, rr⟩ := id r
    subst ec
    refine ⟨sub e.1 c, hx _ hm _ (hl _ List.mem_cons_self), fun hb a na => ?_, fun hb => ?_⟩
    · cases o with
      | none =>
        unfold clsD at h
        rw [if_pos hb] at h
        exact ⟨B, ρ, n, G, α, noX E, rfl, R, ⟨L.nx, L.rt, L.bk, L.ct, fun _ _ _ _ _ _ _ _ _ _ _ z => z, L.w, L.ro⟩, h _ _ _⟩
      | some i =>
        unfold clsD at h
        rw [if_pos hb] at h
        obtain ⟨ne, h⟩ := h
        cases dd with
        | none => exact (ne rr).elim
        | some d0 =>
          obtain ⟨⟨n0, nr⟩, ws, hd, rf⟩ := rr
          obtain ⟨G2, R2⟩ := R.caught (c := e.1) n0 nr hd rf i a
          exact ⟨B, _, n, G2, α, ends1 E i, rfl, R2, L.one i, h a d0⟩
    · have h2 : clsD sub B.K E l e ρ n := by
        cases o <;> (unfold clsD at h; rw [if_neg (by rw [hb]; exact Bool.false_ne_true)] at h; exact h)
      exact clsD_wish hx L R r hm (fun z hz => hl z (List.mem_cons_of_mem _ hz)) h2
section
variable {X : Cx} {W : WX} {body : List Stmt} {k0 : ExceptHandler} {ks : List ExceptHandler} {pos : Pos} {b : DS} {XS : List Str} {sub : Str → Str → Bool} {l : List Cl4}
theorem ps_tryAD (hx : ∀ c ∈ XS, ∀ c' ∈ XS, PySem.W.exmOne X.K (.ref (ca X.K c)) (.ref (ca X.K c')) = some (sub c c')) (hl : ∀ z ∈ l, z.1 ∈ XS) (hN : X.N.Nodup) (hs : X.stack = X.env :: X.outer) (hf : X.env.frame = some X.env.locals) (tk : Takes X W)
    (hb : ∀ (W1 : WX) (pn : List (Addr × Obj)) (xe : Value → Shared → Prop), Takes (X.tr pn xe) W1 → PassesOwn (model X.prog X.w) X.A X.env xe → PSsD (X.tr pn xe) W1 body b)
    (hk : ClsD X (k0 :: ks) l) : PSD X W (.Try body (k0 :: ks) [] [] pos) (dTryA XS sub X.K l b) := by
  refine ⟨_, ps_tryA (tb := fun W1 => sOf X.K W1 b) hs hf tk (fun W1 pn xe t p => (hb W1 pn xe t p).pss) (hk.clsA hN), fun B σ H ρ n G α D E hK R L hd => ?_⟩
  rw [← hK] at hx hd ⊢
  exact ⟨B, ρ, n, G, α, { E with ex := fun e ρ' n' => e.1 ∈ XS ∧ clsD sub B.K E l e ρ' n' }, rfl, R, ⟨L.nx, L.rt, L.bk, L.ct, fun cc dd σ' H' ρ' n' G' α' e R' r h' => clsD_wish hx L R' r h'.1 hl h'.2, L.w, L.ro⟩, hd⟩
end
end DL

end

section
set_option autoImplicit false
namespace DL
open PySem PySem.Spec L2
def dPar4 (i j k l : Nat) (a b c d : DSl) : DS := fun E ρ n => a (E.xx ρ) ρ n fun u1 n1 => b (E.xx ρ) ρ n1 fun u2 n2 => c (E.xx ρ) ρ n2 fun u3 n3 => d (E.xx ρ) ρ n3 fun u4 n4 => E.nx ((((ρ.set i (some u1)).set j (some u2)).set k (some u3)).set l (some u4)) n4
section
variable {X : Cx} {W : WX} {a b c d : Expr} {δ1 δ2 δ3 δ4 : DSl} {pos : Pos} {x y z u : Str}
end
end DL

end

section
set_option autoImplicit false
namespace DL
open PySem PySem.Spec L2
def gTl (m : Nat) (a : DGs) : DG := fun d ρ q => match d with
  | .lst ds => ds.length = m ∧ a ds ρ q
  | _ => False
section
variable {X : Cx} {pos : Pos}
end
def dPar3 (i1 i2 i3 : Nat) (a1 a2 a3 : DSl) : DS := fun E ρ n => a1 (E.xx ρ) ρ n fun u1 n1 => a2 (E.xx ρ) ρ n1 fun u2 n2 => a3 (E.xx ρ) ρ n2 fun u3 n3 => E.nx (((ρ.set i1 (some u1)).set i2 (some u2)).set i3 (some u3)) n3
section
variable {X : Cx} {W : WX} {a1 a2 a3 : Expr} {δ1 δ2 δ3 : DSl} {pos : Pos} {x1 x2 x3 : Str}
end
def dPar5 (i1 i2 i3 i4 i5 : Nat) (a1 a2 a3 a4 a5 : DSl) : DS := fun E ρ n => a1 (E.xx ρ) ρ n fun u1 n1 => a2 (E.xx ρ) ρ n1 fun u2 n2 => a3 (E.xx ρ) ρ n2 fun u3 n3 => a4 (E.xx ρ) ρ n3 fun u4 n4 => a5 (E.xx ρ) ρ n4 fun u5 n5 => E.nx (((((ρ.set i1 (some u1)).set i2 (some u2)).set i3 (some u3)).set i4 (some u4)).set i5 (some u5)) n5
section
variable {X : Cx} {W : WX} {a1 a2 a3 a4 a5 : Expr} {δ1 δ2 δ3 δ4 δ5 : DSl} {pos : Pos} {x1 x2 x3 x4 x5 : Str}
end
end DL

end

section
set_option autoImplicit false
namespace DL
open PySem PySem.Spec PyProof.Rows L2
def sel {α : Type} (is : List Nat) (l : List α) : List α := is.flatMap fun i => (l.drop i).take 1
theorem sel_nil {α : Type} (l : List α) : sel [] l = [] := rfl
theorem sel_cons {α : Type} (i : Nat) (is : List Nat) (l : List α) : sel (i :: is) l = (l.drop i).take 1 ++ sel is l := rfl
def KBs (K : PySem.W.Frag) (fd : FuncData) (ps : List Str) (n : Nat) (ks : List Str) (is : List Nat) (dvs : List V) : Prop := ∃ its : List Value, KBn K fd ps n ks (fun us ws => sel is (us ++ (ws ++ its))) (fun vs zs => sel is (vs ++ (zs ++ dvs)))
section
variable {K : PySem.W.Frag} {x qual : Str} {params : Arguments} {body : List Stmt} {scope : Scope} {dvs : List V} {kws : List (Str × V)} {f : Addr} {fd : FuncData} {ps : List Str}
end
section
variable {X : Cx} {CX : CXT} {k n : Nat} {f C : Addr} {fd : FuncData} {ps ks : List Str} {sp : Sp} {E : L2.St → XK} {x m : Str} {p pos apos : Pos} {e o : Expr} {es : List Expr} {kws : List Keyword} {ta : TE} {t tk : TA} {is : List Nat} {dvs : List V}
end
section
variable {X : Cx} {CX : CXT} {k n : Nat} {C p g : Addr} {mc : Value} {sp : Sp} {fd : FuncData} {ps ks : List Str} {dvs : List V} {E : L2.St → XK} {o e : Expr} {es : List Expr} {m : Str} {pos apos : Pos} {ta : TE} {t tk : TA} {pl : Sem Bool} {kws : List Keyword} {is : List Nat}
end

structure SgK (P : Program) (w : World) (K : PySem.W.Frag) (mg : Str → Option Value) (base : Heap) (x : Str) (k m : Nat) (F : DF) (ks : List Str) (is : List Nat) (dvd : List D) : Prop where
  ex : ∃ (f : Addr) (fd : FuncData) (ps : List Str) (dvs : List V), FnOk P w K mg base (L2.CX P w) k f fd ps (spW K m F) ∧ mg x = some (.ref f) ∧ PySem.W.keepIn K (.ref f) = true ∧ KBs K fd ps 0 ks is dvs ∧ ∀ G, RepL K G dvd dvs
structure MgK (P : Program) (w : World) (K : PySem.W.Frag) (mg : Str → Option Value) (base : Heap) (c x : Str) (k m : Nat) (F : DF) (n : Nat) (ks : List Str) (is : List Nat) (dvd : List D) : Prop where
  cl : Cls K (ca K c)
  ex : ∃ (f : Addr) (fd : FuncData) (ps : List Str) (dvs : List V), FnOk P w K mg base (L2.CX P w) k f fd ps (spW K m F) ∧ Meth K (ca K c) x f ∧ KBs K fd ps n ks is dvs ∧ ∀ G, RepL K G dvd dvs
structure IgK (P : Program) (w : World) (K : PySem.W.Frag) (mg : Str → Option Value) (base : Heap) (c : Str) (k m : Nat) (F : DFI) (ks : List Str) (js : List Nat) (dvd : List D) : Prop where
  gl : mg c = some (.ref (ca K c))
  ex : ∃ (f : Addr) (fd : FuncData) (ps : List Str) (dvs : List V), FnOk P w K mg base (L2.CX P w) k f fd ps (spI K c m F) ∧ Mk K (ca K c) f ∧ KBs K fd ps 1 ks (0 :: js.map (· + 1)) dvs ∧ ∀ G, RepL K G dvd dvs
structure CgK (P : Program) (w : World) (K : PySem.W.Frag) (mg : Str → Option Value) (base : Heap) (c x : Str) (k m : Nat) (F : DF) (ks : List Str) (js : List Nat) (dvd : List D) : Prop where
  gl : mg c = some (.ref (ca K c))
  rd : ClX.CRead K (ca K c) (.type "type")
  ex : ∃ (p g : Addr) (fd : FuncData) (ps : List Str) (dvs : List V), FnOk P w K mg base (L2.CX P w) k g fd ps (spW K m (cF K c F)) ∧ ClX.CMet K (ca K c) (.type "type") x p g ∧ KBs K fd ps 1 ks (0 :: js.map (· + 1)) dvs ∧ ∀ G, RepL K G dvd dvs
def dCallK (m : Nat) (F : DF) (l : Nat) (is : List Nat) (dvd : List D) (a : DA) : DE := fun x ρ n q => a x ρ n fun es n1 => es.length = l ∧ (sel is (es ++ dvd)).length = m ∧ F x.w (sel is (es ++ dvd)) n1 q x.ex
def dMethK0 (c y : Str) (m : Nat) (F : DF) (l : Nat) (is : List Nat) (dvd : List D) (δ : DE) (a : DA) : DE := fun x ρ n q => δ x ρ n fun d n1 => match d with
  | .obj c' fs => c' = c ∧ fs.lookup y = none ∧ a x ρ n1 fun es n2 => es.length = l ∧ (sel is (.obj c' fs :: (es ++ dvd))).length = m ∧ F x.w (sel is (.obj c' fs :: (es ++ dvd))) n2 q x.ex
  | _ => False
def dMethK (c y : Str) (m : Nat) (F : DF) (np l : Nat) (is : List Nat) (dvd : List D) (δ : DE) (b a : DA) : DE := fun x ρ n q => δ x ρ n fun d n1 => match d with
  | .obj c' fs => c' = c ∧ fs.lookup y = none ∧ b x ρ n1 fun us n2 => a x ρ n2 fun es n3 => us.length + 1 = np ∧ es.length = l ∧ (sel is (.obj c' fs :: us ++ (es ++ dvd))).length = m ∧ F x.w (sel is (.obj c' fs :: us ++ (es ++ dvd))) n3 q x.ex
  | _ => False
def dMakeK (c : Str) (m : Nat) (F : DFI) (l : Nat) (js : List Nat) (dvd : List D) (a : DA) : DE := fun x ρ n q => a x ρ n fun es n1 => es.length = l ∧ (sel js (es ++ dvd)).length + 1 = m ∧ F x.w (sel js (es ++ dvd)) n1 (fun fs n2 => q (.obj c fs) n2) x.ex
def dCMethK (m : Nat) (F : DF) (l : Nat) (js : List Nat) (dvd : List D) (a : DA) : DE := fun x ρ n q => a x ρ n fun es n1 => es.length = l ∧ (sel js (es ++ dvd)).length + 1 = m ∧ F x.w (sel js (es ++ dvd)) n1 q x.ex
section
variable {X : Cx} {W : WX} {k m : Nat} {F : DF} {FI : DFI} {dvd : List D} {x c y nm : Str} {p pos apos kpos : Pos} {e o : Expr} {es : List Expr} {a b : DA} {δ : DE} {kws : List Keyword} {ks : List Str} {is js : List Nat}
end
end DL

end

section
set_option autoImplicit false
namespace DL
open PySem PySem.Spec PyProof.Rows L2
def fInX (neg : Bool) : F2 := fun x y k => match y with
  | .lst ds => SeqAt.shaped (pyD x) = true ∧ SeqAt.shaped (pyD (.lst ds)) = true ∧ k (.bl (if neg then !ds.any (fun z => PyData.eqv (pyD z) (pyD x)) else ds.any fun z => PyData.eqv (pyD z) (pyD x)))
  | _ => False
section
variable {K : PySem.W.Frag}
end
section
variable {X : Cx} {W : WX} {a b : Expr} {δa δb : DE} {pos : Pos}
end
end DL

end

section
set_option autoImplicit false
namespace DL
open PySem PySem.Spec L2
mutual
def nrD : D → Bool
  | .lst ds => nrL ds
  | .tup ds => nrL ds
  | .dct ks => nrK ks
  | .obj _ fs => nrF fs
  | .exc _ _ _ fs => nrF fs
  | .rol _ => false
  | _ => true
def nrL : List D → Bool
  | [] => true
  | d :: ds => nrD d && nrL ds
def nrK : List (Key × D) → Bool
  | [] => true
  | (_, d) :: ds => nrD d && nrK ds
def nrF : List (Str × D) → Bool
  | [] => true
  | (_, d) :: ds => nrD d && nrF ds
end
section
variable {K : PySem.W.Frag} {G : Hp} {a : Addr} {o : Obj} {xs : List V}
theorem SqT.off {b : Addr} {vs : List V} (hm : G a = some (.frz o (.lst xs))) (e : SqT K G b vs) : SqT K (delG G a) b vs := by
  rcases e with (e | ⟨x, e⟩) | e
  · exact .inl (.inl ((delG_ne fun z => by rw [z, hm] at e; cases e).trans e))
  · exact .inl (.inr ⟨x, (delG_ne fun z => by rw [z, hm] at e; cases e).trans e⟩)
  · exact .inr e
mutual
theorem Rep.nr (hm : G a = some (.frz o (.lst xs))) : ∀ {d : D} {v : V}, nrD d = true → Rep K G d v → Rep K (delG G a) d v
  | _, _, _, .non => .non
  | _, _, _, .bl b => .bl b
  | _, _, _, .int i => .int i
  | _, _, _, .str x => .str x
  | _, _, h, .lst e r => .lst ((delG_ne fun z => by rw [z, hm] at e; cases e).trans e) (RepL.nr hm (by simpa [nrD] using h) r)
  | _, _, h, .tup e r => .tup (SqT.off hm e) (RepL.nr hm (by simpa [nrD] using h) r)
  | _, _, h, .dct e r => .dct ((delG_ne fun z => by rw [z, hm] at e; cases e).trans e) (RepK.nr hm (by simpa [nrD] using h) r)
  | _, _, h, .obj e r => .obj ((delG_ne fun z => by rw [z, hm] at e; cases e).trans e) (RepF.nr hm (by simpa [nrD] using h) r)
  | _, _, _, .hnd a => .hnd a
  | _, _, h, .exc e r => .exc ((delG_ne fun z => by rw [z, hm] at e; cases e).trans e) (RepF.nr hm (by simpa [nrD] using h) r)
  | _, _, h, .rol _ _ => by simp [nrD] at h
theorem RepL.nr (hm : G a = some (.frz o (.lst xs))) : ∀ {d : List D} {v : List V}, nrL d = true → RepL K G d v → RepL K (delG G a) d v
  | _, _, _, .nil => .nil
  | _, _, h, .cons r t => by
    rw [nrL, Bool.and_eq_true_iff] at h
    exact .cons (Rep.nr hm h.1 r) (RepL.nr hm h.2 t)
theorem RepK.nr (hm : G a = some (.frz o (.lst xs))) : ∀ {d : List (Key × D)} {v : List (Key × V)}, nrK d = true → RepK K G d v → RepK K (delG G a) d v
  | _, _, _, .nil => .nil
  | _, _, h, .cons r t => by
    rw [nrK, Bool.and_eq_true_iff] at h
    exact .cons (Rep.nr hm h.1 r) (RepK.nr hm h.2 t)
theorem RepF.nr (hm : G a = some (.frz o (.lst xs))) : ∀ {d : List (Str × D)} {v : List (Str × V)}, nrF d = true → RepF K G d v → RepF K (delG G a) d v
  | _, _, _, .nil => .nil
  | _, _, h, .cons r t => by
    rw [nrF, Bool.and_eq_true_iff] at h
    exact .cons (Rep.nr hm h.1 r) (RepF.nr hm h.2 t)
end
end
def dSetR (k i : Nat) (δ : DE) : DS := fun E ρ n => match ρ[i]? with
  | some (some (.own (.lst ds))) => δ (x0 E.w) (ρ.set i (some (.val (.rol ds)))) n fun d n1 => nrD d = true ∧ E.nx (ρ.set k (some (.val d))) n1
  | _ => False
section
variable {X : Cx} {W : WX} {e : Expr} {δ : DE} {pos pos' : Pos} {x : Str}
end
section
variable {X : Cx} {W : WX} {k m : Nat} {F : DF} {dvd : List D} {c y : Str} {pos apos : Pos} {e o : Expr} {es : List Expr} {a : DA} {δ : DE}
end
end DL

end

section
set_option autoImplicit false
namespace DL
open PySem PySem.Spec PyProof PyProof.Rows L2
def dAugIx (i : Nat) (f : Int → Int → Int) (δk δv : DE) : DS := fun E ρ n => match ρ[i]? with
  | some (some (.own (.lst ds))) => δk (E.xx ρ) ρ n fun k n1 => (match k with
    | .int z => opt (ixN ds.length z) fun j => 0 ≤ z ∧ z < 2 ^ 62 ∧ δv (E.xx ρ) ρ n1 fun v n2 => (match ds[j]?, v with
      | some (.int a), .int b => E.nx (ρ.set i (some (.own (.lst (ds.set j (.int (f a b))))))) n2
      | _, _ => False)
    | _ => False)
  | _ => False
section
variable {X : Cx} {W : WX} {e k : Expr} {δ δk δv : DE} {pos pos' apos cpos : Pos} {x : Str}
end
end DL

end

section
set_option autoImplicit false
namespace DL
open PySem PySem.Spec PyProof PyProof.Rows L2
def fIsB (neg : Bool) : F2 := fun x y k => match x, y with
  | .bl a, .bl b => k (.bl (decide (a = b) != neg))
  | _, _ => False
section
variable {K : PySem.W.Frag}
end
section
variable {X : Cx} {W : WX} {a b : Expr} {δa δb : DE} {pos : Pos}
end
section
variable {X : Cx} {W : WX} {k : Nat} {f C : Addr} {fd : FuncData} {ps : List Str} {sp : Sp} {E : L2.St → XK} {a b e : Expr} {es : List Expr} {ta tb : TE} {t : TA} {x : Str} {p pos : Pos} {c : Str} {F : DF} {δa δb : DE} {α' : DA} {CS : List Str}
end
end DL

end

section
set_option autoImplicit false
namespace DL
open PySem PySem.Spec PyProof PyProof.Rows L2
section
variable {X : Cx} {W : WX} {a1 a2 a3 : Expr} {δ1 δ2 δ3 : DSl} {pos : Pos} {x1 x2 x3 : Str}
end
end DL

end

section
set_option autoImplicit false
namespace DL
open PySem PySem.Spec PyProof PyProof.Rows L2
def ItT (t it : Addr) : HO := .ext fun h => h.IsTupleIter it t 0
section
variable {X : Cx}
end
def SqO (K : PySem.W.Frag) (H : Hp) (t : Addr) (o : Addr → HO) : Prop := (∃ zs, SqT K H t zs ∧ o = fun it => ItT t it) ∨ ∃ zs, SqL K H t zs ∧ o = fun it => ItO t it 0
structure FnIt (P : Program) (w : World) (K : PySem.W.Frag) (mg : Str → Option Value) (base : Heap) (k : Nat) (C f : Addr) (fd : FuncData) (p : Str) (fld : Str) : Prop where
  run : ∀ (A : Around) (outer : List PySem.Env) (s : Shared) (H : Hp) (args : Args) (a t dx : Addr) (fs : List (Str × V)) (o : Addr → HO), Room k A → Env0 P w K mg base A outer s H → BindsTo s fd args ([p].zip [Value.ref a]) → H a = some (.ins C dx fs) → fs.lookup fld = some (.ref t) → SqO K H t o →
    codeAny (model P w) A (.call (.ref f) args) (CR (L2.CX P w) outer P w H s (fun v H1 => ∃ it, v = .ref it ∧ s.heap.objs.size ≤ it ∧ H1 = upd H it (o it)) fun _ _ _ => False) s
section
variable {X : Cx} {tg e : Expr} {t : TE} {k : Nat} {C f : Addr} {fd : FuncData} {p fld : Str}
def iIterO (c fld : Str) (δ : DE) : DI := fun x ρ n q => δ x ρ n fun d n1 => match d with
  | .obj c' fs => c' = c ∧ (match fs.lookup fld with
    | some (.tup ds) => q ds n1
    | some (.lst ds) => q ds n1
    | _ => False)
  | _ => False
structure MgIt (P : Program) (w : World) (K : PySem.W.Frag) (mg : Str → Option Value) (base : Heap) (c fld : Str) (k : Nat) : Prop where
  ex : ∃ (f : Addr) (fd : FuncData) (p : Str), FnIt P w K mg base k (ca K c) f fd p fld ∧ Meth K (ca K c) "__iter__" f ∧ Binds K fd [p] []
variable {W : WX} {δ : DE} {c : Str}
def iMixO (cs : List (Str × Str)) (δ : DE) : DI := fun x ρ n q => δ x ρ n fun d n1 => match d with
  | .obj c fs => ∃ f, (c, f) ∈ cs ∧ (match fs.lookup f with
    | some (.tup ds) => q ds n1
    | some (.lst ds) => q ds n1
    | _ => False)
  | .lst ds => q ds n1
  | .tup ds => q ds n1
  | .rol ds => q ds n1
  | _ => False
end
end DL

end

section
set_option autoImplicit false
namespace DL
open PySem PySem.Spec PyProof PyProof.Rows L2
def dPut2 (i : Nat) (key : Str) (δl δe δk : DE) (r : DS) : DS := fun E ρ n => match ρ[i]? with
  | some (some (.own (.dct kvs))) => δl (E.xx ρ) ρ n fun l n1 => (match l with
    | .lst ds => kvs.length < 16777216 ∧ δe (E.xx (ρ.set i none)) (ρ.set i none) n1 fun d n2 => δk (E.xx (ρ.set i none)) (ρ.set i none) n2 fun k n3 => (match k with
      | .int z => opt (ixN ds.length z) fun j => r E (ρ.set i (some (.own (.dct (putD kvs (.inr key) (.lst (ds.set j d))))))) n3
      | _ => False)
    | _ => False)
  | _ => False
section
variable {X : Cx} {W : WX} {e k el : Expr} {δl δe δk : DE} {δr : DS} {x key : Str} {p1 p2 p3 p4 p5 pc pd pos pos2 : Pos} {rest : List Stmt}
theorem pf_dictP {α' : DA} {p pos : Pos} {e : Expr} (hc : X.calm = true) (hg : Gl X "dict") (hm : X.mg "dict" = none) (ha : PAD X W [e] α') (hst : starEach [e] X.env = (false, eval e X.env) :: starEach [] X.env := by rfl) (hpl : (backTo pos (starEach [] X.env)).any (·.1) = false := by rfl) :
    PF X W (.Call (.Name "dict" p) [e] [] pos) (dCB fDict α') := by
  obtain ⟨t, pa, ea⟩ := ha
  refine ⟨_, pe_callTy (call_dictP hc) hg hm (by decide +kernel) pa (by decide) (by decide) hst hpl, fun B σ H ρ n G α Q x q hK R hx hd k => ?_⟩
  refine ea B σ H ρ n G α _ x _ hK R hx hd fun vs H1 G1 ds n1 s1 j1 r hf => ?_
  unfold fDict f1 at hf
  split at hf
  · rename_i d
    obtain ⟨v, rfl, r0⟩ : ∃ v, vs = [v] ∧ Rep X.K G1 d v := by
      cases r with
      | cons r0 rn => cases rn; exact ⟨_, rfl, r0⟩
    cases d with
    | lst es =>
      obtain ⟨kvs, ek, hf⟩ := opt_some hf
      obtain ⟨a, us, e1, h1, rl⟩ : ∃ a us, v = .ref a ∧ H1 a = some (.lst us) ∧ RepL X.K G1 es us := by
        cases r0 with
        | lst e1 rl => exact ⟨_, _, rfl, s1.hh.get e1, rl⟩
      obtain ⟨ps, ws, e2, e3, e4⟩ := pairs_rep rl ek
      subst e1
      subst e2
      refine ⟨a, ps, ws, rfl, SqL.of h1, paired_mono (fun _ _ h => s1.hh.sqT h) e3, fun l np => ?_⟩
      have s := StepP.laid (o := .dK (mergeK [] ws)) s1.hh np
      have nr : ¬ B.W.rg l := fun z => B.W.there n1 H1 l j1 z np
      have h0 : H l = none := by
        cases q : H l with
        | none => rfl
        | some o => rw [s1.fr l o q nr] at np; cases np
      have g0 : G1 l = none := by
        cases q : G1 l with
        | none => rfl
        | some o =>
          obtain ⟨o', q', _⟩ := s1.hh l o q
          rw [np] at q'; cases q'
      exact k l _ _ (.dct (mergeD [] kvs)) n1 (s1.trans (s.step j1)) (s.J j1) h0 g0 nr ⟨mergeK [] ws, upd_same, e4.merge .nil⟩ hf
    | _ => exact hf.elim
  · exact hf.elim
end
end DL

end

section
set_option autoImplicit false
namespace DL
open PySem PySem.Spec PyProof PyProof.Rows L2 LamX
theorem Takes.len {X : Cx} {W : WX} (t : Takes X W) : Takes X (fun c d σ H => σ.length = X.N.length → W c d σ H) := fun u s' ⟨a, B, sI, pins, σ, H, cls, d, e, I, nb, up, sky, na, os, ag, w⟩ =>
  t u s' ⟨a, B, sI, pins, σ, H, cls, d, e, I, nb, up, sky, na, os, ag, w I.len⟩
inductive HdsA (z : Str) : List ExceptHandler → List (Str × V) → Prop
  | nil : HdsA z [] []
  | cons {c : Str} {e : Expr} {v : V} {np p5 p6 p7 : Pos} {hds : List ExceptHandler} {l : List (Str × V)} (he : ∀ Y : Cx, PE Y e (tC v)) (hs : ∀ Y : Cx, swapsWith e (some (.Name z p5)) p6.line Y.env = pure false) (r : HdsA z hds l) : HdsA z (.ExceptHandler (some (.Name c np)) none [.Assign [.Name z p5] e p6] p7 :: hds) ((c, v) :: l)
theorem HdsA.ok {X : Cx} {z : Str} {i : Nat} {hds : List ExceptHandler} {l : List (Str × V)} (h : HdsA z hds l) (hN : X.N.Nodup) (hi : X.N[i]? = some z) (hx : X.env.scope.names.lookup z = some .local) (hn : ∀ q ∈ l, Names X q.1 (.ref (ca X.K q.1))) : HdsOk X hds (l.map fun q => (.ref (ca X.K q.1), fun _ _ _ => tAsg (tC q.2) (gName i))) := by
  induction h with
  | nil => exact .nil
  | cons he hs r ih => exact .cons (hn _ List.mem_cons_self) (fun a oe cls d pn _ _ => pss_one (ps_set hN hi (.inl hx) (he _) (hs _) (.inr hx))) (ih fun q hq => hn q (List.mem_cons_of_mem _ hq))
theorem CatchV.imp {K : PySem.W.Frag} {cls : Value} {k k' : V → Prop} (h : ∀ v, k v → k' v) : ∀ {l : List (Str × V)}, CatchV K cls l k → CatchV K cls l k'
  | [], z => z.elim
  | (c, v) :: l, ⟨b, e, h1, h2⟩ => ⟨b, e, fun hb => h _ (h1 hb), fun hb => CatchV.imp h (h2 hb)⟩
end DL

end

section
set_option autoImplicit false
namespace DL
open PySem PySem.Spec PyProof PyProof.Rows L2
structure FnLn (P : Program) (w : World) (K : PySem.W.Frag) (mg : Str → Option Value) (base : Heap) (k : Nat) (C f : Addr) (fd : FuncData) (p : Str) (fld : Str) : Prop where
  run : ∀ (A : Around) (outer : List PySem.Env) (s : Shared) (H : Hp) (args : Args) (a t dx : Addr) (fs : List (Str × V)) (zs : List V), Room k A → Env0 P w K mg base A outer s H → BindsTo s fd args ([p].zip [Value.ref a]) → H a = some (.ins C dx fs) → fs.lookup fld = some (.ref t) → (SqL K H t zs ∨ SqT K H t zs) →
    codeAny (model P w) A (.call (.ref f) args) (CR (L2.CX P w) outer P w H s (fun v H1 => v = .int zs.length ∧ H1 = H) fun _ _ _ => False) s
section
variable {X : Cx} {k : Nat} {C f f2 : Addr} {fd fd2 : FuncData} {p p2 fld : Str}
def dListO (c fld : Str) (δ : DE) : DE := fun x ρ n q => δ x ρ n fun d n1 => match d with
  | .obj c' fs => c' = c ∧ (match fs.lookup fld with
    | some (.tup ds) => q (.lst ds) n1
    | _ => False)
  | _ => False
structure MgLs (P : Program) (w : World) (K : PySem.W.Frag) (mg : Str → Option Value) (base : Heap) (c fld : Str) (k : Nat) : Prop where
  it : MgIt P w K mg base c fld k
  ln : ∃ (f : Addr) (fd : FuncData) (p : Str), FnLn P w K mg base k (ca K c) f fd p fld ∧ Meth K (ca K c) "__len__" f ∧ Binds K fd [p] []
variable {W : WX} {δ : DE} {c : Str} {e : Expr} {pos p0 : Pos}
end
end DL

end

section
set_option autoImplicit false
namespace DL
open PySem PySem.Spec L2
def dLend (i : Nat) (δ : DE) : DE := fun x ρ n q => match ρ[i]? with
  | some (some (.own (.lst ds))) => δ (x0 x.w) (ρ.set i (some (.val (.rol ds)))) n fun d n1 => nrD d = true ∧ q d n1
  | _ => False
section
variable {X : Cx} {W : WX} {e : Expr} {δ : DE}
end
def dClr (i : Nat) : DS := fun E ρ n => match ρ[i]? with
  | some (some (.own (.lst ds))) => E.nx (ρ.set i (some (.own (.lst [])))) n
  | _ => False
def dAppT (δ δa : DE) : DS := fun E ρ n => δ (E.xx ρ) ρ n fun d n1 => match d with
  | .lst ds => ds.length < 16777216 ∧ δa (E.xx ρ) ρ n1 fun _ n2 => E.nx ρ n2
  | _ => False
section
variable {X : Cx} {W : WX} {o e : Expr} {δ δa : DE} {pos pos' apos cpos : Pos} {x : Str}
end
section
variable {X : Cx} {W : WX} {k m : Nat} {F : DF} {dvd : List D} {c y : Str} {pos apos : Pos} {o : Expr} {δ : DE}
end
section
variable {X : Cx} {W : WX} {k m : Nat} {F : DF} {c fld : Str} {pos apos : Pos} {o e : Expr} {es : List Expr} {a : DA} {δ : DE}
end
end DL

end

section
set_option autoImplicit false
namespace DL
open PySem PySem.Spec PyProof PyProof.Rows L2
def dSlT (δ : DE) (l h : DO) : DE := fun x ρ n q => δ x ρ n fun d n1 => l x ρ n1 fun lo n2 => h x ρ n2 fun hi n3 => match d with
  | .tup ds => q (.tup (cutD ds lo hi)) n3
  | _ => False
section
variable {X : Cx} {W : WX} {e : Expr} {lo hi : Option Expr} {δ : DE} {l h : DO} {p2 pos : Pos}
end
end DL

end

section
set_option autoImplicit false
namespace DL
open PySem PySem.Spec L2
abbrev DFE := Wd → List D → Nat → (Sl → Nat → Prop) → (Xn → Nat → Prop) → Prop
def spWE (K : PySem.W.Frag) (m : Nat) (F : DFE) : Sp := fun vs H Q E => ∃ (W : Wd) (n : Nat) (G : Hp) (ds : List D) (q : Sl → Nat → Prop) (x : Xn → Nat → Prop), Le G H ∧ (∀ a, W.rg a → G a = none) ∧ W.J n H ∧ RepL K G ds vs ∧ ds.length = m ∧ F W ds n q x ∧
  (∀ v H' G' sl n', Step W H G H' G' → W.J n' H' → SlRep K W H G' H' sl v → q sl n' → Q v H') ∧ (∀ c dd H' G' e n', Step W H G H' G' → W.J n' H' → XRep K W H G' H' e c dd → x e n' → E c dd H')
def endsE (W : Wd) (q : Sl → Nat → Prop) (x : Xn → Nat → Prop) : DEnds := ⟨fun _ n => q (.val .non) n, fun d n => q (.val d) n, fun _ _ => False, fun _ _ => False, fun e _ n => x e n, W, q⟩
structure SgE (P : Program) (w : World) (K : PySem.W.Frag) (mg : Str → Option Value) (base : Heap) (x : Str) (k m : Nat) (F : DFE) (dvd : List D) : Prop where
  ex : ∃ (f : Addr) (fd : FuncData) (ps : List Str) (ds : List Value) (dvs : List V), FnOk P w K mg base (L2.CX P w) k f fd ps (spWE K m F) ∧ mg x = some (.ref f) ∧ PySem.W.keepIn K (.ref f) = true ∧ Binds K fd ps ds ∧ Vals dvs ds ∧ ∀ G, RepL K G dvd dvs
def dCallE (m : Nat) (F : DFE) (dvd : List D) (a : DA) : DSl := fun x ρ n q => a x ρ n fun ds n1 => ds.length + dvd.length = m ∧ F x.w (ds ++ dvd) n1 q x.ex
def slD (δ : DSl) : DE := fun x ρ n q => δ x ρ n fun sl n1 => match sl with
  | .val d => q d n1
  | .own d => q d n1
  | .gst _ _ => False
def dSetSl (i : Nat) (δ : DSl) : DS := fun E ρ n => δ (E.xx ρ) ρ n fun sl n1 => E.nx (ρ.set i (some sl)) n1
section
variable {X : Cx} {W : WX} {k m : Nat} {F : DFE} {dvd : List D} {x : Str} {p pos pos' : Pos} {e : Expr} {es : List Expr} {a : DA} {δ : DSl}
theorem PSl.pd (h : PSl X W e δ) : PD X W e (slD δ) := by
  obtain ⟨t, p, h⟩ := h
  refine ⟨_, pe_lk p, fun B σ H ρ n G α Q x q hK R hx hd kk => h B σ H ρ n G α _ x _ hK R hx hd fun v H' G' sl n' s j r hq => ?_⟩
  cases sl with
  | val d => exact .inl (kk v H' G' d n' s j r hq)
  | own d =>
    obtain ⟨a, rfl, np, ng, nr, o⟩ := r
    refine freeze s.hh ng o fun H1 ob e off l1 l2 r => ?_
    exact kk _ H1 (upd G' a ob) d n' (s.frozen np nr off l1 l2) (B.W.stable _ _ _ (fun b hb => off b fun z => nr (z ▸ hb)) (fun b e q => (off b fun z => o.noExt (z ▸ q)).trans q) j) r hq
  | gst _ _ => exact hq.elim
end
def iRevN (δ : DE) : DI := fun x ρ n q => δ x ρ n fun d n1 => match d with
  | .int j => (-(2 ^ 62) ≤ j ∧ j < 2 ^ 62) ∧ q (rngC ((j.toNat : Int) - 1) (-1) j.toNat) n1
  | _ => False
section
variable {X : Cx} {W : WX} {tg e : Expr} {δ : DE} {p p2 pos pos2 : Pos}
end
end DL

end

section
set_option autoImplicit false
namespace DL
open PySem PySem.Spec PySem.W PyProof PyProof.Rows L2
abbrev gzT (h : Heap) (i1 i2 : Value) : Heap := h.push { cls := .type "tuple", data := .seq #[i1, i2] }
abbrev gzO (h : Heap) (i1 i2 : Value) : Heap := (gzT h i1 i2).push { cls := .type "tuple", data := .seq #[.none, .none] }
abbrev gzZ (h : Heap) (i1 i2 : Value) : Heap := (gzO h i1 i2).push { cls := .type "zip", data := .fields #[.none, .bool false, .bool false, .ref h.objs.size, .ref (gzT h i1 i2).objs.size] }
structure Hold (p : Prop) : Prop where
  h : p
section
variable {X : Cx} {k : Nat}
def Src (cs : List (Str × Str)) (K : PySem.W.Frag) (H : Hp) (a : Addr) (t : Bool) (u : Addr) (zs : List V) : Prop := SqK t K H u zs ∧ (a = u ∨ ∃ c fld dx fs, (c, fld) ∈ cs ∧ H a = some (.ins (ca K c) dx fs) ∧ fs.lookup fld = some (.ref u))
theorem Src.lt {cs : List (Str × Str)} {pins : List (Addr × Obj)} {σ : L2.St} {H : Hp} {s : Shared} (I : Inv X pins σ H s) {a u : Addr} {t : Bool} {zs : List V} (h : Src cs X.K H a t u zs) : u < s.heap.objs.size := by
  obtain ⟨its, rv, p, _⟩ := h.1.items I
  exact p.lt
theorem Src.ext {cs : List (Str × Str)} {K : PySem.W.Frag} {H : Hp} {a u b : Addr} {o : HO} {t : Bool} {zs : List V} (h : Src cs K H a t u zs) (n : H b = none) : Src cs K (upd H b o) a t u zs := by
  have e : ∀ c w, H c = some w → upd H b o c = some w := fun c w q => by rw [upd_ne (fun z => by rw [z, n] at q; cases q)]; exact q
  obtain ⟨hz, h⟩ := h
  refine ⟨?_, h.imp (fun z => z) fun ⟨c, fld, dx, fs, h1, h2, h3⟩ => ⟨c, fld, dx, fs, h1, e _ _ h2, h3⟩⟩
  cases t with
  | true => exact SqT.ext hz e
  | false => exact SqL.ext hz e
def srcD (cs : List (Str × Str)) : D → Option (List D)
  | .obj c fs => match cs.find? fun x => decide (x.1 = c) with
    | some x => (match fs.lookup x.2 with
      | some (.lst ds) => some ds
      | some (.tup ds) => some ds
      | _ => none)
    | none => none
  | d => seqD d
def iEnO (cs : List (Str × Str)) (δ : DA) : DI := fun x ρ n q => δ x ρ n fun ds n1 => match ds with
  | [d] => opt (srcD cs d) fun es => q (enumD es) n1
  | _ => False
def iZpO (cs : List (Str × Str)) (δ : DA) : DI := fun x ρ n q => δ x ρ n fun ds n1 => match ds with
  | [d, e] => opt (srcD cs d) fun es => opt (srcD cs e) fun fs => q (zipD es fs) n1
  | _ => False
variable {W : WX} {e a b : Expr} {α' : DA} {p pos tpos : Pos} {elts : List Expr} {kk : Nat} {cs : List (Str × Str)}
end
end DL

end

section
set_option autoImplicit false
namespace DL
open PySem PySem.Spec L2 PyProof.Rows
section
variable {X : Cx} {K : PySem.W.Frag}
end
def fAnyI : FL := f1 fun d k => match d with
  | .lst ds => (match intsD ds with
    | some ns => k (.bl (ns.any (· != 0)))
    | none => False)
  | _ => False
end DL

end

section
set_option autoImplicit false
namespace DL
open PySem PySem.Spec L2
def upG (gs : List (Addr × D)) (b : Addr) (d : D) : List (Addr × D) := gs.map fun g => if g.1 = b then (g.1, d) else g
section
variable {B : Bs} {σ : L2.St} {H : Hp} {ρ : DL.Env} {n : Nat} {G : Hp} {α : Nat → Addr}
end

def dLcF (ι : DI) (γ : DG) (tt : DT) (te : DE) (vs : List Nat) : DSl := fun x ρ n q => ι x ρ n fun ds n1 => lcD x.w γ tt te ds (wipeD ρ vs) n1 [] fun es n2 => ∀ (a : Addr) (bs : List Addr), bs.length = es.length → (a :: bs).Nodup → q (.gst (.hnd a) ((a, .lst (bs.map D.hnd)) :: bs.zip es)) n2
structure News (K : PySem.W.Frag) (W : Wd) (H0 G H : Hp) (D : Addr) (bs : List Addr) (es : List DL.D) : Prop where
  len : bs.length = es.length
  nd : (D :: bs).Nodup
  at_ : ∀ g ∈ bs.zip es, H0 g.1 = none ∧ G g.1 = none ∧ ¬ W.rg g.1 ∧ OwnAt K G H g.1 g.2
theorem News.step {K : PySem.W.Frag} {W : Wd} {H0 G H G' H' : Hp} {D : Addr} {bs : List Addr} {es : List DL.D} (h : News K W H0 G H D bs es) (s : Step W H G H' G') : News K W H0 G' H' D bs es := by
  refine ⟨h.len, h.nd, fun g hm => ?_⟩
  obtain ⟨h0, g0, nr, o⟩ := h.at_ g hm
  obtain ⟨u, q⟩ := o.there
  exact ⟨h0, s.keepD q g0, nr, o.mono s.le fun o q => s.fr _ o q nr⟩
theorem News.off {K : PySem.W.Frag} {W : Wd} {H0 G H : Hp} {D : Addr} {bs : List Addr} {es : List DL.D} (h : News K W H0 G H D bs es) {o : HO} : News K W H0 G (upd H D o) D bs es := by
  refine ⟨h.len, h.nd, fun g hm => ?_⟩
  obtain ⟨h0, g0, nr, ow⟩ := h.at_ g hm
  have ne : g.1 ≠ D := fun z => (List.nodup_cons.mp h.nd).1 (z ▸ (List.of_mem_zip (a := g.1) (b := g.2) hm).1)
  exact ⟨h0, g0, nr, ow.mono (Le.refl G) fun u q => by rw [upd_ne ne]; exact q⟩
theorem News.snoc {K : PySem.W.Frag} {W : Wd} {H0 G H : Hp} {D : Addr} {bs : List Addr} {es : List DL.D} (h : News K W H0 G H D bs es) {b : Addr} {d : DL.D} (ne : b ≠ D) (nb : b ∉ bs) (h0 : H0 b = none) (g0 : G b = none) (nr : ¬ W.rg b) (o : OwnAt K G H b d) : News K W H0 G H D (bs ++ [b]) (es ++ [d]) := by
  refine ⟨by rw [List.length_append, List.length_append, h.len]; rfl, ?_, fun g hm => ?_⟩
  · have h1 := List.nodup_cons.mp h.nd
    refine List.nodup_cons.mpr ⟨fun z => ?_, ?_⟩
    · rcases List.mem_append.mp z with z | z
      · exact h1.1 z
      · exact ne (List.mem_singleton.mp z).symm
    · refine List.nodup_append.mpr ⟨h1.2, by simp, fun a ha c hc z => ?_⟩
      rw [List.mem_singleton.mp hc] at z
      exact nb (z ▸ ha)
  · rw [List.zip_append h.len] at hm
    rcases List.mem_append.mp hm with hm | hm
    · exact h.at_ g hm
    · rw [show [b].zip [d] = [(b, d)] from rfl] at hm
      rw [List.mem_singleton.mp hm]
      exact ⟨h0, g0, nr, o⟩
theorem News.there {K : PySem.W.Frag} {W : Wd} {H0 G H : Hp} {D : Addr} {bs : List Addr} {es : List DL.D} (h : News K W H0 G H D bs es) {b : Addr} (hb : b ∈ bs) : ∃ o, H b = some o := by
  obtain ⟨i, hi, rfl⟩ := List.mem_iff_getElem.mp hb
  have hl := h.len
  have hm : (bs[i], es[i]'(by omega)) ∈ bs.zip es := List.mem_iff_getElem.mpr ⟨i, by rw [List.length_zip]; omega, by rw [List.getElem_zip]⟩
  exact (h.at_ _ hm).2.2.2.there
section
variable {X : Cx} {W : WX} {elt tg iter : Expr} {ifs : List Expr} {scope : Scope} {own : List (Str × Nat)} {pos spos py : Pos} {ι : DI} {γ : DG} {τ : DT} {δ : DE} {sl : List Nat} {y : Str}
def fOf (K : PySem.W.Frag) (W : WX) (δ : DE) : TE := fun σ H Q => ∃ (B : Bs) (ρ : Env) (n : Nat) (G : Hp) (α : Nat → Addr) (x : DX) (q : DQ), B.K = K ∧ RelB B σ H ρ n G α ∧ XL B W σ H G x ∧ δ x ρ n q ∧
  (∀ a H' G' d n', Step B.W H G H' G' → B.W.J n' H' → H a = none → G' a = none → ¬ B.W.rg a → OwnAt K G' H' a d → q d n' → Q (.ref a) H')
theorem PF.pe {e : Expr} {δ : DE} (h : PF X W e δ) : PE X e (fOf X.K W δ) := by
  obtain ⟨t, p, h⟩ := h
  refine ⟨fun pins s σ H Q I hw => ?_⟩
  obtain ⟨B, ρ, n, G, α, x, q, hK, R, hx, hd, k⟩ := hw
  exact p.run pins s σ H Q I (h B σ H ρ n G α Q x q hK R hx hd k)
def dRetSl (δ : DSl) : DS := fun E ρ n => δ (E.xx ρ) ρ n E.ro
end
end DL

end

section
set_option autoImplicit false
namespace DL
open PySem PySem.Spec L2
def dRes (i : Nat) (δ : DE) : DE := fun x ρ n q => δ x ρ n fun d n1 => match ρ[i]? with
  | some (some (.gst _ gs)) => q (resG gs d) n1
  | _ => False
section
variable {X : Cx} {W : WX} {e : Expr} {δ : DE}
end
def withG (i : Nat) (ρ : DL.Env) (o : D) (k : Addr → D → List (Addr × D) → D → Prop) : Prop := match o, ρ[i]? with
  | .hnd b, some (some (.gst r gs)) => opt (lkG gs b) fun c => k b r gs c
  | _, _ => False
def dAppG (i : Nat) (δo δ : DE) : DS := fun E ρ n => δo (E.xx ρ) ρ n fun o n1 => withG i ρ o fun b r gs c => match c with
  | .lst ds => δ (E.xx ρ) ρ n1 fun d n2 => ds.length < 16777216 ∧ E.nx (ρ.set i (some (.gst r (upG gs b (.lst (ds ++ [d])))))) n2
  | _ => False
def dAppGF (i : Nat) (δo δ : DE) : DS := fun E ρ n => δo (E.xx ρ) ρ n fun o n1 => withG i ρ o fun b r gs c => match c with
  | .lst ds => δ (E.xx ρ) ρ n1 fun d n2 => ds.length < 16777216 ∧ ∀ b', (∀ g ∈ gs, g.1 ≠ b') → E.nx (ρ.set i (some (.gst r (upG (gs ++ [(b', d)]) b (.lst (ds ++ [.hnd b'])))))) n2
  | _ => False
def dExtG (i : Nat) (δo δ : DE) : DS := fun E ρ n => δo (E.xx ρ) ρ n fun o n1 => withG i ρ o fun b r gs c => match c with
  | .lst ds => δ (E.xx ρ) ρ n1 fun d n2 => (match d with
    | .lst es => ds.length + es.length ≤ 16777216 ∧ E.nx (ρ.set i (some (.gst r (upG gs b (.lst (ds ++ es)))))) n2
    | _ => False)
  | _ => False
def dPutG (i : Nat) (δo δk δv : DE) : DS := fun E ρ n => δv (E.xx ρ) ρ n fun d n1 => δo (E.xx ρ) ρ n1 fun o n2 => δk (E.xx ρ) ρ n2 fun k n3 => withG i ρ o fun b r gs c => match c with
  | .dct kvs => opt (keyD k) fun j => kvs.length < 16777216 ∧ E.nx (ρ.set i (some (.gst r (upG gs b (.dct (putD kvs j d)))))) n3
  | _ => False
def dSetIxG (i : Nat) (δo δk δv : DE) : DS := fun E ρ n => δv (E.xx ρ) ρ n fun d n1 => δo (E.xx ρ) ρ n1 fun o n2 => δk (E.xx ρ) ρ n2 fun k n3 => withG i ρ o fun b r gs c => match c, k with
  | .lst ds, .int z => opt (ixN ds.length z) fun j => E.nx (ρ.set i (some (.gst r (upG gs b (.lst (ds.set j d)))))) n3
  | _, _ => False
def dFldG (i : Nat) (c f : Str) (δ : DE) : DS := fun E ρ n => δ (E.xx ρ) ρ n fun d n1 => match ρ[i]? with
  | some (some (.gst r gs)) => withG i ρ r fun b _ _ o => (match o with
    | .obj c' fs => c' = c ∧ fs.length < 1000 ∧ E.nx (ρ.set i (some (.gst r (upG gs b (.obj c (setF f d fs)))))) n1
    | _ => False)
  | _ => False
def dFldGF (i : Nat) (c f : Str) (δ : DE) : DS := fun E ρ n => δ (E.xx ρ) ρ n fun d n1 => match ρ[i]? with
  | some (some (.gst r gs)) => withG i ρ r fun b _ _ o => (match o with
    | .obj c' fs => c' = c ∧ fs.length < 1000 ∧ ∀ b', (∀ g ∈ gs, g.1 ≠ b') → E.nx (ρ.set i (some (.gst r (upG (gs ++ [(b', d)]) b (.obj c (setF f (.hnd b') fs)))))) n1
    | _ => False)
  | _ => False
section
variable {X : Cx} {W : WX} {o e k : Expr} {δ δo δk δv : DE} {pos pos' apos cpos : Pos} {x : Str}
end
def dOG (i : Nat) (a : DS) : DS := fun E ρ n => match ρ[i]? with
  | some (some (.own d)) => ∀ b, a E (ρ.set i (some (.gst (.hnd b) [(b, d)]))) n
  | _ => False
def dGO (i : Nat) (a : DS) : DS := fun E ρ n => match ρ[i]? with
  | some (some (.gst (.hnd b) [(b', d)])) => b = b' ∧ a E (ρ.set i (some (.own d))) n
  | _ => False
section
variable {B : Bs} {σ : L2.St} {H : Hp} {ρ : DL.Env} {n : Nat} {G : Hp} {α : Nat → Addr}
end
section
variable {X : Cx} {W : WX} {sts : List Stmt} {a : DS}
end
mutual
inductive Up (m : List (Addr × D)) : D → D → Prop where
  | refl (d : D) : Up m d d
  | hnd {b : Addr} {c : D} : (b, c) ∈ m → Up m (.hnd b) c
  | lst {ds es : List D} : UpL m ds es → Up m (.lst ds) (.lst es)
  | tup {ds es : List D} : UpL m ds es → Up m (.tup ds) (.tup es)
  | obj {c : Str} {fs gs : List (Str × D)} : UpF m fs gs → Up m (.obj c fs) (.obj c gs)
  | dct {fs gs : List (Key × D)} : UpK m fs gs → Up m (.dct fs) (.dct gs)
inductive UpL (m : List (Addr × D)) : List D → List D → Prop where
  | nil : UpL m [] []
  | cons {d e : D} {ds es : List D} : Up m d e → UpL m ds es → UpL m (d :: ds) (e :: es)
inductive UpF (m : List (Addr × D)) : List (Str × D) → List (Str × D) → Prop where
  | nil : UpF m [] []
  | cons {k : Str} {d e : D} {ds es : List (Str × D)} : Up m d e → UpF m ds es → UpF m ((k, d) :: ds) ((k, e) :: es)
inductive UpK (m : List (Addr × D)) : List (Key × D) → List (Key × D) → Prop where
  | nil : UpK m [] []
  | cons {k : Key} {d e : D} {ds es : List (Key × D)} : Up m d e → UpK m ds es → UpK m ((k, d) :: ds) ((k, e) :: es)
end
section
variable {K : PySem.W.Frag} {G H : Hp} {m : List (Addr × D)}
mutual
theorem Rep.up (hm : ∀ p ∈ m, Rep K G p.2 (.ref p.1)) : ∀ {d e : D} {v : V}, Up m d e → Rep K G d v → Rep K G e v
  | _, _, _, .refl _, r => r
  | _, _, _, .hnd h, .hnd _ => hm _ h
  | _, _, _, .lst h, .lst q r => .lst q (RepL.up hm h r)
  | _, _, _, .tup h, .tup q r => .tup q (RepL.up hm h r)
  | _, _, _, .obj h, .obj q r => .obj q (RepF.up hm h r)
  | _, _, _, .dct h, .dct q r => .dct q (RepK.up hm h r)
theorem RepL.up (hm : ∀ p ∈ m, Rep K G p.2 (.ref p.1)) : ∀ {d e : List D} {v : List V}, UpL m d e → RepL K G d v → RepL K G e v
  | _, _, _, .nil, .nil => .nil
  | _, _, _, .cons h t, .cons r s => .cons (Rep.up hm h r) (RepL.up hm t s)
theorem RepF.up (hm : ∀ p ∈ m, Rep K G p.2 (.ref p.1)) : ∀ {d e : List (Str × D)} {v : List (Str × V)}, UpF m d e → RepF K G d v → RepF K G e v
  | _, _, _, .nil, .nil => .nil
  | _, _, _, .cons h t, .cons r s => .cons (Rep.up hm h r) (RepF.up hm t s)
theorem RepK.up (hm : ∀ p ∈ m, Rep K G p.2 (.ref p.1)) : ∀ {d e : List (Key × D)} {v : List (Key × V)}, UpK m d e → RepK K G d v → RepK K G e v
  | _, _, _, .nil, .nil => .nil
  | _, _, _, .cons h t, .cons r s => .cons (Rep.up hm h r) (RepK.up hm t s)
end
theorem OwnAt.up (hm : ∀ p ∈ m, Rep K G p.2 (.ref p.1)) {a : Addr} {d e : D} (h : Up m d e) (o : OwnAt K G H a d) : OwnAt K G H a e := by
  cases h with
  | refl => exact o
  | hnd _ => exact o.elim
  | lst h => obtain ⟨vs, q, r⟩ := o; exact ⟨vs, q, r.up hm h⟩
  | tup h => exact o.elim
  | obj h => obtain ⟨dx, ws, q, r⟩ := o; exact ⟨dx, ws, q, r.up hm h⟩
  | dct h => obtain ⟨ws, q, r⟩ := o; exact ⟨ws, q, r.up hm h⟩
end
inductive FzA : List (Addr × D) → List D → Prop where
  | nil : FzA [] []
  | cons {b : Addr} {c e : D} {gs : List (Addr × D)} {cs : List D} : FzA gs cs → Up ((gs.map (·.1)).zip cs) c e → (∀ kvs, e ≠ .dct kvs) → FzA ((b, c) :: gs) (e :: cs)
def dFrzR (i : Nat) (a : DS) : DS := fun E ρ n => match ρ[i]? with
  | some (some (.gst (.hnd b) ((b', c) :: gs))) => b = b' ∧ (∀ kvs, c ≠ .dct kvs) ∧ a E (ρ.set i (some (.gst c gs))) n
  | _ => False
inductive UpG (m : List (Addr × D)) : List (Addr × D) → List (Addr × D) → Prop where
  | nil : UpG m [] []
  | cons {b : Addr} {c e : D} {gs hs : List (Addr × D)} : Up m c e → UpG m gs hs → UpG m ((b, c) :: gs) ((b, e) :: hs)
theorem UpG.fst {m : List (Addr × D)} : ∀ {gs hs : List (Addr × D)}, UpG m gs hs → hs.map (·.1) = gs.map (·.1)
  | _, _, .nil => rfl
  | _, _, .cons _ t => by rw [List.map_cons, List.map_cons, t.fst]
theorem UpG.mem {m : List (Addr × D)} : ∀ {gs hs : List (Addr × D)}, UpG m gs hs → ∀ g ∈ hs, ∃ c, (g.1, c) ∈ gs ∧ Up m c g.2
  | _, _, .nil, _, h => nomatch h
  | _, _, .cons (b := b) (c := c) u t, g, h => by
    rcases List.mem_cons.mp h with rfl | h
    · exact ⟨c, List.mem_cons_self .., u⟩
    · obtain ⟨c', h1, h2⟩ := t.mem g h
      exact ⟨c', List.mem_cons_of_mem _ h1, h2⟩
section
variable {X : Cx} {W : WX} {sts : List Stmt} {a : DS}
end
end DL

end

section
set_option autoImplicit false
namespace DL
open PySem PySem.Spec PyProof PyProof.Rows L2
def fDivmod : FL := fun ds k => match ds with
  | [.int i, .int j] => CDiv i j ∧ k (.tup [.int (i / j), .int (i % j)])
  | _ => False
def pickI (n : Nat) (z : Int) : List Nat := sliceRange 0 (n : Int) z
def pickX {α : Type} (xs : List α) (z : Int) : List α := (pickI xs.length z).filterMap (xs[·]?)
def dStep (δ δk : DE) : DE := fun x ρ n q => δ x ρ n fun d n1 => match d with
  | .lst ds => δk x ρ n1 fun k n2 => (match k with
    | .int z => 0 < z ∧ q (.lst (pickX ds z)) n2
    | _ => False)
  | _ => False
end DL

end

section
set_option autoImplicit false
namespace DL
open PySem PySem.Spec L2
inductive RoA : List (Addr × D) → List D → Prop where
  | nil : RoA [] []
  | cons {b : Addr} {ds es : List D} {gs : List (Addr × D)} {cs : List D} : RoA gs cs → UpL ((gs.map (·.1)).zip cs) ds es → RoA ((b, .lst ds) :: gs) (.rol es :: cs)
section
variable {X : Cx} {W : WX} {e : Expr} {δ : DE}
end
def slDG (δ : DSl) : DE := fun x ρ n q => δ x ρ n fun sl n1 => match sl with
  | .val d => q d n1
  | .own d => q d n1
  | .gst r gs => ∃ cs r', FzA gs cs ∧ Up ((gs.map (·.1)).zip cs) r r' ∧ q r' n1
section
variable {X : Cx} {W : WX} {e : Expr} {δ : DSl}
end
section
variable {X : Cx} {W : WX} {elt tg iter : Expr} {ifs : List Expr} {scope : Scope} {pos spos py : Pos} {ι : DI} {γ : DG} {τ : DT} {δ : DE} {sl : List Nat} {y : Str}
end
end DL

end

section
set_option autoImplicit false
namespace DL
open PySem PySem.Spec PyProof.Rows L2 LamX
inductive HV where
  | con (v : V)
  | fld (f : Str)
def valT (K : PySem.W.Frag) (c : Str) (cls : Value) (dd : Option Addr) (H : Hp) : HV → V → Prop
  | .con v0, v => v = v0
  | .fld f, v => cls = .ref (ca K c) ∧ ∃ (d0 : Addr) (ws : List (Str × V)), dd = some d0 ∧ H d0 = some (.xd ws) ∧ ws.lookup f = some v
def CatchT (K : PySem.W.Frag) (cls : Value) (dd : Option Addr) (H : Hp) : List (Str × Str × HV) → VK → Prop
  | [], _ => False
  | (c, s, p) :: l, k => ∃ b, PySem.W.exmOne K cls (.ref (ca K c)) = some b ∧ (b = true → ∃ v, valT K c cls dd H p v ∧ ∀ q, H q = none → k (.ref q) (upd H q (.tup [.str s, v]))) ∧ (b = false → CatchT K cls dd H l k)
theorem CatchT.imp {K : PySem.W.Frag} {cls : Value} {dd : Option Addr} {H : Hp} {k k' : VK} (h : ∀ v H', k v H' → k' v H') : ∀ {l : List (Str × Str × HV)}, CatchT K cls dd H l k → CatchT K cls dd H l k'
  | [], z => z.elim
  | (c, s, p) :: l, ⟨b, e, h1, h2⟩ => ⟨b, e, fun hb => (h1 hb).imp fun v z => ⟨z.1, fun q nq => h _ _ (z.2 q nq)⟩, fun hb => CatchT.imp h (h2 hb)⟩
def tPair (a b : TE) : TE := tTup (tCons a (tCons b tNil))
inductive HdsT (K : PySem.W.Frag) (z : Str) (j : Nat) (y : Str) : List ExceptHandler → List (Str × Str × HV) → Prop
  | nil : HdsT K z j y [] []
  | con {c s : Str} {e : Expr} {v : V} {k0 x1 : Nat} {np p1 p2 p3 p5 p6 : Pos} {hds : List ExceptHandler} {l : List (Str × Str × HV)} (he : ∀ Y : Cx, PE Y e (tC v)) (hst : ∀ Y : Cx, starEach [e] Y.env = (false, eval e Y.env) :: starEach [] Y.env) (r : HdsT K z j y hds l) :
      HdsT K z j y (.ExceptHandler (some (.Name c np)) none [.Assign [.Name z p1] (.Tuple [.Constant (.str s) k0 p2, e] x1 p3) p5] p6 :: hds) ((c, s, .con v) :: l)
  | fld {c s f : Str} {k0 x1 : Nat} {np p1 p2 p3 p4 p5 p6 p7 : Pos} {hds : List ExceptHandler} {l : List (Str × Str × HV)} (T : XfC K (ca K c)) (hno : PySem.W.findIn K (.ref (ca K c)) f = some none) (r : HdsT K z j y hds l) :
      HdsT K z j y (.ExceptHandler (some (.Name c np)) (some y) [.Assign [.Name z p1] (.Tuple [.Constant (.str s) k0 p2, .Attribute (.Name y p3) f p4] x1 p7) p5] p6 :: hds) ((c, s, .fld f) :: l)
def clT (K : PySem.W.Frag) (i j : Nat) : Str × Str × HV → Cl3
  | (c, s, .con v) => (.ref (ca K c), none, fun _ _ _ => tAsg (tPair (tC (.str s)) (tC v)) (gName i))
  | (c, s, .fld f) => (.ref (ca K c), some j, fun a cl d => tAsg (tPair (tC (.str s)) (tXf a cl d (ca K c) f (tVar j))) (gName i))
section
variable {X : Cx}
theorem HdsT.ok {z y : Str} {i j : Nat} {hds : List ExceptHandler} {l : List (Str × Str × HV)} (h : HdsT X.K z j y hds l) (hN : X.N.Nodup) (hi : X.N[i]? = some z) (hx : X.env.scope.names.lookup z = some .local) (hj : X.env.kindOf y = some .local ∨ ∀ q ∈ l, ∀ f, q.2.2 ≠ .fld f) (hjN : X.N[j]? = some y ∨ ∀ q ∈ l, ∀ f, q.2.2 ≠ .fld f) (hjv : X.env.scope.names.lookup y = some .local ∨ ∀ q ∈ l, ∀ f, q.2.2 ≠ .fld f) (hyd : (y == ("__debug__" : Str)) = false) (hyc : (y == ("__classdict__" : Str)) = false)
    (hn : ∀ q ∈ l, Names X q.1 (.ref (ca X.K q.1))) : ClsA X hds (l.map (clT X.K i j)) := by
  induction h with
  | nil => exact .nil
  | @con c s e v k0 x1 np p1 p2 p3 p5 p6 hds l he hst r ih =>
    have nx : ∀ {A : Prop}, (A ∨ ∀ q ∈ (c, s, HV.con v) :: l, ∀ f, q.2.2 ≠ HV.fld f) → A ∨ ∀ q ∈ l, ∀ f, q.2.2 ≠ HV.fld f := fun {A} h => h.imp_right fun h q hq => h q (List.mem_cons_of_mem _ hq)
    exact .plain (hn _ List.mem_cons_self) (fun a ob cl d pn _ _ => pss_one (ps_set hN hi (.inl hx) (pe_tup (pa_cons pe_str (pa_cons (he _) pa_nil (hst _)))) (hf := .inr hx))) (ih (nx hj) (nx hjN) (nx hjv) fun q hq => hn q (List.mem_cons_of_mem _ hq))
  | @fld c s f k0 x1 np p1 p2 p3 p4 p5 p6 p7 hds l T hno r ih =>
    have nx : ∀ {A : Prop}, (A ∨ ∀ q ∈ (c, s, HV.fld f) :: l, ∀ f, q.2.2 ≠ HV.fld f) → A ∨ ∀ q ∈ l, ∀ f, q.2.2 ≠ HV.fld f := fun {A} h => h.imp_right fun h q hq => h q (List.mem_cons_of_mem _ hq)
    have at_ : ∀ {A : Prop}, (A ∨ ∀ q ∈ (c, s, HV.fld f) :: l, ∀ f, q.2.2 ≠ HV.fld f) → A := fun {A} h => h.elim id fun h => absurd rfl (h _ List.mem_cons_self f)
    exact .named hN (at_ hjN) (at_ hj) (hn _ List.mem_cons_self) (fun a ob cl d pn hz hf => pss_one (ps_set hN hi (.inl hx) (pe_tup (pa_cons pe_str (pa_cons (pe_xf (X := X) T hno hz hf (pe_var (at_ hjN) (.inl (at_ hjv)) hyd hyc)) pa_nil))) (hf := .inr hx))) (ih (nx hj) (nx hjN) (nx hjv) fun q hq => hn q (List.mem_cons_of_mem _ hq))
end
inductive HD where
  | con (d : D)
  | fld (f : Str)
def catchT (sub : Str → Str → Bool) (c : Str) (fs : List (Str × D)) : List (Str × Str × HD) → (D → Prop) → Prop
  | [], _ => False
  | (c', s, .con d) :: l, k => if sub c c' = true then k (.tup [.str s, d]) else catchT sub c fs l k
  | (c', s, .fld f) :: l, k => if sub c c' = true then c = c' ∧ opt (fs.lookup f) fun d => k (.tup [.str s, d]) else catchT sub c fs l k
def dLamT (LW : Wd → Prop) (XS : List Str) (sub : Str → Str → Bool) (hs : List (Str × Str × HD)) (s0 : Str) (δ : DE) : DE := fun x ρ n q => LW x.w ∧ δ { x with ex := fun e n' => e.1 ∈ XS ∧ catchT sub e.1 e.2 hs fun d => q d n' } ρ n fun d n' => q (.tup [.str s0, d]) n'
section
variable {X : Cx} {W : WX}
end
section
variable {X : Cx} {W : WX}
def dEither (a b : DE) : DE := fun x ρ n q => a x ρ n q ∨ b x ρ n q
def dHeld (i : Nat) (f : Addr) (δ : DE) : DE := fun x ρ n q => ρ[i]? = some (some (.val (.hnd f))) ∧ δ x ρ n q
end
structure XfD (K : PySem.W.Frag) (c f : Str) : Prop where
  t : XfC K (ca K c)
  no : PySem.W.findIn K (.ref (ca K c)) f = some none
def xfdB (c f : Str) (K : PySem.W.Frag) : Bool := xfB K (ca K c) && decide (PySem.W.findIn K (.ref (ca K c)) f = some none)
theorem xfdB_ok {c f : Str} {K : PySem.W.Frag} (h : xfdB c f K = true) : XfD K c f := by
  have h' := Bool.and_eq_true_iff.mp h
  exact ⟨xfB_ok h'.1, of_decide_eq_true h'.2⟩
end DL

end

section
set_option autoImplicit false
namespace DL
open PySem PySem.Spec PySem.SeqAt L2
open AutoSeq1 (wpAny_loadPart')
open MeetsSeq MeetsSeq2 MeetsSeq3 SeqRoads2
section
variable {prog : Program} {w : World} {A : Around} {R : Result → Shared → Prop}
end
section
variable {prog : Program} {w : World} {A : Around} {E : Value → Shared → Prop} {s : Shared} {l m : Addr} {b : Nat → Bool} {Q : Value → Shared → Prop} {xs ys : Array Value}
end
section
variable {X : Cx} {W : WX} {Q : Str → D → D → Bool → Prop} {n0 : Nat}
variable {a b : Expr} {δa δb : DE} {pos : Pos}
def TpX (Q : Str → D → D → Bool → Prop) (us vs : List D) (r : Bool) : Prop := us.length = vs.length ∧ ∃ b : Nat → Bool, r = allB b 0 us.length ∧ ∀ i x y, us[i]? = some x → vs[i]? = some y → EqX Q 3 x y (b i)
def dEqXT (Q : Str → D → D → Bool → Prop) (neg : Bool) (a b : DE) : DE := fun x ρ n q => a x ρ n fun u n1 => b x ρ n1 fun v n2 => ∃ us vs r, u = .tup us ∧ v = .tup vs ∧ TpX Q us vs r ∧ q (.bl (r != neg)) n2
end
end DL

end

section
set_option autoImplicit false
namespace DL
open PySem PySem.Spec PyProof.Rows L2 LamX
structure FnG (P : Program) (w : World) (K : PySem.W.Frag) (mg : Str → Option Value) (base : Heap) (CX : CXT) (k : Nat) (f : Addr) (fd : FuncData) (ps : List Str) (sp : Sp) : Prop where
  many : ∀ {xs H Q E}, sp xs H Q E → xs.length = ps.length
  go : ∀ (A : Around), A.guards = some [] → Room k A → ∀ (out : List PySem.Env) (s : Shared) (H : Hp) (as : Args) (us : List Value) (xs : List V) (Q : VK) (E : XK), Env0 P w K mg base A out s H → BindsTo s fd as (ps.zip us) → Vals xs us → sp xs H Q E →
    codeAny (model P w) A (.call (.ref f) as) (CR CX out P w H s Q E) s
section
variable {P : Program} {w : World} {K : PySem.W.Frag} {mg mb : Str → Option Value} {CX : CXT} {k : Nat} {fa a : Addr} {tb : List (Addr × Addr)} {fd : FuncData} {x : Str} {sp : Sp} {s : Shared} {vs : List Value} {ns : List Int}
end
def seqLike : D → Bool
  | .lst _ => true
  | .tup _ => true
  | _ => false
def fRepr : FL := f1 fun d k => seqLike d = true ∧ SeqAt.shaped (pyD d) = true ∧ (pyD d).showable = true ∧ (pyD d).depth ≤ 40 ∧ (pyD d).shown.length ≤ 16777216 ∧ k (.str (pyD d).shown)
abbrev DSX := DEnds → Env → Nat → (D → Env → Nat → Prop) → Prop
def dSetd (i : Nat) (δk δv : DE) : DSX := fun E ρ n q => match ρ[i]? with
  | some (some (.own (.dct kvs))) => δk (E.xx ρ) ρ n fun k n1 => δv (E.xx ρ) ρ n1 fun d n2 => opt (keyD k) fun j => kvs.length < 16777216 ∧ (∀ e, getD kvs j = some e → q e ρ n2) ∧ (getD kvs j = none → q d (ρ.set i (some (.own (.dct (putD kvs j d))))) n2)
  | _ => False
def dNeX (a : DSX) (b : DE) : DSX := fun E ρ n q => a E ρ n fun x ρ1 n1 => b (E.xx ρ1) ρ1 n1 fun y n2 => fNe x y fun d => q d ρ1 n2
def dOrX (a : DSX) (b : DE) : DSX := fun E ρ n q => a E ρ n fun x ρ1 n1 => ∃ c, x = .bl c ∧ if c = true then q (.bl true) ρ1 n1 else b (E.xx ρ1) ρ1 n1 fun y n2 => q y ρ1 n2
def dSetX (j : Nat) (a : DSX) : DS := fun E ρ n => a E ρ n fun d ρ1 n1 => E.nx (ρ1.set j (some (.val d))) n1
section
variable {X : Cx} {W : WX} {a b k e : Expr} {δa : DSX} {δk δv δb : DE} {pos pos' apos cpos p2 : Pos} {x : Str}
end
end DL

end

section
set_option autoImplicit false
namespace DL
open PySem PySem.Spec PyProof.Rows L2
def flatE : D → Bool
  | .non => true
  | .bl _ => true
  | .int _ => true
  | .str _ => true
  | .dct [] => true
  | _ => false
section
variable {X : Cx} {pins : List (Addr × Obj)} {σ : L2.St} {H G : Hp} {s : Shared}
end
def ReprOk (d : D) : Prop := (seqLike d = true ∧ SeqAt.shaped (pyD d) = true) ∨ ∃ ds, d = .tup ds ∧ ds.all flatE = true
def fReprX : FL := f1 fun d k => ReprOk d ∧ (pyD d).showable = true ∧ (pyD d).depth ≤ 40 ∧ (pyD d).shown.length ≤ 16777216 ∧ k (.str (pyD d).shown)
end DL

end

section
set_option autoImplicit false
namespace DL
open PySem PySem.Spec PyProof.Rows L2
open AutoSeq1 (wpAny_loadPart')
open MeetsSeq MeetsSeq2 MeetsSeq3 SeqRoads2
section
variable {prog : Program} {w : World} {A : Around} {E : Value → Shared → Prop} {s : Shared}
end
def fEqE : F2 := fun x y k => fEq x y k ∨ (x = .dct [] ∧ (∃ i, y = .int i) ∧ k (.bl false))
def fIsnE : F2 := fun x y k => fIsB true x y k ∨ ∃ i b, x = .int i ∧ y = .bl b ∧ k (.bl true)
end DL

end

section
set_option autoImplicit false
namespace DL
open PySem PySem.Spec PyProof.Rows L2 L2H HotX
section
variable {prog : Program} {w : World} {A : Around} {s : Shared} {E : Value → Shared → Prop}
end
end DL

end

section
set_option autoImplicit false
namespace DL
open PySem PySem.Spec L2
def strsD : List D → Option (List Str)
  | [] => some []
  | .str x :: ds => (match strsD ds with
    | some xs => some (x :: xs)
    | none => none)
  | _ => none
theorem strsD_map : ∀ xs : List Str, strsD (xs.map D.str) = some xs
  | [] => rfl
  | x :: xs => by
    show (match strsD (xs.map D.str) with
      | some ys => some (x :: ys)
      | none => none) = _
    rw [strsD_map xs]
theorem strsD_eq : ∀ {ds : List D} {xs : List Str}, strsD ds = some xs → ds = xs.map D.str
  | [], xs, e => by
    cases e
    rfl
  | d :: ds, xs, e => by
    cases d with
    | str x =>
      unfold strsD at e
      cases h : strsD ds with
      | none => rw [h] at e; cases e
      | some ys =>
        rw [h] at e
        cases e
        rw [strsD_eq h]
        rfl
    | _ => cases e
theorem RepL.strs {K : PySem.W.Frag} {G : Hp} : ∀ {xs : List Str} {us : List V}, RepL K G (xs.map D.str) us → us = xs.map V.str
  | [], _, .nil => rfl
  | x :: xs, _, .cons r t => by
    cases r
    rw [RepL.strs t]
    rfl
theorem RepL.of_strs {K : PySem.W.Frag} {G : Hp} : ∀ xs : List Str, RepL K G (xs.map D.str) (xs.map V.str)
  | [] => .nil
  | x :: xs => .cons (.str x) (RepL.of_strs xs)
section
variable {K : PySem.W.Frag}
def fStr : FL := f1 fun d k => match d with
  | .str a => k (.str a)
  | _ => False
def fSortedS : FL := f1 fun d k => match d with
  | .lst ds => (match strsD ds with
    | some xs => xs.length < 64 ∧ ∀ ys : List Str, ys.Perm xs → PyProof.Rows.sortedS ys = true → k (.lst (ys.map D.str))
    | none => False)
  | _ => False
end
end DL

end

section
set_option autoImplicit false
namespace DL
open PySem PySem.Spec PyProof.Rows L2
open AutoSeq1 (wpAny_loadPart')
def rNil (neg : Bool) : R2 := fun x y H Q => ∃ (a b : Addr) (vs : List V), x = .ref a ∧ y = .ref b ∧ H a = some (.lst vs) ∧ H b = some (.lst []) ∧ Q (.bl (vs.isEmpty != neg)) H
def fNil (neg : Bool) : F2 := fun x y k => match x, y with
  | .lst ds, .lst [] => k (.bl (ds.isEmpty != neg))
  | _, _ => False
theorem op_neNil {X : Cx} (hu : X.A.units + 64 < cLine) : OpR X (compareOp .NotEq) (rNil true) := by
  intro pins s σ H x y v u Q I rx ry h
  obtain ⟨a, b, vs, rfl, rfl, ha, hb, q⟩ := h
  obtain rfl : v = Value.ref a := rx
  obtain rfl : u = Value.ref b := ry
  obtain ⟨z, is, n1, r1, o1⟩ := I.hok _ _ ha
  obtain ⟨z2, js, n2, r2, o2⟩ := I.hok _ _ hb
  show wpAny _ _ (richCompare .NotEq (.ref a) (.ref b)) _ _ _
  cases r2
  cases r1 with
  | nil => exact rc_neB (N := 0) (b := fun _ => true) (by omega) (fun s1 => s1 = s) (fun s1 e => by
      subst e
      exact ⟨_, _, n1, n2, o1, o2, rfl, rfl, fun i h1 _ => absurd h1 (Nat.not_lt_zero _)⟩) (fun s1 e => by subst e; exact ⟨.bl false, H, I, rfl, q⟩) rfl
  | cons r t => exact rc_neD (by omega) o1 o2 (by rw [List.size_toArray, List.size_toArray, List.length_cons]; exact Nat.succ_ne_zero _) ⟨.bl true, H, I, rfl, q⟩
theorem dop_nil {K : PySem.W.Frag} (neg : Bool) : DOp K (rNil neg) (fNil neg) := by
  intro W H G x y dx dy Q k le rx ry hf hk
  unfold fNil at hf
  split at hf
  · rename_i ds
    obtain ⟨a, vs, rfl, h1, r1⟩ := rx.lst le
    obtain ⟨b, us, rfl, h2, r2⟩ := ry.lst le
    cases r2
    refine ⟨a, b, vs, rfl, rfl, h1, h2, ?_⟩
    have e : vs.isEmpty = ds.isEmpty := by
      cases r1 <;> rfl
    rw [e]
    exact hk _ H G _ (.refl le) (.bl _) hf
  · exact hf.elim
section
variable {X : Cx} {W : WX} {a b : Expr} {δa δb : DE} {pos : Pos}
theorem pt_neNil (hu : X.A.units + 64 < cLine) (ha : PB X W a δa) (hb : PB X W b δb) : PTD X W (.Compare a [.NotEq] [b] pos) (dTest (dOp (fNil true) δa δb)) := pt_cmpD (op_neNil hu) (dop_nil _) ha hb (nomark _)
end
end DL

end

section
set_option autoImplicit false
namespace DL
open PySem PySem.Spec L2
def mixD (a : Addr) : D → D
  | .non => .hnd a
  | e => e
def fstM : D → D
  | .tup [d, _] => d
  | d => d
def sndM : D → D
  | .tup [_, e] => e
  | _ => .non
def mixL : List Addr → List D → List D
  | a :: as, e :: es => mixD a (sndM e) :: mixL as es
  | _, _ => []
def EM (K : PySem.W.Frag) (W : WX) (t : TE) (δ : DE) : Prop :=
  ∀ (B : Bs) (σ : L2.St) (H : Hp) (ρ : DL.Env) (n : Nat) (G : Hp) (α : Nat → Addr) (Q : VK) (x : DX) (q : DQ), B.K = K → RelB B σ H ρ n G α → XL B W σ H G x → δ x ρ n q →
    (∀ v a H' G' d e n', Step B.W H G H' G' → B.W.J n' H' → H a = none → G' a = none → ¬ B.W.rg a → OwnAt K G' H' a d → Rep K G' (mixD a e) v → q (.tup [d, e]) n' → Q v H') → t σ H Q
def PM (X : Cx) (W : WX) (e : Expr) (δ : DE) : Prop := ∃ t, PE X e t ∧ EM X.K W t δ
def dLcM (ι : DI) (γ : DG) (tt : DT) (te : DE) (vs : List Nat) : DSl := fun x ρ n q => ι x ρ n fun ds n1 => lcD x.w γ tt te ds (wipeD ρ vs) n1 [] fun es n2 => ∀ (a : Addr) (bs : List Addr), bs.length = es.length → (a :: bs).Nodup → q (.gst (.hnd a) ((a, .lst (mixL bs es)) :: bs.zip (es.map fstM))) n2
section
variable {X : Cx} {W : WX} {elt tg iter : Expr} {ifs : List Expr} {scope : Scope} {own : List (Str × Nat)} {pos spos py : Pos} {ι : DI} {γ : DG} {τ : DT} {δ : DE} {sl : List Nat} {y : Str}
def mOf (K : PySem.W.Frag) (W : WX) (δ : DE) : TE := fun σ H Q => ∃ (B : Bs) (ρ : DL.Env) (n : Nat) (G : Hp) (α : Nat → Addr) (x : DX) (q : DQ), B.K = K ∧ RelB B σ H ρ n G α ∧ XL B W σ H G x ∧ δ x ρ n q ∧
  (∀ v a H' G' d e n', Step B.W H G H' G' → B.W.J n' H' → H a = none → G' a = none → ¬ B.W.rg a → OwnAt K G' H' a d → Rep K G' (mixD a e) v → q (.tup [d, e]) n' → Q v H')
theorem PM.pe {e : Expr} {δ : DE} (h : PM X W e δ) : PE X e (mOf X.K W δ) := by
  obtain ⟨t, p, h⟩ := h
  refine ⟨fun pins s σ H Q I hw => ?_⟩
  obtain ⟨B, ρ, n, G, α, x, q, hK, R, hx, hd, k⟩ := hw
  exact p.run pins s σ H Q I (h B σ H ρ n G α Q x q hK R hx hd k)
end
def dPickM (F : DF) (δs δ1 δ2 : DE) : DE := fun x ρ n q => δs x ρ n fun d0 n1 => δ1 x ρ n1 fun d n2 => δ2 x ρ n2 fun e n3 => (∀ a, mixD a e = e) ∧ ∀ a, F x.w [d0, .lst [.hnd a, e]] n3 (fun r n4 => (r = .hnd a ∧ q (.tup [d, .non]) n4) ∨ (r = e ∧ q (.tup [d, e]) n4)) x.ex
section
variable {X : Cx} {W : WX} {k : Nat} {F : DF} {f : Str} {p pos lp : Pos} {e0 e1 e2 : Expr} {δs δ1 δ2 : DE}
end
def dLcG (i : Nat) (γ : DG) (tt : DT) (te : DE) (vs : List Nat) : DE := fun x ρ n q => ∃ (a : Addr) (gs : List (Addr × D)) (ds : List D), ρ[i]? = some (some (.gst (.hnd a) gs)) ∧ lkG gs a = some (.lst ds) ∧ lcD x.w γ tt te ds (wipeD ρ vs) n [] fun es n2 => q (.lst es) n2
section
variable {X : Cx} {W : WX} {elt tg : Expr} {ifs : List Expr} {scope : Scope} {pos pos' spos py : Pos} {γ : DG} {τ : DT} {δ : DE} {sl : List Nat} {x y : Str}
end
structure MgE (P : Program) (w : World) (K : PySem.W.Frag) (mg : Str → Option Value) (base : Heap) (c x : Str) (k m : Nat) (F : DFE) (dvd : List D) : Prop where
  cl : Cls K (ca K c)
  ex : ∃ (f : Addr) (fd : FuncData) (ps : List Str) (ds : List Value) (dvs : List V), FnOk P w K mg base (L2.CX P w) k f fd ps (spWE K m F) ∧ Meth K (ca K c) x f ∧ Binds K fd ps ds ∧ Vals dvs ds ∧ ∀ G, RepL K G dvd dvs
def dMethE (c y : Str) (m : Nat) (F : DFE) (dvd : List D) (δ : DE) (a : DA) : DSl := fun x ρ n q => δ x ρ n fun d n1 => match d with
  | .obj c' fs => c' = c ∧ fs.lookup y = none ∧ a x ρ n1 fun ds n2 => (ds ++ dvd).length + 1 = m ∧ F x.w (.obj c' fs :: (ds ++ dvd)) n2 q x.ex
  | _ => False
section
variable {X : Cx} {W : WX} {k m : Nat} {F : DFE} {dvd : List D} {c y : Str} {pos apos : Pos} {e o : Expr} {es : List Expr} {a : DA} {δ : DE}
end
end DL

end

section
set_option autoImplicit false
namespace DL
open PySem PySem.Spec L2
def chrs (x : Str) : List D := x.cps.toList.map fun c => D.str ⟨#[c]⟩
def iStrD (δ : DE) : DI := fun x ρ n q => δ x ρ n fun d n1 => match d with
  | .str z => q (chrs z) n1
  | _ => False
section
variable {K : PySem.W.Frag}
theorem walkD_str {G : Hp} (z : Str) : WalkD K (Its z) G (chrs z) := by
  have w := walk_str (z := z)
  have hl : (chrs z).length = z.cps.size := by simp [chrs]
  refine ⟨fun i H G' hi l1 l2 => w.goes i H (by omega) trivial, fun H G' l1 l2 => by rw [hl]; exact w.stops H trivial, fun i H G' x H' hi l1 l2 y => ?_⟩
  obtain ⟨e1, c, e2, e3⟩ := w.yields i H x H' (by omega) trivial y
  subst e1
  subst e3
  refine ⟨.str ⟨#[c]⟩, G', ?_, .refl l2, .str _⟩
  unfold chrs
  rw [List.getElem?_map, Array.getElem?_toList, e2]
  rfl
end
section
variable {X : Cx} {W : WX} {tg e a b o : Expr} {δ δo : DE} {α' : DA} {p pos apos : Pos}
theorem pid_str (h : PD X W e δ) : PID X W tg e (iStrD δ) := by
  obtain ⟨t, pe, h⟩ := h
  refine ⟨_, pi_str pe, fun B σ H ρ n G α R x q hK RB hx hd k => ?_⟩
  refine h B σ H ρ n G α _ x _ hK RB hx hd fun v H1 G1 d n1 s1 j1 r1 h1 => ?_
  split at h1
  · rename_i z
    cases r1
    exact ⟨z, rfl, k _ H1 G1 _ n1 s1 j1 (walkD_str z) h1⟩
  · exact h1.elim
def fInS (neg : Bool) : F2 := fun x y k => match x, y with
  | .str a, .str z => (match a.cps.toList with
    | [c] => k (.bl (if neg then !decide (c ∈ z.cps.toList) else decide (c ∈ z.cps.toList)))
    | _ => False)
  | _, _ => False
theorem dop_inS {K : PySem.W.Frag} : DOp K (fun x y H Q => ∃ (c : Nat) (z : Str), x = .str ⟨#[c]⟩ ∧ y = .str z ∧ Q (.bl (decide (c ∈ z.cps.toList))) H) (fInS false) := by
  intro W H G x y dx dy Q k le rx ry hf hk
  unfold fInS at hf
  split at hf
  · rename_i a z
    split at hf
    · rename_i c e
      have ea : a = ⟨#[c]⟩ := Str.ext' (Array.toList_inj.mp e)
      subst ea
      rcases rx with rx | ⟨_, _, _, _, o⟩
      · rcases ry with ry | ⟨_, _, _, _, o⟩
        · cases rx; cases ry
          exact ⟨c, z, rfl, rfl, hk _ H G _ (.refl le) (.bl _) hf⟩
        · exact o.elim
      · exact o.elim
    · exact hf.elim
  · exact hf.elim
variable {δa δb : DE}
theorem pd_inS (ha : PB X W a δa) (hb : PB X W b δb) (hm : behindInMarks .In b = false := by rfl) : PD X W (.Compare a [.In] [b] pos) (dOp (fInS false) δa δb) := pd_cmp op_in_sign dop_inS ha hb hm
end
section
variable {K : PySem.W.Frag}
def fLenS : FL := f1 fun d k => match d with
  | .str z => z.length ≤ 16777216 ∧ k (.int z.length)
  | _ => False
theorem dcall_lenS : DCall K (fun xs H Q => ∃ x n, xs = [x] ∧ LenV K x H n ∧ Q (.int n) H) fLenS := by
  intro W H G vs ds Q k le r hf hk
  unfold fLenS f1 at hf
  split at hf
  · rename_i d
    obtain ⟨v, rfl, r0⟩ := r.one
    split at hf
    · rename_i z
      rcases r0 with r0 | ⟨_, _, _, _, o⟩
      · cases r0
        exact ⟨_, z.length, rfl, ⟨by rw [sizeLine_eq]; exact hf.1, rfl⟩, hk _ H G _ (.refl le) (.int _) hf.2⟩
      · exact o.elim
    · exact hf.elim
  · exact hf.elim
end
def dJoin (δo δ : DE) : DE := fun x ρ n q => δo x ρ n fun o n1 => match o with
  | .str a => δ x ρ n1 fun d n2 => (match d with
    | .lst ds => (match strsD ds with
      | some ys => (ys.map (·.length)).sum + ys.length * a.length ≤ 16777216 ∧ q (.str (Txt.join a ys)) n2
      | none => False)
    | _ => False)
  | _ => False
section
variable {X : Cx} {W : WX} {e o : Expr} {δ δo : DE} {pos apos p : Pos}
theorem pd_join (ho : PD X W o δo) (he : PD X W e δ) (hs : starEach [e] X.env = [(false, eval e X.env)] := by rfl) (hbase : attributeBase o "join" X.env (eval o X.env) = eval o X.env := by rfl) (hline : (apos.endLine == pos.line) = true := by rfl) :
    PD X W (.Call (.Attribute o "join" apos) [e] [] pos) (dJoin δo δ) := by
  obtain ⟨to, po, eo⟩ := ho
  obtain ⟨te, pe, ee⟩ := he
  refine ⟨_, pe_join po pe hs hbase hline, fun B σ H ρ n G α Q x q hK R hx hd k => ?_⟩
  refine eo B σ H ρ n G α _ x _ hK R hx hd fun v0 H0 G0 d0 n0 s0 j0 r0 h0 => ?_
  have R0 := R.step s0 j0
  cases d0 with
  | str a =>
    cases r0
    refine ⟨⟨a, rfl⟩, ?_⟩
    refine ee B σ H0 ρ n0 G0 α _ x _ hK R0 (hx.step s0) h0 fun v1 H1 G1 d1 n1 s1 j1 r1 h1 => ?_
    cases d1 with
    | lst ds =>
      cases es : strsD ds with
      | none => simp only [es] at h1
      | some ys =>
        simp only [es] at h1
        have e' := strsD_eq es
        subst e'
        cases r1 with
        | lst e2 r2 =>
          rw [RepL.strs r2] at e2
          exact ⟨a, _, ys, rfl, rfl, .inl (SqL.of (s1.hh.get e2)), h1.1, k _ H1 G1 _ n1 (s0.trans s1) j1 (.str _) h1.2⟩
    | _ => exact h1.elim
  | _ => exact h0.elim
end
theorem vals_signs : ∀ (l : List Nat) (us : List Value), us.length = l.length → (∀ (j : Nat) (v : Value), us[j]? = some v → ∃ c u, l[j]? = some c ∧ v = .str ⟨#[c]⟩ u) → Vals (l.map fun c => V.str ⟨#[c]⟩) us
  | [], [], _, _ => .nil
  | [], _ :: _, h, _ => by simp at h
  | _ :: _, [], h, _ => by simp at h
  | c :: l, u :: us, h, g => by
    obtain ⟨c', t, e1, e2⟩ := g 0 u rfl
    cases e1
    exact .cons ⟨t, e2⟩ (vals_signs l us (by simpa using h) fun j v e => g (j + 1) v (by simpa using e))
theorem call_list_strR {X : Cx} (hh : X.A.handled = none) : CallR X (.type "list") (fun xs H Q => ∃ z, xs = [.str z] ∧ z.cps.size ≤ sizeLine ∧ ∀ l, H l = none → Q (.ref l) (upd H l (.lst (z.cps.toList.map fun c => V.str ⟨#[c]⟩)))) := by
  intro pins s σ H xs us Q I r h
  obtain ⟨z, rfl, hz, q⟩ := h
  obtain ⟨u, rfl, rx⟩ := vals1 r
  obtain ⟨t, rfl⟩ := rx
  refine PySem.call_list_str hh z t (fun h' tk acc' c' kp e ⟨hl, hi⟩ => ?_) hz
  have rv : Vals (z.cps.toList.map fun c => V.str ⟨#[c]⟩) acc'.toList := by
    refine vals_signs _ _ (by rw [Array.length_toList, Array.length_toList]; exact hl) fun j v e => ?_
    obtain ⟨c, u, e1, e2⟩ := hi j v (by rw [← Array.getElem?_toList]; exact e)
    exact ⟨c, u, by rw [Array.getElem?_toList]; exact e1, e2⟩
  exact ⟨.ref s.heap.objs.size, _, I.laid (t' := tk) kp (Nat.le_refl _) (show ObjOk X.prog X.w _ h' _ (.lst _) from ⟨by simpa using hz, acc'.toList, c', rv, by simpa using e⟩), rfl, q _ (I.hok.fresh (Nat.le_refl _))⟩
def dListS (δ : DA) : DE := fun x ρ n q => δ x ρ n fun ds n1 => match ds with
  | [.str z] => z.cps.size ≤ 16777216 ∧ q (.lst (chrs z)) n1
  | _ => False
section
variable {X : Cx} {W : WX} {e : Expr} {α' : DA} {pos p : Pos}
theorem pf_listS {k : Nat} (hr : Room k X.A) (hg : Gl X "list") (hm : X.mg "list" = none) (ha : PAD X W [e] α') (hst : starEach [e] X.env = (false, eval e X.env) :: starEach [] X.env := by rfl) (hpl : (backTo pos (starEach [] X.env)).any (·.1) = false := by rfl) :
    PF X W (.Call (.Name "list" p) [e] [] pos) (dListS α') := by
  obtain ⟨t, pa, ea⟩ := ha
  refine ⟨_, pe_callTy (call_list_strR hr.hd) hg hm (by decide +kernel) pa (by decide) (by decide) hst hpl, fun B σ H ρ n G α Q x q hK R hx hd k => ?_⟩
  refine ea B σ H ρ n G α _ x _ hK R hx hd fun vs H1 G1 ds n1 s1 j1 r hf => ?_
  unfold dListS at hf
  split at hf
  · rename_i z
    cases r with
    | cons r0 rt =>
      cases rt
      cases r0
      refine ⟨z, rfl, by rw [sizeLine_eq]; exact hf.1, fun l np => ?_⟩
      have s := StepP.laid (o := .lst (z.cps.toList.map fun c => V.str ⟨#[c]⟩)) s1.hh np
      have nr : ¬ B.W.rg l := fun r => B.W.there n1 H1 l j1 r np
      have h0 : H l = none := by
        cases e : H l with
        | none => rfl
        | some o => rw [s1.fr l o e nr] at np; cases np
      have g0 : G1 l = none := by
        cases e : G1 l with
        | none => rfl
        | some o =>
          obtain ⟨o', e', _⟩ := s1.hh l o e
          rw [np] at e'; cases e'
      refine k l _ _ (.lst (chrs z)) n1 (s1.trans (s.step j1)) (s.J j1) h0 g0 nr ⟨_, upd_same, ?_⟩ hf.2
      unfold chrs
      have z1 := RepL.of_strs (K := X.K) (G := G1) (z.cps.toList.map fun c => (⟨#[c]⟩ : Str))
      rw [List.map_map, List.map_map] at z1
      exact z1
  · exact hf.elim
end
def gTa (m : Nat) (a : DGs) : DG := fun d ρ q => match d with
  | .tup ds => ds.length = m ∧ a ds ρ q
  | .lst ds => ds.length = m ∧ a ds ρ q
  | _ => False
section
variable {X : Cx} {pos : Pos}
end
def spR (K : PySem.W.Frag) (F : DF) : Sp := fun vs H Q E => ∃ (W : Wd) (n : Nat) (G : Hp) (d : D) (ds : List D) (q : DQ) (x : Xn → Nat → Prop), Le G H ∧ (∀ a, W.rg a → G a = none) ∧ W.J n H ∧ RepL K G (d :: ds) vs ∧ ds.length ≤ 16777216 ∧ F W [d, .tup ds] n q x ∧
  (∀ v H' G' d n', Step W H G H' G' → W.J n' H' → Rep K G' d v → q d n' → Q v H') ∧
  (∀ c dd H' G' e n', Step W H G H' G' → W.J n' H' → XRep K W H G' H' e c dd → x e n' → E c dd H')
structure MgR (P : Program) (w : World) (K : PySem.W.Frag) (mg : Str → Option Value) (base : Heap) (c x : Str) (k : Nat) (F : DF) : Prop where
  cl : Cls K (ca K c)
  ex : ∃ f : Addr, FnR P w K mg base (L2.CX P w) k f (spR K F) ∧ Meth K (ca K c) x f
section
variable {X : Cx} {CX : CXT} {k : Nat} {f C : Addr} {sp : Sp} {E : St → XK} {x m : Str} {p pos apos : Pos} {e o : Expr} {es : List Expr} {ta : TE} {t : TA}
end
def dMethR (c y : Str) (F : DF) (δ : DE) (a : DA) : DE := fun x ρ n q => δ x ρ n fun d n1 => match d with
  | .obj c' fs => c' = c ∧ fs.lookup y = none ∧ a x ρ n1 fun ds n2 => ds.length ≤ 16777216 ∧ F x.w [.obj c' fs, .tup ds] n2 q x.ex
  | _ => False
section
variable {X : Cx} {W : WX} {k : Nat} {F : DF} {x c y : Str} {p pos apos : Pos} {e o : Expr} {es : List Expr} {a : DA} {δ : DE}
end
end DL

end

section
set_option autoImplicit false
namespace DL
open PySem PySem.Spec PyProof PyProof.Rows L2
section
variable {X : Cx} {k : Nat} {C f f2 : Addr} {fd fd2 : FuncData} {p p2 fld : Str}
def dListOL (c fld : Str) (δ : DE) : DE := fun x ρ n q => δ x ρ n fun d n1 => match d with
  | .obj c' fs => c' = c ∧ (match fs.lookup fld with
    | some (.lst ds) => q (.lst ds) n1
    | _ => False)
  | _ => False
variable {W : WX} {δ : DE} {c : Str} {e : Expr} {pos p0 : Pos}
end
end DL

end

section
set_option autoImplicit false
namespace DL
open PySem PySem.Spec L2
def lcD2 (w : Wd) (γ : DG) (tt : DT) (ι1 : DI) (γ1 : DG) (tt1 : DT) (te : DE) (vs1 : List Nat) : List D → Env → Nat → List D → (List D → Nat → Prop) → Prop
  | [], _, n, acc, q => q acc n
  | d :: ds, ρ, n, acc, q => γ d ρ fun ρ1 => tt (x0 w) ρ1 n fun b n1 => if b = true then ι1 (x0 w) ρ1 n1 fun es n2 => lcD w γ1 tt1 te es (wipeD ρ1 vs1) n2 acc fun acc' n3 => lcD2 w γ tt ι1 γ1 tt1 te vs1 ds ρ n3 acc' q
    else lcD2 w γ tt ι1 γ1 tt1 te vs1 ds ρ n1 acc q
def dLc2 (ι : DI) (γ : DG) (tt : DT) (ι1 : DI) (γ1 : DG) (tt1 : DT) (te : DE) (vs vs1 : List Nat) : DE := fun x ρ n q => ι x ρ n fun ds n1 => lcD2 x.w γ tt ι1 γ1 tt1 te vs1 ds (wipeD ρ vs) n1 [] fun es n2 => q (.lst es) n2
def iOf (K : PySem.W.Frag) (W : WX) (ι : DI) : TI := fun σ H R => ∃ (B : Bs) (ρ : Env) (n : Nat) (G : Hp) (α : Nat → Addr) (x : DX) (q : List D → Nat → Prop), B.K = K ∧ RelB B σ H ρ n G α ∧ XL B W σ H G x ∧ ι x ρ n q ∧
  (∀ J H' G' ds n', Step B.W H G H' G' → B.W.J n' H' → WalkD K J G' ds → q ds n' → R J H')
theorem PID.pi {X : Cx} {W : WX} {tg e : Expr} {ι : DI} (h : PID X W tg e ι) : PI X tg e (iOf X.K W ι) := by
  obtain ⟨t, p, h⟩ := h
  refine ⟨fun pins s σ H R I hw => ?_⟩
  obtain ⟨B, ρ, n, G, α, x, q, hK, RB, hx, hd, k⟩ := hw
  exact p.run pins s σ H R I (h B σ H ρ n G α R x q hK RB hx hd k)
structure OffA (D : Addr) (ρ : DL.Env) (α : Nat → Addr) : Prop where
  own : ∀ (i : Nat) (d : DL.D), ρ[i]? = some (some (.own d)) → α i ≠ D
  gst : ∀ (i : Nat) (r : DL.D) (gs : List (Addr × DL.D)), ρ[i]? = some (some (.gst r gs)) → ∀ g ∈ gs, g.1 ≠ D
section
variable {B : Bs} {σ : L2.St} {H : Hp} {ρ : DL.Env} {n : Nat} {G : Hp} {α : Nat → Addr} {D : Addr}
theorem OffA.wipe (h : OffA D ρ α) (vs : List Nat) : OffA D (wipeD ρ vs) α := ⟨fun i d e => h.own i d (wipeD_some e).1, fun i r gs e => h.gst i r gs (wipeD_some e).1⟩
def markB (B : Bs) (D : Addr) (o : HO) : Bs := { B with H0 := fun a => if a = D then some o else B.H0 a }
theorem RelB.mark (R : RelB B σ H ρ n G α) (f : OffA D ρ α) {o : HO} (hD : H D = some o) (gD : G D = none) : RelB (markB B D o) σ H ρ n G α := by
  have ne : ∀ {a : Addr}, a ≠ D → (markB B D o).H0 a = B.H0 a := fun h => if_neg h
  refine ⟨⟨fun a u e nr => ?_, R.st.le, R.st.hh, fun a e => ?_⟩, R.rg, R.J, R.len, R.val, fun i d e => ?_, R.inj, R.p0, ⟨R.gh.gst, fun i r gs e g hm => ?_, R.gh.sep, R.gh.off, R.gh.p1⟩⟩
  · by_cases z : a = D
    · subst z
      have e' : some o = some u := by rw [← e]; exact (if_pos rfl).symm
      cases e'
      exact hD
    · rw [ne z] at e
      exact R.st.fr a u e nr
  · have z : a ≠ D := fun z => e (by rw [z]; exact gD)
    rcases R.st.new a e with h | ⟨h, h'⟩
    · exact .inl h
    · exact .inr ⟨by rw [ne z]; exact h, h'⟩
  · obtain ⟨h1, h2, h3, h4, h5⟩ := R.own i d e
    exact ⟨h1, h2, by rw [ne (f.own i d e)]; exact h3, h4, h5⟩
  · obtain ⟨h1, h2, h3, h4⟩ := R.gh.at_ i r gs e g hm
    exact ⟨h1, by rw [ne (f.gst i r gs e g hm)]; exact h2, h3, h4⟩
end
section
variable {X : Cx} {W : WX} {elt tg iter tg1 iter1 : Expr} {ifs ifs1 : List Expr} {scope : Scope} {own : List (Str × Nat)} {pos spos py : Pos} {ι ι1 : DI} {γ γ1 : DG} {τ τ1 : DT} {δ : DE} {sl sl1 : List Nat} {y : Str}
end
structure MgS (P : Program) (w : World) (K : PySem.W.Frag) (mg : Str → Option Value) (base : Heap) (c x : Str) (k : Nat) (F : DF) : Prop where
  cl : Cls K (ca K c)
  ex : ∃ f : Addr, FnR P w K mg base (L2.CX P w) k f (spR K F) ∧ BMeth K (ca K c) x f
theorem MgS.r {P : Program} {w : World} {K : PySem.W.Frag} {mg : Str → Option Value} {base : Heap} {c x : Str} {k : Nat} {F : DF} (h : MgS P w K mg base c x k F) : MgR P w K mg base c x k F := by
  obtain ⟨f, h1, h2⟩ := h.ex
  exact ⟨h.cl, f, h1, h2.mt⟩
def dMethS (c y : Str) (F : DF) (δ δ2 : DE) : DE := fun x ρ n q => δ x ρ n fun d n1 => match d with
  | .obj c' fs => c' = c ∧ fs.lookup y = none ∧ δ2 x ρ n1 fun d2 n2 => (match seqD d2 with
    | some ds => ds.length ≤ 16777216 ∧ F x.w [.obj c' fs, .tup ds] n2 q x.ex
    | none => False)
  | _ => False
section
variable {X : Cx} {W : WX} {k : Nat} {F : DF} {c y : Str} {p pos apos : Pos} {e o : Expr} {δ δ2 : DE}
end
def dIndex (δo δ : DE) : DE := fun x ρ n q => δo x ρ n fun o n1 => match o with
  | .lst ds => δ x ρ n1 fun d n2 => flatD d = true ∧ ds.all flatD = true ∧ (match ds.findIdx? (fun y => eqD y d) with
    | some j => q (.int (j : Nat)) n2
    | none => False)
  | _ => False
section
variable {X : Cx} {W : WX} {o e : Expr} {δo δ : DE} {apos cpos : Pos}
end
end DL

end

section
set_option autoImplicit false
namespace DL
open PySem PySem.Spec L2 LamX
section
variable {X : Cx} {CX : CXT} {k : Nat} {f : Addr} {fd : FuncData} {ps : List Str} {sp : Sp} {dvs : List V} {ds : List Value} {E : St → XK} {x : Str} {p pos : Pos} {e : Expr} {es : List Expr} {t : TA}
end
structure SgG (P : Program) (w : World) (K : PySem.W.Frag) (mg : Str → Option Value) (base : Heap) (x : Str) (k m : Nat) (F : DF) (dvd : List D) : Prop where
  ex : ∃ (f : Addr) (fd : FuncData) (ps : List Str) (ds : List Value) (dvs : List V), FnG P w K mg base (L2.CX P w) k f fd ps (spW K m F) ∧ mg x = some (.ref f) ∧ PySem.W.keepIn K (.ref f) = true ∧ Binds K fd ps ds ∧ Vals dvs ds ∧ ∀ G, RepL K G dvd dvs
end DL

end

section
set_option autoImplicit false
namespace DL
open PySem PySem.Spec L2
def dSplit (δo δ : DE) : DE := fun x ρ n q => δo x ρ n fun o n1 => match o with
  | .str a => δ x ρ n1 fun d n2 => (match d with
    | .str b => ((b.length == 0) = false ∧ a.length + 2 ≤ 16777216) ∧ q (.lst ((Txt.split a b).map D.str)) n2
    | _ => False)
  | _ => False
section
variable {X : Cx} {W : WX} {e o : Expr} {δ δo : DE} {pos apos p : Pos}
theorem pf_split (ho : PD X W o δo) (he : PD X W e δ) (hs : starEach [e] X.env = [(false, eval e X.env)] := by rfl) (hbase : attributeBase o "split" X.env (eval o X.env) = eval o X.env := by rfl) (hline : (apos.endLine == pos.line) = true := by rfl) :
    PF X W (.Call (.Attribute o "split" apos) [e] [] pos) (dSplit δo δ) := by
  obtain ⟨to, po, eo⟩ := ho
  obtain ⟨te, pe, ee⟩ := he
  refine ⟨_, pe_split po pe hs hbase hline, fun B σ H ρ n G α Q x q hK R hx hd k => ?_⟩
  refine eo B σ H ρ n G α _ x _ hK R hx hd fun v0 H0 G0 d0 n0 s0 j0 r0 h0 => ?_
  have R0 := R.step s0 j0
  cases d0 with
  | str a =>
    cases r0
    refine ⟨⟨a, rfl⟩, ?_⟩
    refine ee B σ H0 ρ n0 G0 α _ x _ hK R0 (hx.step s0) h0 fun v1 H1 G1 d1 n1 s1 j1 r1 h1 => ?_
    cases d1 with
    | str b =>
      cases r1
      refine ⟨a, b, rfl, rfl, h1.1.1, by rw [sizeLine_eq]; exact h1.1.2, fun l np => ?_⟩
      have s01 := s0.trans s1
      have s := StepP.laid (o := .lst ((Txt.split a b).map V.str)) s1.hh np
      have nr : ¬ B.W.rg l := fun r => B.W.there n1 H1 l j1 r np
      have hN : H l = none := by
        cases e : H l with
        | none => rfl
        | some o => rw [s01.fr l o e nr] at np; cases np
      have gN : G1 l = none := by
        cases e : G1 l with
        | none => rfl
        | some o =>
          obtain ⟨o', e', _⟩ := s1.hh l o e
          rw [np] at e'; cases e'
      exact k l _ _ (.lst ((Txt.split a b).map D.str)) n1 (s01.trans (s.step j1)) (s.J j1) hN gN nr ⟨_, upd_same, RepL.of_strs _⟩ h1.2
    | _ => exact h1.elim
  | _ => exact h0.elim
end
def dSlS (δ : DE) (l h : DO) : DE := fun x ρ n q => δ x ρ n fun d n1 => l x ρ n1 fun lo n2 => h x ρ n2 fun hi n3 => match d with
  | .str a => a.length ≤ 16777216 ∧ q (.str (cutS a lo hi)) n3
  | _ => False
section
variable {X : Cx} {W : WX} {e : Expr} {lo hi : Option Expr} {δ : DE} {l h : DO} {p2 pos : Pos}
theorem pd_slS (he : PD X W e δ) (hl : PDO X W lo l) (hh : PDO X W hi h) : PD X W (.Subscript e (.Slice lo hi none p2) pos) (dSlS δ l h) := by
  obtain ⟨t, p, he⟩ := he
  obtain ⟨tl, pl, el⟩ := hl
  obtain ⟨th, ph, eh⟩ := hh
  refine ⟨_, pe_slice sl_str p pl ph, fun B σ H ρ n G α Q x q hK R hx hd k => ?_⟩
  refine he B σ H ρ n G α _ x _ hK R hx hd fun v H1 G1 d n1 s1 j1 r1 h1 => ?_
  have R1 := R.step s1 j1
  refine el B σ H1 ρ n1 G1 α _ x _ hK R1 (hx.step s1) h1 fun lo' H2 G2 n2 s2 j2 h2 => ?_
  have R2 := R1.step s2 j2
  refine eh B σ H2 ρ n2 G2 α _ x _ hK R2 ((hx.step s1).step s2) h2 fun hi' H3 G3 n3 s3 j3 h3 => ?_
  cases d with
  | str a =>
    cases r1
    exact ⟨a, rfl, by rw [sizeLine_eq]; exact h3.1, k _ _ _ _ n3 (s1.trans (s2.trans s3)) j3 (.str _) h3.2⟩
  | _ => exact h3.elim
end
def fIxS : F2 := fun x y k => match x, y with
  | .str a, .int i => (match a.cps[i.toNat]? with
    | some c => (0 ≤ i ∧ i < 2 ^ 63 ∧ i < a.length) ∧ k (.str ⟨#[c]⟩)
    | none => False)
  | _, _ => False
section
variable {X : Cx} {W : WX} {a b : Expr} {δa δb : DE} {pos : Pos}
theorem pd_ixS (ha : PB X W a δa) (hb : PB X W b δb) (hs : PlainIxT b := by exact fun _ _ => rfl) : PD X W (.Subscript a b pos) (dOp fIxS δa δb) := by
  obtain ⟨ta, pa, ea⟩ := ha
  obtain ⟨tb, pb, eb⟩ := hb
  refine ⟨_, pe_item_str pa pb hs, ed_op ?_ ea eb⟩
  intro W H G x y dx dy Q k le rx ry hf hk
  unfold fIxS at hf
  split at hf
  · rename_i z i
    split at hf
    · rename_i c ec
      exact ⟨z, i, c, rx.str, ry.int, hf.1.1, hf.1.2.1, hf.1.2.2, ec, hk _ H G _ (.refl le) (.str _) hf.2⟩
    · exact hf.elim
  · exact hf.elim
end
def fEqS (neg : Bool) : F2 := fun x y k => match x, y with
  | .str a, .str b => k (.bl (if neg then !decide (a = b) else decide (a = b)))
  | _, _ => False
theorem decV {a b : Str} : decide (V.str a = V.str b) = decide (a = b) := by
  by_cases h : a = b
  · subst h
    simp
  · simp [h]
section
variable {X : Cx} {W : WX} {a b : Expr} {δa δb : DE} {pos : Pos}
theorem dop_eqS {K : PySem.W.Frag} : DOp K rEq (fEqS false) := by
  intro W H G x y dx dy Q k le rx ry hf hk
  unfold fEqS at hf
  split at hf
  · rename_i c d
    have e1 := rx.str
    have e2 := ry.str
    subst e1; subst e2
    exact ⟨rfl, hk _ H G _ (.refl le) (by rw [decV]; exact .bl _) hf⟩
  · exact hf.elim
theorem dop_neS {K : PySem.W.Frag} : DOp K rNe (fEqS true) := by
  intro W H G x y dx dy Q k le rx ry hf hk
  unfold fEqS at hf
  split at hf
  · rename_i c d
    have e1 := rx.str
    have e2 := ry.str
    subst e1; subst e2
    exact ⟨rfl, hk _ H G _ (.refl le) (by rw [decV]; exact .bl _) hf⟩
  · exact hf.elim
theorem pd_eqS (ha : PB X W a δa) (hb : PB X W b δb) : PD X W (.Compare a [.Eq] [b] pos) (dOp (fEqS false) δa δb) := pd_cmp op_eq dop_eqS ha hb (nomark _)
theorem pt_eqS (ha : PB X W a δa) (hb : PB X W b δb) : PTD X W (.Compare a [.Eq] [b] pos) (dTest (dOp (fEqS false) δa δb)) := pt_cmpD op_eq dop_eqS ha hb (nomark _)
theorem pt_neS (ha : PB X W a δa) (hb : PB X W b δb) : PTD X W (.Compare a [.NotEq] [b] pos) (dTest (dOp (fEqS true) δa δb)) := pt_cmpD op_ne dop_neS ha hb (nomark _)
end
def fIntS : FL := f1 fun d k => match d with
  | .str a => (match PySem.intText? a with
    | some n => a.length ≤ 640 ∧ k (.int n)
    | none => False)
  | _ => False
def fStrI : FL := f1 fun d k => match d with
  | .int i => i.natAbs.log2 < 1920 ∧ k (.str (toString i))
  | _ => False
section
variable {K : PySem.W.Frag}
theorem dcall_intS : DCall K (fun xs H Q => ∃ a n, xs = [.str a] ∧ PySem.intText? a = some n ∧ a.length ≤ 640 ∧ Q (.int n) H) fIntS := by
  intro W H G vs ds Q k le r hf hk
  unfold fIntS f1 at hf
  split at hf
  · rename_i d
    obtain ⟨v, rfl, r0⟩ := r.one
    split at hf
    · rename_i a
      split at hf
      · rename_i n en
        exact ⟨a, n, by rw [r0.str], en, hf.1, hk _ H G _ (.refl le) (.int _) hf.2⟩
      · exact hf.elim
    · exact hf.elim
  · exact hf.elim
theorem dcall_strI : DCall K (fun xs H Q => ∃ i, xs = [.int i] ∧ i.natAbs.log2 < 1920 ∧ Q (.str (toString i)) H) fStrI := by
  intro W H G vs ds Q k le r hf hk
  unfold fStrI f1 at hf
  split at hf
  · rename_i d
    obtain ⟨v, rfl, r0⟩ := r.one
    split at hf
    · rename_i i
      exact ⟨i, by rw [r0.int], hf.1, hk _ H G _ (.refl le) (.str _) hf.2⟩
    · exact hf.elim
  · exact hf.elim
end
def dHole (δ : DE) : DE := fun x ρ n q => δ x ρ n fun d n1 => match d with
  | .str a => a.length ≤ 16777216 ∧ q (.str a) n1
  | .int i => i.natAbs.log2 < 1920 ∧ q (.str (toString i)) n1
  | _ => False
inductive PJD (X : Cx) (W : WX) : List Expr → List DE → Prop where
  | nil : PJD X W [] []
  | cons {e : Expr} {δ : DE} {es : List Expr} {δs : List DE} (h : PD X W e δ) (r : PJD X W es δs) : PJD X W (e :: es) (δ :: δs)
def dJs : List DE → Str → DX → Env → Nat → DQ → Prop
  | [], acc, _, _, n, q => q (.str acc) n
  | δ :: δs, acc, x, ρ, n, q => δ x ρ n fun d n1 => match d with
    | .str y => (acc ++ y).length ≤ 16777216 ∧ dJs δs (acc ++ y) x ρ n1 q
    | _ => False
def dFs (δs : List DE) : DE := fun x ρ n q => dJs δs Str.empty x ρ n q
section
variable {X : Cx} {W : WX} {e : Expr} {δ : DE} {pos : Pos}
theorem pd_hole (h : PD X W e δ) : PD X W (.FormattedValue e (-1) none pos) (dHole δ) := by
  obtain ⟨t, p, h⟩ := h
  refine ⟨_, pe_fmt p, fun B σ H ρ n G α Q x q hK R hx hd k => ?_⟩
  refine h B σ H ρ n G α _ x _ hK R hx hd fun v H1 G1 d n1 s1 j1 r1 h1 => ?_
  cases d with
  | str a =>
    cases r1
    exact .inl ⟨a, rfl, by rw [sizeLine_eq]; exact h1.1, k _ H1 G1 _ n1 s1 j1 (.str _) h1.2⟩
  | int i =>
    cases r1
    exact .inr ⟨i, rfl, h1.1, k _ H1 G1 _ n1 s1 j1 (.str _) h1.2⟩
  | _ => exact h1.elim
theorem PJD.run {es : List Expr} {δs : List DE} (h : PJD X W es δs) : ∃ ts, PJ X es ts ∧ ∀ (B : Bs) (σ : L2.St) (H : Hp) (ρ : Env) (n : Nat) (G : Hp) (α : Nat → Addr) (acc : Str) (Q : Str → Hp → Prop) (x : DX) (q : DQ), B.K = X.K → RelB B σ H ρ n G α → XL B W σ H G x → dJs δs acc x ρ n q →
    (∀ y H' G' n', Step B.W H G H' G' → B.W.J n' H' → q (.str y) n' → Q y H') → tJs ts acc σ H Q := by
  induction h with
  | nil => exact ⟨[], .nil, fun B σ H ρ n G α acc Q x q hK R hx hd k => k acc H G n (.refl _ R.le) R.J hd⟩
  | @cons e δ es δs h r ih =>
    obtain ⟨ts, pj, ej⟩ := ih
    obtain ⟨t, p, ee⟩ := h
    refine ⟨t :: ts, .cons p pj, fun B σ H ρ n G α acc Q x q hK R hx hd k => ?_⟩
    refine ee B σ H ρ n G α _ x _ hK R hx hd fun v H1 G1 d n1 s1 j1 r1 h1 => ?_
    cases d with
    | str y =>
      cases r1
      refine ⟨y, rfl, by rw [sizeLine_eq]; exact h1.1, ?_⟩
      exact ej B σ H1 ρ n1 G1 α _ Q x q hK (R.step s1 j1) (hx.step s1) h1.2 fun z H2 G2 n2 s2 j2 h2 => k z H2 G2 n2 (s1.trans s2) j2 h2
    | _ => exact h1.elim
theorem pd_fs {v1 v2 : Expr} {rest : List Expr} {δs : List DE} (h : PJD X W (v1 :: v2 :: rest) δs) : PD X W (.JoinedStr (v1 :: v2 :: rest) pos) (dFs δs) := by
  obtain ⟨ts, pj, ej⟩ := h.run
  refine ⟨_, pe_joined pj, fun B σ H ρ n G α Q x q hK R hx hd k => ?_⟩
  exact ej B σ H ρ n G α _ _ x q hK R hx hd fun y H1 G1 n1 s1 j1 h1 => k _ H1 G1 _ n1 s1 j1 (.str _) h1
end
def repS (a : Str) (k : Nat) : Str := ⟨(List.replicate k a.cps).foldl (· ++ ·) #[]⟩
def rRepT : R2 := fun x y H Q => ∃ (i : Str) (j : Int), x = .str i ∧ y = .int j ∧ 0 < i.length ∧ 0 ≤ j ∧ j < 2 ^ 62 ∧ i.length * j.toNat ≤ sizeLine ∧ Q (.str (repS i j.toNat)) H
def fMulT : F2 := fun x y k => match x, y with
  | .str a, .int j => (0 < a.length ∧ 0 ≤ j ∧ j < 2 ^ 62 ∧ a.length * j.toNat ≤ 16777216) ∧ k (.str (repS a j.toNat))
  | _, _ => False
theorem fold_app (c : Array Nat) : ∀ (k : Nat) (acc : Array Nat), ((List.replicate k c).foldl (· ++ ·) acc).toList = acc.toList ++ (List.replicate k c.toList).flatten
  | 0, acc => by simp
  | k + 1, acc => by
    rw [List.replicate_succ, List.foldl_cons, fold_app c k (acc ++ c), List.replicate_succ, List.flatten_cons, Array.toList_append, List.append_assoc]
theorem repS_list (a : Str) (k : Nat) : (repS a k).cps.toList = (List.replicate k a.cps.toList).flatten := by
  show ((List.replicate k a.cps).foldl (· ++ ·) #[]).toList = _
  rw [fold_app]
  rfl
section
variable {X : Cx} {W : WX} {a b : Expr} {δa δb : DE} {pos : Pos}
theorem op_repT : OpR X (binaryOp .Mult) rRepT := by
  intro pins s σ H x y v u Q I rx ry h
  obtain ⟨i, j, rfl, rfl, hp, h0, h1, hz, q⟩ := h
  obtain ⟨t, rfl⟩ := rx
  obtain ⟨t', rfl⟩ := ry
  have big : sizeLine = 16777216 := sizeLine_eq
  have hl : Builtin.Str.tooLong (i.length * j.toNat) = false := decide_eq_false (by omega)
  refine PySem.P.mul_str ?_ ?_ (fun _ _ => hl) ?_
  · rw [decide_eq_false (by omega), decide_eq_false (by omega)]; rfl
  · intro n1 n2 z
    have n3 : i.length * j.toNat ≤ 16777216 := by omega
    have n6 : (i.length : Int) ≤ (2 ^ 63 - 1) / j := by
      rw [Int.le_ediv_iff_mul_le (by omega)]
      obtain ⟨m, rfl⟩ : ∃ m : Nat, j = m := ⟨j.toNat, by omega⟩
      rw [Int.toNat_natCast] at n3
      have n4 : ((i.length * m : Nat) : Int) = (i.length : Int) * (m : Int) := Int.natCast_mul ..
      omega
    omega
  · split
    · have e : repS i j.toNat = Str.empty := by rw [show j.toNat = 0 by omega]; rfl
      rw [e] at q
      exact ⟨by decide, .str _, H, I.tok _, ⟨_, rfl⟩, q⟩
    · split
      · rename_i c
        have hj : j = 1 := by
          rcases Bool.or_eq_true_iff.mp c with c | c
          · exact eq_of_beq c
          · have := eq_of_beq c
            omega
        subst hj
        have e : repS i (1 : Int).toNat = i := by
          refine Str.ext' (Array.toList_inj.mp ?_)
          rw [repS_list]
          show (List.replicate 1 i.cps.toList).flatten = _
          simp
        rw [e] at q
        exact ⟨.str _, H, I, ⟨_, rfl⟩, q⟩
      · exact ⟨fits_reps hl, .str _, H, I.tok _, ⟨_, rfl⟩, q⟩
theorem dop_mulT {K : PySem.W.Frag} : DOp K rRepT fMulT := by
  intro W H G x y dx dy Q k le rx ry hf hk
  unfold fMulT at hf
  split at hf
  · rename_i c j
    exact ⟨c, j, rx.str, ry.int, hf.1.1, hf.1.2.1, hf.1.2.2.1, by rw [sizeLine_eq]; exact hf.1.2.2.2, hk _ H G _ (.refl le) (.str _) hf.2⟩
  · exact hf.elim
theorem pd_mulT (ha : PB X W a δa) (hb : PB X W b δb) : PD X W (.BinOp a .Mult b pos) (dOp fMulT δa δb) := pd_op op_repT dop_mulT ha hb
end
end DL

end

set_option maxHeartbeats 0
namespace My
open PySem PySem.Spec L2 DL
def top (i : Nat) : Stmt := PySem.Challenge.pw_seenrows_k59_filter_texts.main.body.getD i (.Pass ⟨0, 0, 0, 0⟩)
def fn : List He.DefD := [
  ⟨("BadPrime", some "__init__"), "__init__", "BadPrime.__init__", defArgs (inClass (top 2) 0), defBody (inClass (top 2) 0), defScope (inClass (top 2) 0), [], []⟩,
  ⟨("BadTerm", some "__init__"), "__init__", "BadTerm.__init__", defArgs (inClass (top 3) 0), defBody (inClass (top 3) 0), defScope (inClass (top 3) 0), [], []⟩,
  ⟨("UnlikePrimes", some "__init__"), "__init__", "UnlikePrimes.__init__", defArgs (inClass (top 4) 0), defBody (inClass (top 4) 0), defScope (inClass (top 4) 0), [], []⟩,
  ⟨("BadText", some "__init__"), "__init__", "BadText.__init__", defArgs (inClass (top 6) 0), defBody (inClass (top 6) 0), defScope (inClass (top 6) 0), [], []⟩,
  ⟨("is_integer", none), "is_integer", "is_integer", defArgs (top 9), defBody (top 9), defScope (top 9), [], []⟩,
  ⟨("is_list", none), "is_list", "is_list", defArgs (top 10), defBody (top 10), defScope (top 10), [], []⟩,
  ⟨("is_prime", none), "is_prime", "is_prime", defArgs (top 11), defBody (top 11), defScope (top 11), [], []⟩,
  ⟨("check_primes", none), "check_primes", "check_primes", defArgs (top 18), defBody (top 18), defScope (top 18), [], []⟩,
  ⟨("is_term", none), "is_term", "is_term", defArgs (top 21), defBody (top 21), defScope (top 21), [], []⟩,
  ⟨("Filter", some "__init__"), "__init__", "Filter.__init__", defArgs (inClass (top 23) 0), defBody (inClass (top 23) 0), defScope (inClass (top 23) 0), [.adr (He.dflAt ("Filter", some "__init__") 0)], []⟩,
  ⟨("Filter", some "__bool__"), "__bool__", "Filter.__bool__", defArgs (inClass (top 23) 4), defBody (inClass (top 23) 4), defScope (inClass (top 23) 4), [], []⟩,
  ⟨("Filter", some "terms"), "terms", "Filter.terms", defArgs (inClass (top 23) 7), defBody (inClass (top 23) 7), defScope (inClass (top 23) 7), [], []⟩,
  ⟨("Filter", some "high"), "high", "Filter.high", defArgs (inClass (top 23) 9), defBody (inClass (top 23) 9), defScope (inClass (top 23) 9), [], []⟩,
  ⟨("Filter", some "__add__"), "__add__", "Filter.__add__", defArgs (inClass (top 23) 12), defBody (inClass (top 23) 12), defScope (inClass (top 23) 12), [], []⟩,
  ⟨("written_integer", none), "written_integer", "written_integer", defArgs (top 27), defBody (top 27), defScope (top 27), [], []⟩,
  ⟨("write_filter", none), "write_filter", "write_filter", defArgs (top 28), defBody (top 28), defScope (top 28), [], []⟩,
  ⟨("read_filter", none), "read_filter", "read_filter", defArgs (top 29), defBody (top 29), defScope (top 29), [], []⟩,
  ⟨("_law_box", none), "_law_box", "_law_box", defArgs (top 31), defBody (top 31), defScope (top 31), [], []⟩,
  ⟨("_law_take", none), "_law_take", "_law_take", defArgs (top 32), defBody (top 32), defScope (top 32), [], []⟩,
  ⟨("_law_pick", none), "_law_pick", "_law_pick", defArgs (top 33), defBody (top 33), defScope (top 33), [], []⟩,
  ⟨("_law_clean", none), "_law_clean", "_law_clean", defArgs (top 34), defBody (top 34), defScope (top 34), [], []⟩,
  ⟨("_law_prime", none), "_law_prime", "_law_prime", defArgs (top 35), defBody (top 35), defScope (top 35), [], []⟩,
  ⟨("_law_text", none), "_law_text", "_law_text", defArgs (top 36), defBody (top 36), defScope (top 36), [], []⟩,
  ⟨("_law_far_filter", none), "_law_far_filter", "_law_far_filter", defArgs (top 37), defBody (top 37), defScope (top 37), [], []⟩,
  ⟨("_law_integer", none), "_law_integer", "_law_integer", defArgs (top 38), defBody (top 38), defScope (top 38), [], []⟩,
  ⟨("_law_read", none), "_law_read", "_law_read", defArgs (top 39), defBody (top 39), defScope (top 39), [], []⟩,
  ⟨("_law_told", none), "_law_told", "_law_told", defArgs (top 40), defBody (top 40), defScope (top 40), [], []⟩,
  ⟨("law", none), "law", "law", defArgs (top 41), defBody (top 41), defScope (top 41), [], []⟩]
def fa : List He.Fa := [.glo "SeenError", .glo "BadPrime", .glo "BadTerm", .glo "UnlikePrimes", .glo "ZeroFilter", .glo "BadText", .glo "PRIMES", .glo "is_integer", .glo "is_list", .glo "is_prime", .glo "inverse", .glo "divided", .glo "product_rest", .glo "shift_rest", .glo "far_rest", .glo "check_primes", .int "NEAR" (2000), .glo "is_term", .glo "divisor_of", .glo "Filter", .str "FIGURES" "0123456789", .int "MOST_FIGURES" (4000), .glo "written_integer", .glo "write_filter", .glo "read_filter", .glo "_law_box", .glo "_law_take", .glo "_law_pick", .glo "_law_clean", .glo "_law_prime", .glo "_law_text", .glo "_law_far_filter", .glo "_law_integer", .glo "_law_read", .glo "_law_told", .glo "law", .free "isinstance", .free "len", .free "sorted", .free "dict", .free "list", .free "tuple", .free "int", .free "bool", .free "abs", .free "all", .free "any", .free "enumerate", .free "range", .free "zip", .free "min", .free "max", .free "sum", .free "str", .free "reversed", .free "divmod", .free "repr", .free "iter", .free "super", .free "ValueError", .free "TypeError", .mkr "Filter", .meth "Filter" "__init__", .meth "Filter" "__bool__", .meth "Filter" "terms", .meth "Filter" "high", .meth "Filter" "__add__", .noat "Filter" "prime", .noat "Filter" "kept", .noat "Filter" "held"]
def CS : List Str := ["Filter"]
def sub (a b : Str) : Bool := decide (a = b)
def XS : List Str := ["BadPrime", "BadTerm", "BadText", "UnlikePrimes"]
def xsub (a b : Str) : Bool := decide (a = b)
def tfn : List Str := []
def tf : List He.Defn := tfn.map fun x => (x, none)
theorem tf_mem {x : Str} (h : x ∈ tfn) : ((x, none) : He.Defn) ∈ tf := List.mem_map.mpr ⟨x, h, rfl⟩
abbrev TBs (K : PySem.W.Frag) (mg : Str → Option Value) (base : Heap) : Prop := ∀ x ∈ tfn, LamX.TabB base mg (He.cT K (x, none)).1 (He.cT K (x, none)).2
def cmf : List He5.DefA := []
def exL (K : PySem.W.Frag) : List Bool := [chkTy CS sub K,
  tupAt K (He.ga K "PRIMES") [.int 2, .int 3, .int 5, .int 7],
  tupAt K (He.dflAt ("Filter", some "__init__") 0 K) [],
  excB "BadPrime" K,
  excB "BadTerm" K,
  excB "BadText" K,
  excB "UnlikePrimes" K,
  opB "Filter" .Add K,
  seB "SeenError" K,
  xsB XS xsub K,
  tblB tfn K,
  xfdB "BadPrime" "prime" K,
  xfdB "BadTerm" "index" K]
def exB (K : PySem.W.Frag) : Bool := (exL K).all id
structure Top (K : PySem.W.Frag) (mg : Str → Option Value) : Prop where
  says : He.SaysD fa fn K
  exb : exB K = true
  cm : He5.SaysA [] cmf K
  h : ∃ h : Heap, K.In h ∧ h.Ns mainGlobals mg
section
variable {K : PySem.W.Frag} {mg : Str → Option Value}
theorem Top.ex (T : Top K mg) (i : Nat) {b : Bool} (h : (exL K)[i]? = some b := by rfl) : b = true := List.all_eq_true.mp T.exb b (List.mem_of_getElem? h)
theorem Top.g_SeenError (T : Top K mg) : mg "SeenError" = some (.ref (ca K "SeenError")) := let ⟨_, X, G⟩ := T.h; He.glo_ok X G (T.says.fact 0 rfl)
theorem Top.g_BadPrime (T : Top K mg) : mg "BadPrime" = some (.ref (ca K "BadPrime")) := let ⟨_, X, G⟩ := T.h; He.glo_ok X G (T.says.fact 1 rfl)
theorem Top.g_BadTerm (T : Top K mg) : mg "BadTerm" = some (.ref (ca K "BadTerm")) := let ⟨_, X, G⟩ := T.h; He.glo_ok X G (T.says.fact 2 rfl)
theorem Top.g_UnlikePrimes (T : Top K mg) : mg "UnlikePrimes" = some (.ref (ca K "UnlikePrimes")) := let ⟨_, X, G⟩ := T.h; He.glo_ok X G (T.says.fact 3 rfl)
theorem Top.g_BadText (T : Top K mg) : mg "BadText" = some (.ref (ca K "BadText")) := let ⟨_, X, G⟩ := T.h; He.glo_ok X G (T.says.fact 5 rfl)
theorem Top.g_PRIMES (T : Top K mg) : mg "PRIMES" = some (.ref (ca K "PRIMES")) := let ⟨_, X, G⟩ := T.h; He.glo_ok X G (T.says.fact 6 rfl)
theorem Top.g_is_integer (T : Top K mg) : mg "is_integer" = some (.ref (ca K "is_integer")) := let ⟨_, X, G⟩ := T.h; He.glo_ok X G (T.says.fact 7 rfl)
theorem Top.g_is_list (T : Top K mg) : mg "is_list" = some (.ref (ca K "is_list")) := let ⟨_, X, G⟩ := T.h; He.glo_ok X G (T.says.fact 8 rfl)
theorem Top.g_is_prime (T : Top K mg) : mg "is_prime" = some (.ref (ca K "is_prime")) := let ⟨_, X, G⟩ := T.h; He.glo_ok X G (T.says.fact 9 rfl)
theorem Top.g_check_primes (T : Top K mg) : mg "check_primes" = some (.ref (ca K "check_primes")) := let ⟨_, X, G⟩ := T.h; He.glo_ok X G (T.says.fact 15 rfl)
theorem Top.g_is_term (T : Top K mg) : mg "is_term" = some (.ref (ca K "is_term")) := let ⟨_, X, G⟩ := T.h; He.glo_ok X G (T.says.fact 17 rfl)
theorem Top.g_Filter (T : Top K mg) : mg "Filter" = some (.ref (ca K "Filter")) := let ⟨_, X, G⟩ := T.h; He.glo_ok X G (T.says.fact 19 rfl)
theorem Top.c_FIGURES (T : Top K mg) : ∃ t, mg "FIGURES" = some (.str "0123456789" t) := let ⟨_, X, G⟩ := T.h; He.str_ok X G (T.says.fact 20 rfl)
theorem Top.c_MOST_FIGURES (T : Top K mg) : ∃ t, mg "MOST_FIGURES" = some (.int (4000) t) := let ⟨_, X, G⟩ := T.h; He.int_ok X G (T.says.fact 21 rfl)
theorem Top.g_written_integer (T : Top K mg) : mg "written_integer" = some (.ref (ca K "written_integer")) := let ⟨_, X, G⟩ := T.h; He.glo_ok X G (T.says.fact 22 rfl)
theorem Top.g_write_filter (T : Top K mg) : mg "write_filter" = some (.ref (ca K "write_filter")) := let ⟨_, X, G⟩ := T.h; He.glo_ok X G (T.says.fact 23 rfl)
theorem Top.g_read_filter (T : Top K mg) : mg "read_filter" = some (.ref (ca K "read_filter")) := let ⟨_, X, G⟩ := T.h; He.glo_ok X G (T.says.fact 24 rfl)
theorem Top.g__law_box (T : Top K mg) : mg "_law_box" = some (.ref (ca K "_law_box")) := let ⟨_, X, G⟩ := T.h; He.glo_ok X G (T.says.fact 25 rfl)
theorem Top.g__law_take (T : Top K mg) : mg "_law_take" = some (.ref (ca K "_law_take")) := let ⟨_, X, G⟩ := T.h; He.glo_ok X G (T.says.fact 26 rfl)
theorem Top.g__law_pick (T : Top K mg) : mg "_law_pick" = some (.ref (ca K "_law_pick")) := let ⟨_, X, G⟩ := T.h; He.glo_ok X G (T.says.fact 27 rfl)
theorem Top.g__law_clean (T : Top K mg) : mg "_law_clean" = some (.ref (ca K "_law_clean")) := let ⟨_, X, G⟩ := T.h; He.glo_ok X G (T.says.fact 28 rfl)
theorem Top.g__law_prime (T : Top K mg) : mg "_law_prime" = some (.ref (ca K "_law_prime")) := let ⟨_, X, G⟩ := T.h; He.glo_ok X G (T.says.fact 29 rfl)
theorem Top.g__law_text (T : Top K mg) : mg "_law_text" = some (.ref (ca K "_law_text")) := let ⟨_, X, G⟩ := T.h; He.glo_ok X G (T.says.fact 30 rfl)
theorem Top.g__law_far_filter (T : Top K mg) : mg "_law_far_filter" = some (.ref (ca K "_law_far_filter")) := let ⟨_, X, G⟩ := T.h; He.glo_ok X G (T.says.fact 31 rfl)
theorem Top.g__law_integer (T : Top K mg) : mg "_law_integer" = some (.ref (ca K "_law_integer")) := let ⟨_, X, G⟩ := T.h; He.glo_ok X G (T.says.fact 32 rfl)
theorem Top.g__law_read (T : Top K mg) : mg "_law_read" = some (.ref (ca K "_law_read")) := let ⟨_, X, G⟩ := T.h; He.glo_ok X G (T.says.fact 33 rfl)
theorem Top.g__law_told (T : Top K mg) : mg "_law_told" = some (.ref (ca K "_law_told")) := let ⟨_, X, G⟩ := T.h; He.glo_ok X G (T.says.fact 34 rfl)
theorem Top.g_law (T : Top K mg) : mg "law" = some (.ref (ca K "law")) := let ⟨_, X, G⟩ := T.h; He.glo_ok X G (T.says.fact 35 rfl)
theorem Top.f_isinstance (T : Top K mg) : mg "isinstance" = none := let ⟨_, X, G⟩ := T.h; He.free_ok X G (T.says.fact 36 rfl)
theorem Top.f_len (T : Top K mg) : mg "len" = none := let ⟨_, X, G⟩ := T.h; He.free_ok X G (T.says.fact 37 rfl)
theorem Top.f_sorted (T : Top K mg) : mg "sorted" = none := let ⟨_, X, G⟩ := T.h; He.free_ok X G (T.says.fact 38 rfl)
theorem Top.f_dict (T : Top K mg) : mg "dict" = none := let ⟨_, X, G⟩ := T.h; He.free_ok X G (T.says.fact 39 rfl)
theorem Top.f_list (T : Top K mg) : mg "list" = none := let ⟨_, X, G⟩ := T.h; He.free_ok X G (T.says.fact 40 rfl)
theorem Top.f_tuple (T : Top K mg) : mg "tuple" = none := let ⟨_, X, G⟩ := T.h; He.free_ok X G (T.says.fact 41 rfl)
theorem Top.f_int (T : Top K mg) : mg "int" = none := let ⟨_, X, G⟩ := T.h; He.free_ok X G (T.says.fact 42 rfl)
theorem Top.f_bool (T : Top K mg) : mg "bool" = none := let ⟨_, X, G⟩ := T.h; He.free_ok X G (T.says.fact 43 rfl)
theorem Top.f_all (T : Top K mg) : mg "all" = none := let ⟨_, X, G⟩ := T.h; He.free_ok X G (T.says.fact 45 rfl)
theorem Top.f_enumerate (T : Top K mg) : mg "enumerate" = none := let ⟨_, X, G⟩ := T.h; He.free_ok X G (T.says.fact 47 rfl)
theorem Top.f_range (T : Top K mg) : mg "range" = none := let ⟨_, X, G⟩ := T.h; He.free_ok X G (T.says.fact 48 rfl)
theorem Top.f_str (T : Top K mg) : mg "str" = none := let ⟨_, X, G⟩ := T.h; He.free_ok X G (T.says.fact 53 rfl)
theorem Top.mk_Filter (T : Top K mg) : Mk K (ca K "Filter") (He.ma K (ca K "Filter") "__init__") := He.mkr_ok (T.says.fact 61 rfl)
theorem Top.m_Filter___bool__ (T : Top K mg) : Meth K (ca K "Filter") "__bool__" (He.ma K (ca K "Filter") "__bool__") := He.meth_ok (T.says.fact 63 rfl)
theorem Top.m_Filter_terms (T : Top K mg) : Meth K (ca K "Filter") "terms" (He.ma K (ca K "Filter") "terms") := He.meth_ok (T.says.fact 64 rfl)
theorem Top.m_Filter_high (T : Top K mg) : Meth K (ca K "Filter") "high" (He.ma K (ca K "Filter") "high") := He.meth_ok (T.says.fact 65 rfl)
theorem Top.m_Filter___add__ (T : Top K mg) : Meth K (ca K "Filter") "__add__" (He.ma K (ca K "Filter") "__add__") := He.meth_ok (T.says.fact 66 rfl)
theorem Top.ty (T : Top K mg) : chkTy CS sub K = true := T.ex 0
theorem Top.tyf (T : Top K mg) : ∀ c ∈ CS, TyF K c := chk_tyf T.ty
theorem Top.kb_int (T : Top K mg) : ∀ d t, tyD d = some t → (∀ c, t = .own c → c ∈ CS) → PySem.W.kitOne K (t.val K) (.type "int") = some (isaB "int" t) := chk_kb T.ty "int" (by decide)
theorem Top.kb_bool (T : Top K mg) : ∀ d t, tyD d = some t → (∀ c, t = .own c → c ∈ CS) → PySem.W.kitOne K (t.val K) (.type "bool") = some (isaB "bool" t) := chk_kb T.ty "bool" (by decide)
theorem Top.kb_str (T : Top K mg) : ∀ d t, tyD d = some t → (∀ c, t = .own c → c ∈ CS) → PySem.W.kitOne K (t.val K) (.type "str") = some (isaB "str" t) := chk_kb T.ty "str" (by decide)
theorem Top.kt_list_tuple (T : Top K mg) : ∀ d t, tyD d = some t → (∀ c, t = .own c → c ∈ CS) → PySem.W.kitAny K (t.val K) [.type "list", .type "tuple"] = some (["list", "tuple"].any fun n => isaB n t) := chk_kt T.ty ["list", "tuple"] (by decide)
theorem Top.ko_Filter (T : Top K mg) : ∀ d t, tyD d = some t → (∀ c, t = .own c → c ∈ CS) → PySem.W.kitOne K (t.val K) (.ref (ca K "Filter")) = some (isaO sub "Filter" t) := chk_ko T.ty (by decide +kernel)
theorem Top.cl_Filter (T : Top K mg) : Cls K (ca K "Filter") := (T.tyf "Filter" (by decide +kernel)).cl
theorem Top.fld_Filter_prime (T : Top K mg) : ∀ c ∈ (["Filter"] : List Str), Cls K (ca K c) ∧ NoAttr K (ca K c) "prime" := by
  intro c hc
  simp only [List.mem_cons, List.not_mem_nil, or_false] at hc
  subst hc
  exact ⟨T.cl_Filter, He.noat_ok (T.says.fact 67 rfl)⟩
theorem Top.fld_Filter_kept (T : Top K mg) : ∀ c ∈ (["Filter"] : List Str), Cls K (ca K c) ∧ NoAttr K (ca K c) "kept" := by
  intro c hc
  simp only [List.mem_cons, List.not_mem_nil, or_false] at hc
  subst hc
  exact ⟨T.cl_Filter, He.noat_ok (T.says.fact 68 rfl)⟩
theorem Top.fld_Filter_held (T : Top K mg) : ∀ c ∈ (["Filter"] : List Str), Cls K (ca K c) ∧ NoAttr K (ca K c) "held" := by
  intro c hc
  simp only [List.mem_cons, List.not_mem_nil, or_false] at hc
  subst hc
  exact ⟨T.cl_Filter, He.noat_ok (T.says.fact 69 rfl)⟩
theorem Top.c_PRIMES (T : Top K mg) (G : Hp) : Rep K G (.tup ([2, 3, 5, 7].map D.int)) (.ref (ca K "PRIMES")) := rep_ints (T.ex 1) G
theorem Top.dfl_Filter___init__ (T : Top K mg) (G : Hp) : Rep K G (.tup []) (.ref (He.dflAt ("Filter", some "__init__") 0 K)) := .tup (tupAt_ok (T.ex 2) G) .nil
theorem Top.x_BadPrime (T : Top K mg) : excB "BadPrime" K = true := T.ex 3
theorem Top.x_BadTerm (T : Top K mg) : excB "BadTerm" K = true := T.ex 4
theorem Top.x_BadText (T : Top K mg) : excB "BadText" K = true := T.ex 5
theorem Top.x_UnlikePrimes (T : Top K mg) : excB "UnlikePrimes" K = true := T.ex 6
theorem Top.op_Filter_Add (T : Top K mg) : OpK K "Filter" .Add := opB_ok (T.ex 7)
theorem Top.base (T : Top K mg) : XBase K "SeenError" := seB_ok (T.ex 8)
theorem Top.xs (T : Top K mg) : ∀ c ∈ XS, ∀ c' ∈ XS, PySem.W.exmOne K (.ref (ca K c)) (.ref (ca K c')) = some (xsub c c') := xsB_ok (T.ex 9)
theorem Top.tbl (T : Top K mg) : ((tblOf K tfn).map (·.1)).Nodup := of_decide_eq_true (T.ex 10)
theorem Top.xf_BadPrime_prime (T : Top K mg) : XfD K "BadPrime" "prime" := xfdB_ok (T.ex 11)
theorem Top.xf_BadTerm_index (T : Top K mg) : XfD K "BadTerm" "index" := xfdB_ok (T.ex 12)
theorem Top.d_BadPrime___init__ (T : Top K mg) : ∃ fd, FunD K "__init__" "BadPrime.__init__" (defArgs (inClass (top 2) 0)) (defBody (inClass (top 2) 0)) (defScope (inClass (top 2) 0)) [] [] (He.ma K (ca K "BadPrime") "__init__") fd := T.says.def_ 0 rfl
theorem Top.d_BadTerm___init__ (T : Top K mg) : ∃ fd, FunD K "__init__" "BadTerm.__init__" (defArgs (inClass (top 3) 0)) (defBody (inClass (top 3) 0)) (defScope (inClass (top 3) 0)) [] [] (He.ma K (ca K "BadTerm") "__init__") fd := T.says.def_ 1 rfl
theorem Top.d_UnlikePrimes___init__ (T : Top K mg) : ∃ fd, FunD K "__init__" "UnlikePrimes.__init__" (defArgs (inClass (top 4) 0)) (defBody (inClass (top 4) 0)) (defScope (inClass (top 4) 0)) [] [] (He.ma K (ca K "UnlikePrimes") "__init__") fd := T.says.def_ 2 rfl
theorem Top.d_BadText___init__ (T : Top K mg) : ∃ fd, FunD K "__init__" "BadText.__init__" (defArgs (inClass (top 6) 0)) (defBody (inClass (top 6) 0)) (defScope (inClass (top 6) 0)) [] [] (He.ma K (ca K "BadText") "__init__") fd := T.says.def_ 3 rfl
theorem Top.d_is_integer (T : Top K mg) : ∃ fd, FunD K "is_integer" "is_integer" (defArgs (top 9)) (defBody (top 9)) (defScope (top 9)) [] [] (ca K "is_integer") fd := T.says.def_ 4 rfl
theorem Top.d_is_list (T : Top K mg) : ∃ fd, FunD K "is_list" "is_list" (defArgs (top 10)) (defBody (top 10)) (defScope (top 10)) [] [] (ca K "is_list") fd := T.says.def_ 5 rfl
theorem Top.d_is_prime (T : Top K mg) : ∃ fd, FunD K "is_prime" "is_prime" (defArgs (top 11)) (defBody (top 11)) (defScope (top 11)) [] [] (ca K "is_prime") fd := T.says.def_ 6 rfl
theorem Top.d_check_primes (T : Top K mg) : ∃ fd, FunD K "check_primes" "check_primes" (defArgs (top 18)) (defBody (top 18)) (defScope (top 18)) [] [] (ca K "check_primes") fd := T.says.def_ 7 rfl
theorem Top.d_is_term (T : Top K mg) : ∃ fd, FunD K "is_term" "is_term" (defArgs (top 21)) (defBody (top 21)) (defScope (top 21)) [] [] (ca K "is_term") fd := T.says.def_ 8 rfl
theorem Top.d_Filter___init__ (T : Top K mg) : ∃ fd, FunD K "__init__" "Filter.__init__" (defArgs (inClass (top 23) 0)) (defBody (inClass (top 23) 0)) (defScope (inClass (top 23) 0)) [.ref (He.dflAt ("Filter", some "__init__") 0 K)] [] (He.ma K (ca K "Filter") "__init__") fd := T.says.def_ 9 rfl
theorem Top.d_Filter___bool__ (T : Top K mg) : ∃ fd, FunD K "__bool__" "Filter.__bool__" (defArgs (inClass (top 23) 4)) (defBody (inClass (top 23) 4)) (defScope (inClass (top 23) 4)) [] [] (He.ma K (ca K "Filter") "__bool__") fd := T.says.def_ 10 rfl
theorem Top.d_Filter_terms (T : Top K mg) : ∃ fd, FunD K "terms" "Filter.terms" (defArgs (inClass (top 23) 7)) (defBody (inClass (top 23) 7)) (defScope (inClass (top 23) 7)) [] [] (He.ma K (ca K "Filter") "terms") fd := T.says.def_ 11 rfl
theorem Top.d_Filter_high (T : Top K mg) : ∃ fd, FunD K "high" "Filter.high" (defArgs (inClass (top 23) 9)) (defBody (inClass (top 23) 9)) (defScope (inClass (top 23) 9)) [] [] (He.ma K (ca K "Filter") "high") fd := T.says.def_ 12 rfl
theorem Top.d_Filter___add__ (T : Top K mg) : ∃ fd, FunD K "__add__" "Filter.__add__" (defArgs (inClass (top 23) 12)) (defBody (inClass (top 23) 12)) (defScope (inClass (top 23) 12)) [] [] (He.ma K (ca K "Filter") "__add__") fd := T.says.def_ 13 rfl
theorem Top.d_written_integer (T : Top K mg) : ∃ fd, FunD K "written_integer" "written_integer" (defArgs (top 27)) (defBody (top 27)) (defScope (top 27)) [] [] (ca K "written_integer") fd := T.says.def_ 14 rfl
theorem Top.d_write_filter (T : Top K mg) : ∃ fd, FunD K "write_filter" "write_filter" (defArgs (top 28)) (defBody (top 28)) (defScope (top 28)) [] [] (ca K "write_filter") fd := T.says.def_ 15 rfl
theorem Top.d_read_filter (T : Top K mg) : ∃ fd, FunD K "read_filter" "read_filter" (defArgs (top 29)) (defBody (top 29)) (defScope (top 29)) [] [] (ca K "read_filter") fd := T.says.def_ 16 rfl
theorem Top.d__law_box (T : Top K mg) : ∃ fd, FunD K "_law_box" "_law_box" (defArgs (top 31)) (defBody (top 31)) (defScope (top 31)) [] [] (ca K "_law_box") fd := T.says.def_ 17 rfl
theorem Top.d__law_take (T : Top K mg) : ∃ fd, FunD K "_law_take" "_law_take" (defArgs (top 32)) (defBody (top 32)) (defScope (top 32)) [] [] (ca K "_law_take") fd := T.says.def_ 18 rfl
theorem Top.d__law_pick (T : Top K mg) : ∃ fd, FunD K "_law_pick" "_law_pick" (defArgs (top 33)) (defBody (top 33)) (defScope (top 33)) [] [] (ca K "_law_pick") fd := T.says.def_ 19 rfl
theorem Top.d__law_clean (T : Top K mg) : ∃ fd, FunD K "_law_clean" "_law_clean" (defArgs (top 34)) (defBody (top 34)) (defScope (top 34)) [] [] (ca K "_law_clean") fd := T.says.def_ 20 rfl
theorem Top.d__law_prime (T : Top K mg) : ∃ fd, FunD K "_law_prime" "_law_prime" (defArgs (top 35)) (defBody (top 35)) (defScope (top 35)) [] [] (ca K "_law_prime") fd := T.says.def_ 21 rfl
theorem Top.d__law_text (T : Top K mg) : ∃ fd, FunD K "_law_text" "_law_text" (defArgs (top 36)) (defBody (top 36)) (defScope (top 36)) [] [] (ca K "_law_text") fd := T.says.def_ 22 rfl
theorem Top.d__law_far_filter (T : Top K mg) : ∃ fd, FunD K "_law_far_filter" "_law_far_filter" (defArgs (top 37)) (defBody (top 37)) (defScope (top 37)) [] [] (ca K "_law_far_filter") fd := T.says.def_ 23 rfl
theorem Top.d__law_integer (T : Top K mg) : ∃ fd, FunD K "_law_integer" "_law_integer" (defArgs (top 38)) (defBody (top 38)) (defScope (top 38)) [] [] (ca K "_law_integer") fd := T.says.def_ 24 rfl
theorem Top.d__law_read (T : Top K mg) : ∃ fd, FunD K "_law_read" "_law_read" (defArgs (top 39)) (defBody (top 39)) (defScope (top 39)) [] [] (ca K "_law_read") fd := T.says.def_ 25 rfl
theorem Top.d__law_told (T : Top K mg) : ∃ fd, FunD K "_law_told" "_law_told" (defArgs (top 40)) (defBody (top 40)) (defScope (top 40)) [] [] (ca K "_law_told") fd := T.says.def_ 26 rfl
theorem Top.d_law (T : Top K mg) : ∃ fd, FunD K "law" "law" (defArgs (top 41)) (defBody (top 41)) (defScope (top 41)) [] [] (ca K "law") fd := T.says.def_ 27 rfl
end
end My

namespace My
open PySem PySem.Spec L2 DL
def names : List PySem.Str := (["SeenError", "BadPrime", "BadTerm", "UnlikePrimes", "ZeroFilter", "BadText", "PRIMES", "is_integer", "is_list", "is_prime", "inverse", "divided", "product_rest", "shift_rest", "far_rest", "check_primes", "NEAR", "is_term", "divisor_of", "Filter", "FIGURES", "MOST_FIGURES", "written_integer", "write_filter", "read_filter", "_law_box", "_law_take", "_law_pick", "_law_clean", "_law_prime"] : List PySem.Str) ++ (["_law_text", "_law_far_filter", "_law_integer", "_law_read", "_law_told"] : List PySem.Str)
def addrs : List Addr := ([2, 3, 6, 4, 24, 44, 63, 82, 101, 120, 123, 130, 137, 144, 149, 154, 159, 164, 169, 176, 183, 188, 329, 338, 343, 350, 355, 362, 369, 374, 381, 386, 393, 398, 403, 410, 415, 0, 23, 43, 62, 81, 100, 119, 129, 136, 143, 148, 153, 158] : List Addr) ++ ([163, 168, 175, 182, 187, 328, 337, 342, 349, 354, 361, 368, 373, 380, 385, 392, 397, 402, 409, 414, 22, 25, 41, 42, 60, 61, 79, 80, 98, 99, 117, 118, 124, 125, 126, 127, 128, 131, 132, 133, 134, 135, 138, 139, 140, 141, 142, 145, 146, 147] : List Addr) ++ ([150, 151, 152, 155, 156, 157, 160, 161, 162, 165, 166, 167, 170, 171, 172, 173, 174, 177, 178, 179, 180, 181, 184, 185, 186, 202, 211, 219, 226, 233, 240, 247, 254, 261, 268, 275, 280, 287, 292, 297, 302, 309, 316, 321, 326, 327, 330, 331, 334, 335] : List Addr) ++ ([336, 339, 340, 341, 344, 345, 346, 347, 348, 351, 352, 353, 356, 357, 358, 359, 360, 363, 364, 365, 366, 367, 370, 371, 372, 375, 376, 377, 378, 379, 382, 383, 384, 387, 388, 389, 390, 391, 394, 395, 396, 399, 400, 401, 404, 405, 406, 407, 408, 411] : List Addr) ++ ([412, 413, 40, 59, 78, 97, 116, 201, 197, 209, 210, 218, 225, 232, 239, 246, 253, 260, 267, 274, 279, 286, 291, 296, 301, 308, 315, 320, 325, 35, 36, 37, 38, 39, 54, 55, 56, 57, 58, 73, 74, 75, 76, 77, 92, 93, 94, 95, 96, 111] : List Addr) ++ ([112, 113, 114, 115, 198, 199, 200, 196, 208, 212, 213, 214, 215, 216, 217, 220, 221, 222, 223, 224, 227, 228, 229, 230, 231, 234, 235, 236, 237, 238, 241, 242, 243, 244, 245, 248, 249, 250, 251, 252, 255, 256, 257, 258, 259, 262, 263, 264, 265, 266] : List Addr) ++ ([269, 270, 271, 272, 273, 276, 277, 278, 281, 282, 283, 284, 285, 288, 289, 290, 293, 294, 295, 298, 299, 300, 303, 304, 305, 306, 307, 310, 311, 312, 313, 314, 317, 318, 319, 322, 323, 324] : List Addr)
abbrev R : PySem.W.OpenRow := PySem.W.OpenLaw.row PySem.Challenge.rw_seenrows_k59_filter_texts
abbrev hk : PySem.W.Hook := hookP addrs fa fn cmf tf exB
def ob (s : PySem.W.SharedT) : AlN := obsP addrs fa fn cmf tf exB (HandSHeadRun.getT s)
theorem ob_eq (s : PySem.W.SharedT) : ob s = hk.obs s.abs := obsP_eq (HandSHeadRun.getT_eq s)
theorem map3 {α β γ δ : Type} {o : Option α} {f : α → β} {g : α → γ} {h : α → δ} {a : β} {b : γ} {c : δ} (h1 : o.map f = some a) (h2 : o.map g = some b) (h3 : o.map h = some c) : o.map (fun s => (f s, g s, h s)) = some (a, b, c) := by
  cases o with
  | none => exact nomatch h1
  | some s =>
    have e1 : f s = a := Option.some.inj h1
    have e2 : g s = b := Option.some.inj h2
    have e3 : h s = c := Option.some.inj h3
    show some (f s, g s, h s) = _
    rw [e1, e2, e3]
section
open PySem.W PySem.Calls PyProof.Rows HandSHeadRun
theorem runA (w : World) (os : OsState) : (endF (stepQ (denQ tabQ) R.prog w) 14000 R.prog w os).map (fun s => looksF R.prog (boot_heap w.params) s.abs) = some true := by kernel_rfl
theorem runB (w : World) (os : OsState) : (endF (stepQ (denQ tabQ) R.prog w) 14000 R.prog w os).map (fun s => seenQ (view R.prog [41]) names (importedModules R.prog.main.body) (fun s => xlAt (view R.prog [41]) [] s && recOk R.toRowW.records s) s.abs) = some (openGood (view R.prog [41]) names) := by kernel_rfl
theorem runC1 (w : World) (os : OsState) : (endF (stepQ (denQ tabQ) R.prog w) 14000 R.prog w os).map (fun s => He.obsD fa (fn.take 50) (He.frT (HandSHeadRun.getT s) addrs)) = some (He.valD (fn.take 50)) := by kernel_rfl
theorem runC2 (w : World) (os : OsState) : (endF (stepQ (denQ tabQ) R.prog w) 14000 R.prog w os).map (fun s => He.obsD [] (fn.drop 50) (He.frT (HandSHeadRun.getT s) addrs)) = some (He.valD (fn.drop 50)) := by kernel_rfl
theorem runC3 (w : World) (os : OsState) : (endF (stepQ (denQ tabQ) R.prog w) 14000 R.prog w os).map (fun s => (He5.obsA [] cmf (He.frT (HandSHeadRun.getT s) addrs), exB (He.frT (HandSHeadRun.getT s) addrs) && He.tabsB (HandSHeadRun.getT s) tf (He.frT (HandSHeadRun.getT s) addrs))) = some (He5.valA cmf, true) := by kernel_rfl
theorem runC (w : World) (os : OsState) : (endF (stepQ (denQ tabQ) R.prog w) 14000 R.prog w os).map ob = some (hk.val w) := mapP (runC1 w os) (runC2 w os) (runC3 w os) fun s h1 h2 h3 => obsP_join 50 h1 h2 h3
end
theorem run (w : World) : HandSHeadRun.RunEq R (PySem.W.view R.prog [41]) hk ob 14000 names w := fun os => map3 (runA w os) (runB w os) (runC w os)
end My

namespace DL
open PySem PySem.Spec L2
def sprJ (s : Addr) (c : Addr × Addr) (n : Nat) (H : Hp) : Prop := (s ≠ c.1 ∧ s ≠ c.2 ∧ c.1 ≠ c.2) ∧ ∃ (cells small : List Int) (r : Int), H s = some (.lst [.ref c.1, .int r, .ref c.2, .int (n : Int)]) ∧ H c.1 = some (.lst (cells.map V.int)) ∧ H c.2 = some (.lst (small.map V.int))
abbrev SpC := (Addr × Addr) × List (Addr × Str)
theorem tabs_frame {T : List (Addr × Str)} {H H' : Hp} (h : LamX.Tabs T H) (f : ∀ p ∈ T, ∀ ps, H p.1 = some (.tbl ps) → H' p.1 = some (.tbl ps)) (g : ∀ b e, H b = some (.ext e) → H' b = some (.ext e)) : LamX.Tabs T H' := fun p hp => by
  obtain ⟨ps, e1, e2, e3⟩ := h p hp
  refine ⟨ps, f p hp ps e1, e2, fun pos cv z => ?_⟩
  obtain ⟨c, q1, q2⟩ := e3 pos cv z
  exact ⟨c, q1, g _ _ q2⟩
def boxA (s : Addr) (c : Addr × Addr) (a : Addr) : Prop := a = s ∨ a = c.1 ∨ a = c.2
theorem sprJ.lst {s : Addr} {c : Addr × Addr} {n : Nat} {H : Hp} (j : sprJ s c n H) {a : Addr} (h : boxA s c a) : ∃ xs, H a = some (.lst xs) := by
  obtain ⟨_, cells, small, r, h1, h2, h3⟩ := j
  rcases h with rfl | rfl | rfl
  · exact ⟨_, h1⟩
  · exact ⟨_, h2⟩
  · exact ⟨_, h3⟩
theorem sprJ.frame {s : Addr} {c : Addr × Addr} {n : Nat} {H H' : Hp} (j : sprJ s c n H) (f : ∀ a, boxA s c a → H' a = H a) : sprJ s c n H' := by
  obtain ⟨ne, cells, small, r, h1, h2, h3⟩ := j
  exact ⟨ne, cells, small, r, by rw [f _ (.inl rfl)]; exact h1, by rw [f _ (.inr (.inl rfl))]; exact h2, by rw [f _ (.inr (.inr rfl))]; exact h3⟩
def sprW (s : Addr) (c : SpC) : Wd where
  rg a := boxA s c.1 a ∨ a ∈ c.2.map (·.1)
  J n H := sprJ s c.1 n H ∧ LamX.Tabs c.2 H
  stable n H H' h g j := ⟨j.1.frame fun a ha => h a (.inl ha), tabs_frame j.2 (fun p hp ps e => by rw [h p.1 (.inr (List.mem_map.mpr ⟨p, hp, rfl⟩))]; exact e) g⟩
  there n H a j r := by
    rcases r with r | r
    · obtain ⟨xs, e⟩ := j.1.lst r
      rw [e]; exact fun z => nomatch z
    · obtain ⟨p, hp, e⟩ := List.mem_map.mp r
      obtain ⟨ps, q, _⟩ := j.2 p hp
      rw [← e, q]; exact fun z => nomatch z
theorem sprW_lam {s P : Addr} {c : SpC} {q : Str} (h : (P, q) ∈ c.2) (hu : ∀ p ∈ c.2, p.1 = P → p.2 = q) : LamW (sprW s c) P q where
  rg := .inr (List.mem_map.mpr ⟨_, h, rfl⟩)
  tab n H j := j.2 _ h
  st n H H1 j to t1 := by
    rcases to with rfl | ⟨ps, more, c', e, nc, rfl⟩
    · exact j
    have nm : ∀ b o, H b = some o → b ≠ P → upd (upd H P (.tbl (ps ++ more))) c' (LamX.CodeO c' q) b = some o := fun b o z n => by
      rw [upd_ne (ne_of_none z nc), upd_ne n]; exact z
    refine ⟨j.1.frame fun a ha => ?_, fun p hp => ?_⟩
    · obtain ⟨xs, z⟩ := j.1.lst ha
      rw [z]
      exact nm _ _ z fun y => by rw [y, e] at z; cases z
    · by_cases hP : p.1 = P
      · rw [hu p hp hP, hP]; exact t1
      · obtain ⟨us, e1, e2, e3⟩ := j.2 p hp
        refine ⟨us, nm _ _ e1 hP, e2, fun pos cv z => ?_⟩
        obtain ⟨c0, q1, q2⟩ := e3 pos cv z
        exact ⟨c0, q1, nm _ _ q2 fun w => by rw [w, e] at q2; cases q2⟩
def fDraw : DF := fun W ds n q _ => match ds with
  | [.hnd s, .int many] => (∃ c, W = sprW s c) ∧ 0 < many ∧ many < 1073741824 ∧ n < 1000000 ∧ ∀ k : Nat, (k : Int) < many → q (.int k) (n + 1)
  | _ => False
section
variable {X : Cx} {pos : Pos}
theorem dp_ints {K : PySem.W.Frag} {H : Hp} : ∀ ns : List Int, DpAll K H (ns.map V.int) (ns.map PyData.int)
  | [] => .nil
  | n :: ns => .cons (.int n) (dp_ints ns)
end
end DL
namespace My
open PySem PySem.Spec L2 DL
section
variable {P : Program} {w : World} {K : PySem.W.Frag} {mg : Str → Option Value} {base : Heap}
theorem sc_draw : FnScope ["_law_box_here", "_law_size", "_law_digit", "_law_cell", "_law_whole", "_law_mixed"] ["_law_box_here", "_law_size"] (defScope (top 32)) := ⟨rfl, rfl, rfl, by decide +kernel, rfl, by decide +kernel, by decide +kernel⟩
theorem upd_frame {H : Hp} {a : Addr} {o : HO} {Rg : Addr → Prop} {H' : Hp} (h : ∀ b u, H b = some u → ¬ Rg b → H' b = some u) (r : Rg a ∨ H a = none) : ∀ b u, H b = some u → ¬ Rg b → (upd H' a o) b = some u := fun b u e n => by
  rw [upd_ne (fun z => ?_)]
  · exact h b u e n
  · subst z
    rcases r with r | r
    · exact n r
    · rw [r] at e; cases e
theorem if_run {b : Bool} {p q : Prop} (h1 : b = true → p) (h2 : b = false → q) : if b = true then p else q := by
  cases b with
  | true => exact h1 rfl
  | false => exact h2 rfl
theorem ixr {σ : L2.St} {H : Hp} {Q : VK} {K : PySem.W.Frag} {i : Int} {s : Addr} {xs : List V} {v : V} (h0 : σ[0]? = some (some (.ref s))) (hs : H s = some (.lst xs)) (hi : atI xs i = some v) (q : Q v H) : tOp (rIxL K) (tVar 0) (tC (.int i)) σ H Q :=
  ⟨_, h0, s, xs, i, v, rfl, rfl, SqL.of hs, hi, q⟩
theorem gsr {σ : L2.St} {H : Hp} {Q : L2.St → Hp → Prop} {i : Int} {j : Nat} {s : Addr} {xs : List V} {v : V} (h0 : σ[0]? = some (some (.ref s))) (hs : H s = some (.lst xs)) (hi : ixN xs.length i = some j) {ys : List V} (hy : xs.set j v = ys) (q : Q σ (upd H s (.lst ys))) : gSub (tVar 0) (tC (.int i)) rSetL v σ H Q :=
  ⟨_, h0, s, xs, i, j, rfl, rfl, hs, hi, by rw [hy]; exact q⟩
theorem ok__law_take (T : Top K mg) : Sg P w K mg base "_law_take" 1 2 fDraw [] := by
  obtain ⟨fd, FD⟩ := T.d__law_take
  refine ⟨_, fd, ["_law_box_here", "_law_size"], [], [], ?_, T.g__law_take, FD.kp, FD.bindsN (fun _ _ _ _ _ _ us hl => match us, hl with | [_, _], _ => rfl), .nil, fun _ => .nil⟩
  refine FD.ok sc_draw (fun vs H Q E h => ?_) (fun cdv A outer sh H vs Q E hr h => ?_)
  · obtain ⟨W, n, G, ds, q, x, _, _, _, r, hl, _⟩ := h
    rw [← r.length, hl]; rfl
  · obtain ⟨W, n, G, ds, q, xx, le, rg, j, r, hl, hF, kq, kx⟩ := h
    have hu := hr.units
    match ds, hF, r with
    | [.hnd s, .int many], hF, .cons (.hnd _) (.cons (.int _) .nil) =>
    obtain ⟨⟨⟨⟨c, e⟩, Ts⟩, rfl⟩, m0, m1, hn, hF⟩ := hF
    obtain ⟨⟨⟨ne, ne2, ne3⟩, cells, small, rr, hs, hc, he⟩, hTs⟩ := j
    dsimp only at ne ne2 ne3 hs hc he hTs
    have fin : ∀ (k : Int) (H' : Hp) (cells' : List Int) (r' : Int), 0 ≤ k → k < many → (∀ b u, H b = some u → ¬ boxA s (c, e) b → H' b = some u) → H' s = some (.lst [.ref c, .int r', .ref e, .int ((n : Int) + 1)]) → H' c = some (.lst (cells'.map V.int)) → H' e = some (.lst (small.map V.int)) → Q (.int k) H' := by
      intro k H' cells' r' k0 k1 fr h1 h2 h3
      have ek : k = (k.toNat : Int) := by omega
      have no : ∀ b u, H b = some u → boxA s (c, e) b → ∃ xs, u = .lst xs := fun b u q z => by
        rcases z with z | z | z
        · rw [z, hs] at q; cases q; exact ⟨_, rfl⟩
        · rw [z, hc] at q; cases q; exact ⟨_, rfl⟩
        · rw [z, he] at q; cases q; exact ⟨_, rfl⟩
      rw [ek]
      refine kq _ H' G (.int k.toNat) (n + 1) ⟨fun a o q r => fr a o q fun z => r (.inl z), Le.refl G, fun a o q => ⟨o, fr a o (le.get q) fun z => ?_, rfl⟩, fun a q => .inl q⟩ ⟨⟨⟨ne, ne2, ne3⟩, cells', small, r', by rw [h1]; rfl, h2, h3⟩, tabs_frame hTs (fun p hp ps q => fr _ _ q fun z => ?_) fun b x q => fr _ _ q fun z => ?_⟩ (.int _) (hF _ (by omega))
      · rw [rg a (.inl z)] at q; cases q
      · obtain ⟨xs, y⟩ := no _ _ q z; cases y
      · obtain ⟨xs, y⟩ := no _ _ q z; cases y
    have sl : ∀ {σ : L2.St} {i j : Nat} {v : V} {u : Option V}, i ≠ j → σ[j]? = some u → (σ.set i (some v))[j]? = some u := fun {σ i j v u} h q => by rw [List.getElem?_set, if_neg h]; exact q
    have sv : ∀ {σ : L2.St} {i : Nat} {v : V}, i < σ.length → (σ.set i (some v))[i]? = some (some v) := fun {σ i v} h => by rw [List.getElem?_set, if_pos rfl, if_pos h]
    obtain ⟨t3, p3, h3⟩ : ∃ t3, PSs (cxOf (L2.CX P w) P w K mg base ["_law_box_here", "_law_size", "_law_digit", "_law_cell", "_law_whole", "_law_mixed"] "_law_take" (defScope (top 32)) (ca K "_law_take") cdv A outer sh H E) ((defBody (top 32)).drop 4) t3 ∧
        ∀ (D : Ends) (σ : L2.St) (H' : Hp) (cells' : List Int) (r' v : Int), D.rt = Q → σ.length = 6 → σ[0]? = some (some (.ref s)) → σ[1]? = some (some (.int many)) → σ[3]? = some (some (.int v)) → (∀ b u, H b = some u → ¬ boxA s (c, e) b → H' b = some u) → H' s = some (.lst [.ref c, .int r', .ref e, .int ((n : Int) + 1)]) → H' c = some (.lst (cells'.map V.int)) → H' e = some (.lst (small.map V.int)) → t3 D σ H' := by
      refine ⟨_, pss_cons (ps_set (i := 4) sc_draw.nd rfl (.inl rfl) (pe_op op_add (pe_op op_mod (pe_callTy call_int1 (by rfl) T.f_int (by decide +kernel) (pa_cons (pv 3) pa_nil)) pe_int) (pe_op op_mul (pe_op op_mul pe_int (pe_ix ix_list (pv 0) pe_int (fun _ _ => rfl))) (pe_ix ix_list (pv 0) pe_int (fun _ _ => rfl)))))
              (pss_cons (ps_set (i := 5) sc_draw.nd rfl (.inl rfl) (pe_op op_mod (pe_op op_pow (pe_callTy call_int1 (by rfl) T.f_int (by decide +kernel) (pa_cons (pe_op op_add (pe_op op_add (pv 4) (pe_op op_mul pe_int (pe_ix ix_list (pv 0) pe_int (fun _ _ => rfl)))) pe_int) pa_nil)) pe_int) pe_int))
                (pss_one (ps_ret (pe_op op_mod (pe_op op_fdiv (pe_op op_mod (pe_callTy call_int1 (by rfl) T.f_int (by decide +kernel) (pa_cons (pe_op op_add (pe_op op_mul (pv 5) pe_int) (pe_op op_mul pe_int (pe_ix ix_list (pv 0) pe_int (fun _ _ => rfl)))) pa_nil)) pe_int) pe_int) (pv 1))))), ?_⟩
      intro D σ H' cells' r' v eD hl h0 h1 hv fr hs' hc' he'
      refine ⟨_, hv, .inl ⟨_, rfl, ?_⟩⟩
      refine ⟨_, _, rfl, rfl, (show (0 : Int) < 2147483647 by decide), ?_⟩
      refine ixr h0 hs' rfl ?_
      refine ⟨_, _, rfl, rfl, .inl (by decide), ?_⟩
      refine ixr h0 hs' rfl ?_
      refine ⟨_, _, rfl, rfl, .inr (by omega), ?_⟩
      refine ⟨_, _, rfl, rfl, ?_⟩
      have q0 := Int.emod_nonneg v (show (2147483647 : Int) ≠ 0 by decide)
      have q1 := Int.emod_lt_of_pos v (show (0 : Int) < 2147483647 by decide)
      have w0 : 0 ≤ 7919 * ((n : Int) + 1) * ((n : Int) + 1) := Int.mul_nonneg (by omega) (by omega)
      have w1 : 7919 * ((n : Int) + 1) * ((n : Int) + 1) ≤ 7919 * 1000000 * 1000000 := Int.mul_le_mul (by omega) (by omega) (by omega) (by omega)
      generalize v % 2147483647 = vv at q0 q1 ⊢
      generalize 7919 * ((n : Int) + 1) * ((n : Int) + 1) = ww at w0 w1 ⊢
      have k0 := sl (v := .int (vv + ww)) (show (4 : Nat) ≠ 0 by decide) h0
      have k1 := sl (v := .int (vv + ww)) (show (4 : Nat) ≠ 1 by decide) h1
      have k4 := sv (σ := σ) (i := 4) (v := .int (vv + ww)) (by omega)
      have kl : (σ.set 4 (some (.int (vv + ww)))).length = 6 := by rw [List.length_set]; exact hl
      refine ⟨_, k4, ?_⟩
      refine ixr k0 hs' rfl ?_
      refine ⟨_, _, rfl, rfl, .inl (by decide), ?_⟩
      refine ⟨_, _, rfl, rfl, ?_⟩
      refine ⟨_, _, rfl, rfl, ?_⟩
      refine .inl ⟨_, rfl, ?_⟩
      refine ⟨_, _, rfl, rfl, ⟨by decide, by decide, by omega⟩, ?_⟩
      refine ⟨_, _, rfl, rfl, (show (0 : Int) < 2147483629 by decide), ?_⟩
      obtain ⟨mx, hmx⟩ : ∃ mx, mx = (vv + ww + 104729 * ((n : Int) + 1) + 5) ^ Int.toNat 5 % 2147483629 := ⟨_, rfl⟩
      show gName 5 (.int ((vv + ww + 104729 * ((n : Int) + 1) + 5) ^ Int.toNat 5 % 2147483629)) (σ.set 4 (some (.int (vv + ww)))) H' _
      rw [← hmx]
      have j0 := sl (v := .int mx) (show (5 : Nat) ≠ 0 by decide) k0
      have j1 := sl (v := .int mx) (show (5 : Nat) ≠ 1 by decide) k1
      have j5 := sv (i := 5) (v := .int mx) (show 5 < (σ.set 4 (some (V.int (vv + ww)))).length by omega)
      refine ⟨_, j5, ?_⟩
      refine ⟨_, _, rfl, rfl, .inr (by decide), ?_⟩
      refine ixr j0 hs' rfl ?_
      refine ⟨_, _, rfl, rfl, .inl (by decide), ?_⟩
      refine ⟨_, _, rfl, rfl, ?_⟩
      refine .inl ⟨_, rfl, ?_⟩
      refine ⟨_, _, rfl, rfl, (show (0 : Int) < 1000000007 by decide), ?_⟩
      refine ⟨_, _, rfl, rfl, ⟨by decide, by decide⟩, ?_⟩
      refine ⟨_, j1, ?_⟩
      refine ⟨_, _, rfl, rfl, m0, ?_⟩
      show D.rt _ _
      rw [eD]
      exact fin _ _ cells' r' (Int.emod_nonneg _ (by omega)) (Int.emod_lt_of_pos _ m0) fr hs' hc' he'
    obtain ⟨t2, p2, h2⟩ : ∃ t2, PSs (cxOf (L2.CX P w) P w K mg base ["_law_box_here", "_law_size", "_law_digit", "_law_cell", "_law_whole", "_law_mixed"] "_law_take" (defScope (top 32)) (ca K "_law_take") cdv A outer sh H E) ((defBody (top 32)).drop 2) t2 ∧
        ∀ (D : Ends) (σ : L2.St) (H' : Hp) (cells' : List Int) (r' : Int), D.rt = Q → σ.length = 6 → σ[0]? = some (some (.ref s)) → σ[1]? = some (some (.int many)) → (∀ b u, H b = some u → ¬ boxA s (c, e) b → H' b = some u) → H' s = some (.lst [.ref c, .int r', .ref e, .int ((n : Int) + 1)]) → H' c = some (.lst (cells'.map V.int)) → H' e = some (.lst (small.map V.int)) → t2 D σ H' := by
      refine ⟨_, pss_cons (ps_if (pt_cmpR op_gt (pe_ix ix_list (pv 0) pe_int (fun _ _ => rfl)) pe_int (nomark _))
          (pss_cons (ps_set (i := 2) sc_draw.nd rfl (.inl rfl) (pe_op op_mod (pe_callTy call_int1 (by rfl) T.f_int (by decide +kernel) (pa_cons (pe_ix ix_list (pv 0) pe_int (fun _ _ => rfl)) pa_nil)) (pv 1)))
            (pss_cons (ps_asg (pe_op op_fdiv (pe_ix ix_list (pv 0) pe_int (fun _ _ => rfl)) (pv 1)) (pg_sub (pv 0) pe_int set_list (by intro _; rfl)))
              (pss_one (ps_ret (pv 2))))) pss_nil)
          (pss_cons (ps_set (i := 3) sc_draw.nd rfl (.inl rfl) (pe_ifExp (pt_cmpR (op_eqD hu) (pe_ix ix_list (pv 0) pe_int (fun _ _ => rfl)) (pe_lst pa_nil) (nomark _))
              (pe_op op_mul pe_int (pe_ix ix_list (pv 0) pe_int (fun _ _ => rfl)))
              (pe_ix ix_list (pe_ix ix_list (pv 0) pe_int (fun _ _ => rfl)) (pe_op op_mod (pe_callTy call_int1 (by rfl) T.f_int (by decide +kernel) (pa_cons (pe_ix ix_list (pv 0) pe_int (fun _ _ => rfl)) pa_nil)) (pe_callB call_len (by rfl) T.f_len (by decide +kernel) (pa_cons (pe_ix ix_list (pv 0) pe_int (fun _ _ => rfl)) pa_nil))) (fun _ _ => rfl))))
            p3), ?_⟩
      intro D σ H' cells' r' eD hl h0 h1 fr hs' hc' he'
      refine ixr h0 hs' rfl ?_
      refine ⟨r', 0, rfl, rfl, _, rfl, ?_⟩
      refine if_run (fun hb => ?_) (fun hb => ?_)
      · refine ixr h0 hs' rfl ?_
        refine .inl ⟨r', rfl, ?_⟩
        refine ⟨_, h1, _, _, rfl, rfl, m0, ?_⟩
        refine ixr (sl (by decide) h0) hs' rfl ?_
        refine ⟨_, sl (by decide) h1, _, _, rfl, rfl, ⟨m0, by omega⟩, ?_⟩
        refine gsr (j := 1) (sl (by decide) h0) hs' rfl rfl ?_
        refine ⟨_, sv (by omega), ?_⟩
        show D.rt _ _
        rw [eD]
        exact fin _ _ cells' (r' / many) (Int.emod_nonneg _ (by omega)) (Int.emod_lt_of_pos _ m0) (upd_frame fr (.inl (.inl rfl))) upd_same (by rw [upd_ne (Ne.symm ne)]; exact hc') (by rw [upd_ne (Ne.symm ne2)]; exact he')
      · refine ixr h0 hs' rfl ?_
        refine ⟨Nat.zero_le _, fun p np => ?_⟩
        have pc : p ≠ c := fun z => by rw [z, hc'] at np; cases np
        have ps : p ≠ s := fun z => by rw [z, hs'] at np; cases np
        have pe : p ≠ e := fun z => by rw [z, he'] at np; cases np
        have hs2 : (upd H' p (.lst [])) s = some (.lst [.ref c, .int r', .ref e, .int ((n : Int) + 1)]) := by rw [upd_ne (Ne.symm ps)]; exact hs'
        have hc2 : (upd H' p (.lst [])) c = some (.lst (cells'.map V.int)) := by rw [upd_ne (Ne.symm pc)]; exact hc'
        have he2 : (upd H' p (.lst [])) e = some (.lst (small.map V.int)) := by rw [upd_ne (Ne.symm pe)]; exact he'
        have fr2 : ∀ b u, H b = some u → ¬ boxA s (c, e) b → (upd H' p (.lst [])) b = some u := fun b u q nb => by
          rw [upd_ne (fun z => by rw [z] at q nb; rw [fr p u q nb] at np; cases np)]
          exact fr b u q nb
        refine ⟨_, _, .lst (SqL.of he2) (dp_ints small), .lst (SqL.of upd_same) .nil, PySem.W.ke_shaped_ints small, rfl, _, rfl, ?_⟩
        have go : ∀ v : Int, t3 D (σ.set 3 (some (.int v))) (upd H' p (.lst [])) := fun v => h3 D _ _ cells' r' v eD (by rw [List.length_set]; exact hl) (sl (by decide) h0) (sl (by decide) h1) (sv (by omega)) fr2 hs2 hc2 he2
        refine if_run (fun hb2 => ?_) (fun hb2 => ?_)
        · refine ixr h0 hs2 rfl ?_
          refine ⟨_, _, rfl, rfl, .inl (by decide), ?_⟩
          exact go _
        · refine ixr h0 hs2 rfl ?_
          refine ixr h0 hs2 rfl ?_
          refine .inl ⟨_, rfl, ?_⟩
          refine ixr h0 hs2 rfl ?_
          have sm : 0 < small.length := by
            cases small with
            | nil => exact nomatch hb2
            | cons x l => exact Nat.succ_pos _
          refine ⟨_, _, rfl, .inl ⟨_, SqL.of he2, rfl⟩, ?_⟩
          rw [List.length_map]
          refine ⟨_, _, rfl, rfl, (show (0 : Int) < (small.length : Int) by omega), ?_⟩
          have b0 := Int.emod_nonneg ((n : Int) + 1) (show (small.length : Int) ≠ 0 by omega)
          have b1 := Int.emod_lt_of_pos ((n : Int) + 1) (show (0 : Int) < (small.length : Int) by omega)
          obtain ⟨k, hk⟩ : ∃ k : Nat, ((n : Int) + 1) % (small.length : Int) = k := ⟨_, (Int.toNat_of_nonneg b0).symm⟩
          have hkl : k < small.length := by omega
          have ai : atI (small.map V.int) (((n : Int) + 1) % (small.length : Int)) = some (.int small[k]) := by
            rw [hk]
            unfold atI ixN
            rw [if_pos (by omega), if_pos (by rw [List.length_map]; omega)]
            show (small.map V.int)[((k : Nat) : Int).toNat]? = _
            rw [Int.toNat_natCast, List.getElem?_map, List.getElem?_eq_getElem hkl]; rfl
          refine ⟨e, _, _, .int small[k], rfl, rfl, SqL.of he2, ai, ?_⟩
          exact go _
    refine ⟨_, pss_cons (ps_asg (pe_op op_add (pe_ix ix_list (pv 0) pe_int (fun _ _ => rfl)) pe_int) (pg_sub (pv 0) pe_int set_list (by intro _; rfl)))
      (pss_cons (ps_if (PW.pt (pw_and (pt_cmpR (op_eqD hu) (pe_ix ix_list (pv 0) pe_int (fun _ _ => rfl)) pe_int (nomark _)) (pw_and1 (pt_cmpR op_gt (pe_callB call_len (by rfl) T.f_len (by decide +kernel) (pa_cons (pe_ix ix_list (pv 0) pe_int (fun _ _ => rfl)) pa_nil)) pe_int (nomark _)))))
        (pss_one (ps_asg (pe_bm PySem.F.plainAttrs_list PySem.F.slot_list_pop PySem.F.type_list_pop mt_popAt (pe_ix ix_list (pv 0) pe_int (fun _ _ => rfl)) (pa_cons pe_int pa_nil)) (pg_sub (pv 0) pe_int set_list (by intro _; rfl)))) pss_nil)
        p2), ?_⟩
    refine ixr rfl hs rfl ?_
    refine ⟨_, _, rfl, rfl, ?_⟩
    refine gsr (j := 3) rfl hs rfl (ys := [.ref c, .int rr, .ref e, .int ((n : Int) + 1)]) rfl ?_
    have fr1 : ∀ b u, H b = some u → ¬ boxA s (c, e) b → (upd H s (.lst [.ref c, .int rr, .ref e, .int ((n : Int) + 1)])) b = some u := upd_frame (fun b u q _ => q) (.inl (.inl rfl))
    have hs1 : (upd H s (.lst [.ref c, .int rr, .ref e, .int ((n : Int) + 1)])) s = some (.lst [.ref c, .int rr, .ref e, .int ((n : Int) + 1)]) := upd_same
    have hc1 : (upd H s (.lst [.ref c, .int rr, .ref e, .int ((n : Int) + 1)])) c = some (.lst (cells.map V.int)) := by rw [upd_ne (Ne.symm ne)]; exact hc
    have he1 : (upd H s (.lst [.ref c, .int rr, .ref e, .int ((n : Int) + 1)])) e = some (.lst (small.map V.int)) := by rw [upd_ne (Ne.symm ne2)]; exact he
    revert fr1 hs1 hc1 he1
    generalize (upd H s (.lst [.ref c, .int rr, .ref e, .int ((n : Int) + 1)])) = H1
    intro fr1 hs1 hc1 he1
    refine ixr rfl hs1 rfl ?_
    refine ⟨_, _, .int _, .int _, rfl, rfl, _, rfl, ?_⟩
    refine if_run (fun hb => ?_) (fun hb => ?_)
    · refine ixr rfl hs1 rfl ?_
      refine ⟨_, _, rfl, .inl ⟨_, SqL.of hc1, rfl⟩, ?_⟩
      refine ⟨_, _, rfl, rfl, _, rfl, ?_⟩
      refine if_run (fun hb2 => ?_) (fun hb2 => ?_)
      · cases cells with
        | nil => exact nomatch hb2
        | cons x cells =>
          refine ixr rfl hs1 rfl ⟨.inl ⟨rfl, _, SqL.of hc1⟩, ?_⟩
          refine ⟨c, _, 0, 0, .int x, rfl, rfl, hc1, by decide, by decide, (ixN_seq (j := 0) (by unfold ixN; rw [if_pos (by decide), if_pos (by rw [List.length_map, List.length_cons]; omega)]; rfl)).1, rfl, ?_⟩
          have hs3 : (upd H1 c (.lst (cells.map V.int))) s = some (.lst [.ref c, .int rr, .ref e, .int ((n : Int) + 1)]) := by rw [upd_ne ne]; exact hs1
          have hc3 : (upd H1 c (.lst (cells.map V.int))) c = some (.lst (cells.map V.int)) := upd_same
          have he3 : (upd H1 c (.lst (cells.map V.int))) e = some (.lst (small.map V.int)) := by rw [upd_ne (Ne.symm ne3)]; exact he1
          have fr3 := upd_frame (o := .lst (cells.map V.int)) (a := c) (Rg := fun b => boxA s (c, e) b) fr1 (.inl (.inr (.inl rfl)))
          refine gsr (j := 1) rfl hs3 rfl rfl ?_
          exact h2 _ _ _ cells x rfl rfl rfl rfl (upd_frame fr3 (.inl (.inl rfl))) upd_same (by rw [upd_ne (Ne.symm ne)]; exact hc3) (by rw [upd_ne (Ne.symm ne2)]; exact he3)
      · exact h2 _ _ _ cells rr rfl rfl rfl rfl fr1 hs1 hc1 he1
    · exact h2 _ _ _ cells rr rfl rfl rfl rfl fr1 hs1 hc1 he1
end
end My

namespace My
open PySem PySem.Spec L2 DL
theorem cs_Filter : ("Filter" : Str) ∈ CS := by decide +kernel
theorem own_Filter : (∀ c, Ty.own "Filter" = .own c → c ∈ CS) ↔ True := ⟨fun _ => trivial, fun _ c e => by cases e; exact cs_Filter⟩
theorem isOb_Filter (s : String) : isaO sub "Filter" (.b s) = false := rfl
theorem mem_Filter : ("Filter" : Str) ∈ (["Filter"] : List Str) ↔ True := ⟨fun _ => trivial, fun _ => List.mem_singleton_self _⟩
theorem isO_Filter_Filter : isaO sub "Filter" (.own "Filter") = true := by decide +kernel
end My

namespace My
open PySem PySem.Spec L2 DL
section
variable {P : Program} {w : World} {K : PySem.W.Frag} {mg : Str → Option Value} {base : Heap}
theorem sc_BadPrime___init__ : FnScope ["self", "prime"] ["self", "prime"] (defScope (inClass (top 2) 0)) := ⟨rfl, rfl, rfl, by decide +kernel, rfl, by decide +kernel, by decide +kernel⟩
theorem xg_BadPrime (T : Top K mg) : Xg P w K mg base "BadPrime" (spXF K "BadPrime" "prime") 2 := by
  obtain ⟨fd, FD⟩ := T.d_BadPrime___init__
  refine ⟨excB_ok T.x_BadPrime, T.g_BadPrime, fd, ["self", "prime"], rfl, ?_, FD.bindsN (fun _ _ _ _ _ _ us hl => match us, hl with | [_, _], _ => rfl)⟩
  refine FD.ok sc_BadPrime___init__ (fun vs H Q E h => ?_) (fun cdv A outer sh H vs Q E hr h => ?_)
  · obtain ⟨a, v, rfl, _⟩ := h
    rfl
  · obtain ⟨a, v, rfl, ha, hq⟩ := h
    refine ⟨_, pss_cons (ps_expr (pe_seinit T.base (by rfl) T.g_SeenError (pa_cons (pv 0) (pa_cons pe_str pa_nil)))) (pss_one (ps_ost (pv 0) (pv 1))), ?_⟩
    refine ⟨_, rfl, a, _, _, rfl, by show 1 ≤ 1000; decide, (excB_ok T.x_BadPrime).oex, ha, ?_⟩
    exact ⟨_, rfl, _, rfl, a, _, rfl, (excB_ok T.x_BadPrime).oex, (T.xf_BadPrime_prime).no, .inl ⟨ha, hq⟩⟩
theorem sc_BadTerm___init__ : FnScope ["self", "index"] ["self", "index"] (defScope (inClass (top 3) 0)) := ⟨rfl, rfl, rfl, by decide +kernel, rfl, by decide +kernel, by decide +kernel⟩
theorem xg_BadTerm (T : Top K mg) : Xg P w K mg base "BadTerm" (spXF K "BadTerm" "index") 2 := by
  obtain ⟨fd, FD⟩ := T.d_BadTerm___init__
  refine ⟨excB_ok T.x_BadTerm, T.g_BadTerm, fd, ["self", "index"], rfl, ?_, FD.bindsN (fun _ _ _ _ _ _ us hl => match us, hl with | [_, _], _ => rfl)⟩
  refine FD.ok sc_BadTerm___init__ (fun vs H Q E h => ?_) (fun cdv A outer sh H vs Q E hr h => ?_)
  · obtain ⟨a, v, rfl, _⟩ := h
    rfl
  · obtain ⟨a, v, rfl, ha, hq⟩ := h
    refine ⟨_, pss_cons (ps_expr (pe_seinit T.base (by rfl) T.g_SeenError (pa_cons (pv 0) (pa_cons pe_str pa_nil)))) (pss_one (ps_ost (pv 0) (pv 1))), ?_⟩
    refine ⟨_, rfl, a, _, _, rfl, by show 1 ≤ 1000; decide, (excB_ok T.x_BadTerm).oex, ha, ?_⟩
    exact ⟨_, rfl, _, rfl, a, _, rfl, (excB_ok T.x_BadTerm).oex, (T.xf_BadTerm_index).no, .inl ⟨ha, hq⟩⟩
theorem sc_BadText___init__ : FnScope ["self"] ["self"] (defScope (inClass (top 6) 0)) := ⟨rfl, rfl, rfl, by decide +kernel, rfl, by decide +kernel, by decide +kernel⟩
theorem xg_BadText (T : Top K mg) : Xg P w K mg base "BadText" (spX0 K "BadText") 1 := by
  obtain ⟨fd, FD⟩ := T.d_BadText___init__
  refine ⟨excB_ok T.x_BadText, T.g_BadText, fd, ["self"], rfl, ?_, FD.bindsN (fun _ _ _ _ _ _ us hl => match us, hl with | [_], _ => rfl)⟩
  refine FD.ok sc_BadText___init__ (fun vs H Q E h => ?_) (fun cdv A outer sh H vs Q E hr h => ?_)
  · obtain ⟨a, rfl, _⟩ := h
    rfl
  · obtain ⟨a, rfl, ha, hq⟩ := h
    refine ⟨_, pss_one (ps_expr (pe_seinit T.base (by rfl) T.g_SeenError (pa_cons (pv 0) (pa_cons pe_str pa_nil)))), ?_⟩
    exact ⟨_, rfl, a, _, _, rfl, by show 1 ≤ 1000; decide, (excB_ok T.x_BadText).oex, ha, hq⟩
theorem sc_UnlikePrimes___init__ : FnScope ["self"] ["self"] (defScope (inClass (top 4) 0)) := ⟨rfl, rfl, rfl, by decide +kernel, rfl, by decide +kernel, by decide +kernel⟩
theorem xg_UnlikePrimes (T : Top K mg) : Xg P w K mg base "UnlikePrimes" (spX0 K "UnlikePrimes") 1 := by
  obtain ⟨fd, FD⟩ := T.d_UnlikePrimes___init__
  refine ⟨excB_ok T.x_UnlikePrimes, T.g_UnlikePrimes, fd, ["self"], rfl, ?_, FD.bindsN (fun _ _ _ _ _ _ us hl => match us, hl with | [_], _ => rfl)⟩
  refine FD.ok sc_UnlikePrimes___init__ (fun vs H Q E h => ?_) (fun cdv A outer sh H vs Q E hr h => ?_)
  · obtain ⟨a, rfl, _⟩ := h
    rfl
  · obtain ⟨a, rfl, ha, hq⟩ := h
    refine ⟨_, pss_one (ps_expr (pe_seinit T.base (by rfl) T.g_SeenError (pa_cons (pv 0) (pa_cons pe_str pa_nil)))), ?_⟩
    exact ⟨_, rfl, a, _, _, rfl, by show 1 ≤ 1000; decide, (excB_ok T.x_UnlikePrimes).oex, ha, hq⟩
end
end My


namespace My
abbrev Tm := List (Int × Int)
def getI (m : Tm) (k : Int) : Int := ((m.find? fun t => decide (t.1 = k)).map (·.2)).getD 0
def putI (m : Tm) (k v : Int) : Tm := if m.any fun t => decide (t.1 = k) then m.map fun t => if t.1 = k then (t.1, v) else t else m ++ [(k, v)]
def hstep (p : Int) (m : Tm) (t : Int × Int) : Tm := putI m t.1 ((getI m t.1 + t.2) % p)
def hsum (p : Int) (ts : Tm) : Tm := ts.foldl (hstep p) []
def srt (ks : List Int) : List Int := ks.mergeSort (fun a b => decide (a ≤ b))
def canon (p : Int) (ts : Tm) : Tm := ((srt ((hsum p ts).map (·.1))).filter fun k => decide (0 < getI (hsum p ts) k)).map fun k => (k, getI (hsum p ts) k)
def prods (ts us : Tm) : Tm := ts.flatMap fun t => us.map fun u => (t.1 + u.1, t.2 * u.2)
def isPr (p : Int) : Bool := [2, 3, 5, 7].contains p
theorem sorted_unique : ∀ {l m : List Int}, l.Perm m → l.Pairwise (· ≤ ·) → m.Pairwise (· ≤ ·) → l = m
  | [], m, h, _, _ => (List.nil_perm.mp h).symm
  | a :: l, m, h, s, t => by
    cases m with
    | nil => exact (List.perm_nil.mp h)
    | cons b m =>
      have e : a = b := by
        rw [List.pairwise_cons] at s t
        have h1 : a ∈ b :: m := h.subset (List.mem_cons_self ..)
        have h2 : b ∈ a :: l := h.symm.subset (List.mem_cons_self ..)
        rcases List.mem_cons.mp h1 with e | h1
        · exact e
        · rcases List.mem_cons.mp h2 with e | h2
          · exact e.symm
          · have := s.1 b h2; have := t.1 a h1; omega
      subst e
      rw [List.pairwise_cons] at s t
      rw [sorted_unique (List.Perm.cons_inv h) s.2 t.2]
theorem srt_perm (ks : List Int) : (srt ks).Perm ks := List.mergeSort_perm _ _
theorem srt_sorted (ks : List Int) : (srt ks).Pairwise (· ≤ ·) := by
  have h := List.pairwise_mergeSort (le := fun a b : Int => decide (a ≤ b)) (fun a b c h1 h2 => by simp at *; omega) (fun a b => by simp; omega) ks
  exact h.imp (fun h => by simpa using h)
theorem srt_of {ks ms : List Int} (h : ms.Perm ks) (s : ms.Pairwise (· ≤ ·)) : ms = srt ks := sorted_unique (h.trans (srt_perm ks).symm) s (srt_sorted ks)
def csum (ts : Tm) (x : Int) : Int := ((ts.filter fun t => decide (t.1 = x)).map (·.2)).sum
theorem csum_cons (t : Int × Int) (ts : Tm) (x : Int) : csum (t :: ts) x = (if t.1 = x then t.2 else 0) + csum ts x := by
  unfold csum
  rw [List.filter_cons]
  by_cases h : t.1 = x
  · simp [h]
  · simp [h]
theorem csum_nil (x : Int) : csum [] x = 0 := rfl
theorem csum_append (a b : Tm) (x : Int) : csum (a ++ b) x = csum a x + csum b x := by
  induction a with
  | nil => simp [csum_nil]
  | cons t a ih => rw [List.cons_append, csum_cons, csum_cons, ih]; omega
theorem getI_nil (k : Int) : getI [] k = 0 := rfl
theorem getI_cons (t : Int × Int) (m : Tm) (k : Int) : getI (t :: m) k = if t.1 = k then t.2 else getI m k := by
  unfold getI
  rw [List.find?_cons]
  by_cases h : t.1 = k <;> simp [h]
theorem getI_out {m : Tm} {k : Int} (h : k ∉ m.map (·.1)) : getI m k = 0 := by
  induction m with
  | nil => rfl
  | cons t m ih =>
    rw [List.map_cons, List.mem_cons] at h
    rw [getI_cons, if_neg (fun z => h (.inl z.symm)), ih (fun z => h (.inr z))]
theorem any_iff (m : Tm) (k : Int) : (m.any fun t => decide (t.1 = k)) = true ↔ k ∈ m.map (·.1) := by
  rw [List.any_eq_true, List.mem_map]
  constructor
  · rintro ⟨t, h1, h2⟩; exact ⟨t, h1, by simpa using h2⟩
  · rintro ⟨t, h1, h2⟩; exact ⟨t, h1, by simpa using h2⟩
theorem putI_keys (m : Tm) (k v : Int) : (putI m k v).map (·.1) = if k ∈ m.map (·.1) then m.map (·.1) else m.map (·.1) ++ [k] := by
  unfold putI
  by_cases h : k ∈ m.map (·.1)
  · rw [if_pos h, if_pos ((any_iff m k).mpr h), List.map_map]
    refine List.map_congr_left fun t _ => ?_
    show (if t.1 = k then (t.1, v) else t).1 = t.1
    split <;> rfl
  · rw [if_neg h, if_neg (fun z => h ((any_iff m k).mp z)), List.map_append]
    rfl
theorem getI_map (k v j : Int) : ∀ m : Tm, getI (m.map fun t => if t.1 = k then (t.1, v) else t) j = if j = k then (if k ∈ m.map (·.1) then v else 0) else getI m j
  | [] => by simp [getI_nil]
  | t :: m => by
    rw [List.map_cons, getI_cons, getI_map k v j m, getI_cons]
    by_cases h : t.1 = k
    · rw [if_pos h]
      by_cases hj : j = k
      · subst hj
        simp [h]
      · rw [if_neg hj, if_neg hj]
        have hk : ¬ k = j := fun z => hj z.symm
        simp [h, hk]
    · rw [if_neg h]
      by_cases hj : j = k
      · subst hj
        have h' : ¬ j = t.1 := fun z => h z.symm
        rw [if_neg h, if_pos rfl, if_pos rfl]
        simp only [List.map_cons, List.mem_cons, h', false_or]
      · rw [if_neg hj, if_neg hj]
theorem getI_snoc (k v j : Int) : ∀ m : Tm, k ∉ m.map (·.1) → getI (m ++ [(k, v)]) j = if j = k then v else getI m j
  | [], _ => by
    rw [List.nil_append, getI_cons, getI_nil]
    by_cases h : j = k
    · simp [h]
    · have h' : ¬ k = j := fun z => h z.symm
      simp [h, h']
  | t :: m, h => by
    rw [List.map_cons, List.mem_cons] at h
    rw [List.cons_append, getI_cons, getI_cons, getI_snoc k v j m (fun z => h (.inr z))]
    by_cases hj : j = k
    · have h' : ¬ t.1 = j := fun z => h (.inl (by rw [z, hj]))
      rw [if_neg h', if_pos hj, if_pos hj]
    · rw [if_neg hj, if_neg hj]
theorem getI_put (m : Tm) (k v j : Int) : getI (putI m k v) j = if j = k then v else getI m j := by
  unfold putI
  by_cases h : k ∈ m.map (·.1)
  · rw [if_pos ((any_iff m k).mpr h), getI_map, if_pos h]
  · rw [if_neg (fun z => h ((any_iff m k).mp z)), getI_snoc k v j m h]
theorem putI_nodup {m : Tm} (h : (m.map (·.1)).Nodup) (k v : Int) : ((putI m k v).map (·.1)).Nodup := by
  rw [putI_keys]
  split
  · exact h
  · rename_i hk
    rw [List.nodup_append]
    exact ⟨h, List.nodup_cons.mpr ⟨List.not_mem_nil, List.nodup_nil⟩, fun a ha b hb z => by
      rw [List.mem_singleton] at hb
      rw [z, hb] at ha
      exact hk ha⟩
theorem putI_length (m : Tm) (k v : Int) : (putI m k v).length ≤ m.length + 1 := by
  unfold putI
  split <;> simp
theorem fold_nodup (p : Int) : ∀ (ts m : Tm), (m.map (·.1)).Nodup → ((ts.foldl (hstep p) m).map (·.1)).Nodup
  | [], m, h => h
  | t :: ts, m, h => fold_nodup p ts _ (putI_nodup h _ _)
theorem fold_length (p : Int) : ∀ (ts m : Tm), (ts.foldl (hstep p) m).length ≤ m.length + ts.length
  | [], m => by simp
  | t :: ts, m => by
    have h1 := fold_length p ts (hstep p m t)
    have h2 := putI_length m t.1 ((getI m t.1 + t.2) % p)
    rw [List.foldl_cons, List.length_cons]
    unfold hstep at h1 ⊢
    omega
theorem fold_get (p : Int) : ∀ (ts m : Tm) (k : Int), (ts.foldl (hstep p) m |> fun r => getI r k) % p = (getI m k + csum ts k) % p
  | [], m, k => by simp [csum_nil]
  | t :: ts, m, k => by
    have ih := fold_get p ts (hstep p m t) k
    show getI (ts.foldl (hstep p) (hstep p m t)) k % p = _
    have ih : getI (ts.foldl (hstep p) (hstep p m t)) k % p = (getI (hstep p m t) k + csum ts k) % p := ih
    rw [ih, csum_cons]
    unfold hstep
    rw [getI_put]
    by_cases h : k = t.1
    · rw [if_pos h, if_pos h.symm, h, Int.emod_add_emod, Int.add_assoc]
    · rw [if_neg h, if_neg (fun z => h z.symm), Int.zero_add]
theorem fold_small {p : Int} (hp : 0 < p) : ∀ (ts m : Tm), (∀ k, 0 ≤ getI m k ∧ getI m k < p) → ∀ k, 0 ≤ getI (ts.foldl (hstep p) m) k ∧ getI (ts.foldl (hstep p) m) k < p
  | [], m, h => h
  | t :: ts, m, h => fold_small hp ts _ fun k => by
    unfold hstep
    rw [getI_put]
    split
    · exact ⟨Int.emod_nonneg _ (by omega), Int.emod_lt_of_pos _ hp⟩
    · exact h k
theorem hsum_get {p : Int} (hp : 0 < p) (ts : Tm) (k : Int) : getI (hsum p ts) k = csum ts k % p := by
  have h1 := fold_get p ts [] k
  have h2 := fold_small hp ts [] (fun k => ⟨by rw [getI_nil]; omega, by rw [getI_nil]; omega⟩) k
  have h1 : getI (hsum p ts) k % p = (getI [] k + csum ts k) % p := h1
  rw [getI_nil, Int.zero_add] at h1
  rw [← h1]
  exact (Int.emod_eq_of_lt h2.1 h2.2).symm
theorem hsum_nodup (p : Int) (ts : Tm) : ((hsum p ts).map (·.1)).Nodup := fold_nodup p ts [] List.nodup_nil
theorem hsum_length (p : Int) (ts : Tm) : (hsum p ts).length ≤ ts.length := by
  have := fold_length p ts []
  simpa [hsum] using this
theorem canon_sorted (p : Int) (ts : Tm) : ((canon p ts).map (·.1)).Pairwise (· < ·) := by
  unfold canon
  rw [List.map_map]
  have e : ((fun t : Int × Int => t.1) ∘ fun k => (k, getI (hsum p ts) k)) = id := rfl
  rw [e, List.map_id]
  refine List.Pairwise.sublist List.filter_sublist ?_
  have h1 := srt_sorted ((hsum p ts).map (·.1))
  have h2 : (srt ((hsum p ts).map (·.1))).Pairwise (· ≠ ·) := (srt_perm _).symm.nodup (hsum_nodup p ts)
  exact List.Pairwise.imp (fun ⟨a, b⟩ => by omega) (List.Pairwise.and h1 h2)
theorem canon_nodup (p : Int) (ts : Tm) : ((canon p ts).map (·.1)).Nodup := (canon_sorted p ts).imp (fun h => by omega)
theorem canon_mem {p : Int} (hp : 0 < p) (ts : Tm) (k v : Int) : (k, v) ∈ canon p ts ↔ v = csum ts k % p ∧ 0 < v := by
  unfold canon
  rw [List.mem_map]
  constructor
  · rintro ⟨a, h1, h2⟩
    rw [List.mem_filter] at h1
    cases h2
    exact ⟨hsum_get hp ts k, by simpa using h1.2⟩
  · rintro ⟨rfl, h⟩
    refine ⟨k, ?_, by rw [hsum_get hp]⟩
    rw [List.mem_filter, (srt_perm _).mem_iff]
    refine ⟨?_, by rw [hsum_get hp]; simpa using h⟩
    by_cases z : k ∈ (hsum p ts).map (·.1)
    · exact z
    · have := getI_out z
      rw [hsum_get hp] at this
      omega
theorem canon_length (p : Int) (ts : Tm) : (canon p ts).length ≤ ts.length := by
  unfold canon
  rw [List.length_map]
  refine Nat.le_trans (List.length_filter_le _ _) ?_
  rw [(srt_perm _).length_eq, List.length_map]
  exact hsum_length p ts
theorem pair_ext : ∀ {l m : Tm}, (l.map (·.1)).Pairwise (· < ·) → (m.map (·.1)).Pairwise (· < ·) → (∀ k v, (k, v) ∈ l ↔ (k, v) ∈ m) → l = m
  | [], m, _, _, h => by
    cases m with
    | nil => rfl
    | cons b m => exact absurd ((h b.1 b.2).mpr (List.mem_cons_self ..)) List.not_mem_nil
  | a :: l, m, s, t, h => by
    cases m with
    | nil => exact absurd ((h a.1 a.2).mp (List.mem_cons_self ..)) List.not_mem_nil
    | cons b m =>
      rw [List.map_cons, List.pairwise_cons] at s t
      have e : a = b := by
        have h1 := (h a.1 a.2).mp (List.mem_cons_self ..)
        have h2 := (h b.1 b.2).mpr (List.mem_cons_self ..)
        rcases List.mem_cons.mp h1 with e | h1
        · exact e
        · rcases List.mem_cons.mp h2 with e | h2
          · exact e.symm
          · have := s.1 b.1 (List.mem_map.mpr ⟨_, h2, rfl⟩)
            have := t.1 a.1 (List.mem_map.mpr ⟨_, h1, rfl⟩)
            omega
      subst e
      rw [pair_ext s.2 t.2 fun k v => ?_]
      constructor
      · intro z
        rcases List.mem_cons.mp ((h k v).mp (List.mem_cons_of_mem _ z)) with e | z'
        · have := s.1 k (List.mem_map.mpr ⟨_, z, rfl⟩)
          rw [← e] at this
          exact absurd this (by simp)
        · exact z'
      · intro z
        rcases List.mem_cons.mp ((h k v).mpr (List.mem_cons_of_mem _ z)) with e | z'
        · have := t.1 k (List.mem_map.mpr ⟨_, z, rfl⟩)
          rw [← e] at this
          exact absurd this (by simp)
        · exact z'
theorem canon_ext {p : Int} (hp : 0 < p) {ts us : Tm} (h : ∀ x, csum ts x % p = csum us x % p) : canon p ts = canon p us :=
  pair_ext (canon_sorted p ts) (canon_sorted p us) fun k v => by rw [canon_mem hp, canon_mem hp, h k]
theorem csum_get : ∀ {m : Tm}, (m.map (·.1)).Nodup → ∀ k, csum m k = getI m k
  | [], _, k => rfl
  | t :: m, h, k => by
    rw [List.map_cons, List.nodup_cons] at h
    rw [csum_cons, getI_cons, csum_get h.2 k]
    by_cases e : t.1 = k
    · rw [if_pos e, if_pos e, getI_out (e ▸ h.1)]; omega
    · rw [if_neg e, if_neg e]; omega
theorem getI_mem : ∀ {m : Tm} {k v : Int}, (m.map (·.1)).Nodup → (k, v) ∈ m → getI m k = v
  | t :: m, k, v, h, hm => by
    rw [List.map_cons, List.nodup_cons] at h
    rw [getI_cons]
    rcases List.mem_cons.mp hm with e | hm
    · rw [← e, if_pos rfl]
    · have : ¬ t.1 = k := fun z => h.1 (z ▸ List.mem_map.mpr ⟨_, hm, rfl⟩)
      rw [if_neg this]
      exact getI_mem h.2 hm
theorem csum_canon {p : Int} (hp : 0 < p) (ts : Tm) (x : Int) : csum (canon p ts) x = csum ts x % p := by
  rw [csum_get (canon_nodup p ts)]
  by_cases h : 0 < csum ts x % p
  · exact getI_mem (canon_nodup p ts) ((canon_mem hp ts x _).mpr ⟨rfl, h⟩)
  · have h0 := Int.emod_nonneg (csum ts x) (show p ≠ 0 by omega)
    have e : csum ts x % p = 0 := by omega
    rw [e]
    refine getI_out fun z => ?_
    obtain ⟨⟨k, v⟩, hm, rfl⟩ := List.mem_map.mp z
    obtain ⟨h1, h2⟩ := (canon_mem hp ts k v).mp hm
    have e : csum ts k % p = 0 := e
    omega
theorem prods_cons (t : Int × Int) (ts us : Tm) : prods (t :: ts) us = (us.map fun u => (t.1 + u.1, t.2 * u.2)) ++ prods ts us := rfl
theorem prods_snd (u : Int × Int) (us : Tm) (x : Int) : ∀ ts : Tm, csum (prods ts (u :: us)) x = csum (ts.map fun t => (u.1 + t.1, u.2 * t.2)) x + csum (prods ts us) x
  | [] => by simp [prods, csum_nil]
  | t :: ts => by
    rw [prods_cons, prods_cons, List.map_cons, List.map_cons, List.cons_append, csum_cons, csum_append, csum_cons, csum_append, prods_snd u us x ts, Int.add_comm t.1 u.1, Int.mul_comm t.2 u.2]
    simp only []
    omega
theorem prods_comm (x : Int) : ∀ ts us : Tm, csum (prods ts us) x = csum (prods us ts) x
  | [], us => by
    have : prods us [] = [] := by induction us with
      | nil => rfl
      | cons u us ih => rw [prods_cons, ih]; rfl
    rw [this]; rfl
  | t :: ts, us => by rw [prods_cons, csum_append, prods_snd, prods_comm x ts us]
theorem isPr_cases {p : Int} (h : isPr p = true) : p = 2 ∨ p = 3 ∨ p = 5 ∨ p = 7 := by simpa [isPr] using h
theorem isPr_pos {p : Int} (h : isPr p = true) : 0 < p ∧ p < 10 := by rcases isPr_cases h with h | h | h | h <;> omega
theorem canon_small {p : Int} (hp : 0 < p) (ts : Tm) : ∀ t ∈ canon p ts, 0 < t.2 ∧ t.2 < p := by
  rintro ⟨k, v⟩ h
  obtain ⟨rfl, h2⟩ := (canon_mem hp ts k v).mp h
  exact ⟨h2, Int.emod_lt_of_pos _ hp⟩
end My

namespace My
def wsum (a : Tm) (f : Int → Int) : Int := (a.map fun t => t.2 * f t.1).sum
theorem wsum_nil (f : Int → Int) : wsum [] f = 0 := rfl
theorem wsum_cons (t : Int × Int) (a : Tm) (f : Int → Int) : wsum (t :: a) f = t.2 * f t.1 + wsum a f := by unfold wsum; simp
theorem wsum_append (a b : Tm) (f : Int → Int) : wsum (a ++ b) f = wsum a f + wsum b f := by
  induction a with
  | nil => simp [wsum_nil]
  | cons t a ih => rw [List.cons_append, wsum_cons, wsum_cons, ih]; omega
theorem wsum_add (a : Tm) (f g : Int → Int) : wsum a (fun k => f k + g k) = wsum a f + wsum a g := by
  induction a with
  | nil => rfl
  | cons t a ih => rw [wsum_cons, wsum_cons, wsum_cons, ih, Int.mul_add]; omega
theorem wsum_congr_f {p : Int} (a : Tm) {f g : Int → Int} (h : ∀ k, f k % p = g k % p) : wsum a f % p = wsum a g % p := by
  induction a with
  | nil => rfl
  | cons t a ih =>
    rw [wsum_cons, wsum_cons, Int.add_emod, Int.mul_emod, h, ih, ← Int.mul_emod, ← Int.add_emod]
theorem sum_zero (L : List Int) (g : Int → Int) (h : ∀ k ∈ L, g k = 0) : (L.map g).sum = 0 := by
  induction L with
  | nil => rfl
  | cons a L ih => rw [List.map_cons, List.sum_cons, h a (List.mem_cons_self ..), ih fun k hk => h k (List.mem_cons_of_mem _ hk)]; rfl
theorem sum_add' (L : List Int) (g h : Int → Int) : (L.map fun k => g k + h k).sum = (L.map g).sum + (L.map h).sum := by
  induction L with
  | nil => rfl
  | cons a L ih => simp only [List.map_cons, List.sum_cons, ih]; omega
theorem sum_single (v k0 : Int) (f : Int → Int) : ∀ L : List Int, L.Nodup → k0 ∈ L → (L.map fun k => (if k0 = k then v else 0) * f k).sum = v * f k0
  | a :: L, hn, hm => by
    rw [List.nodup_cons] at hn
    rw [List.map_cons, List.sum_cons]
    by_cases h : k0 = a
    · subst h
      rw [if_pos rfl, sum_zero L _ fun k hk => by
        rw [if_neg (fun (z : k0 = k) => hn.1 (z.symm ▸ hk))]; simp]
      omega
    · rw [if_neg h, sum_single v k0 f L hn.2 (by rcases List.mem_cons.mp hm with z | z; exact absurd z h; exact z)]
      simp
theorem wsum_keys (f : Int → Int) (L : List Int) (hn : L.Nodup) : ∀ a : Tm, (∀ t ∈ a, t.1 ∈ L) → wsum a f = (L.map fun k => csum a k * f k).sum
  | [], _ => by rw [wsum_nil, sum_zero]; intro k _; rw [csum_nil]; simp
  | t :: a, h => by
    rw [wsum_cons, wsum_keys f L hn a fun u hu => h u (List.mem_cons_of_mem _ hu), ← sum_single t.2 t.1 f L hn (h t (List.mem_cons_self ..)), ← sum_add']
    congr 1
    refine List.map_congr_left fun k _ => ?_
    rw [csum_cons, Int.add_mul]
theorem sum_congr_mod {p : Int} (g h : Int → Int) (L : List Int) (e : ∀ k, g k % p = h k % p) : (L.map g).sum % p = (L.map h).sum % p := by
  induction L with
  | nil => rfl
  | cons a L ih => rw [List.map_cons, List.map_cons, List.sum_cons, List.sum_cons, Int.add_emod, e, ih, ← Int.add_emod]
theorem exists_nodup (l : List Int) : ∃ L : List Int, L.Nodup ∧ ∀ k ∈ l, k ∈ L := by
  induction l with
  | nil => exact ⟨[], List.nodup_nil, fun k h => h⟩
  | cons a l ih =>
    obtain ⟨L, h1, h2⟩ := ih
    by_cases h : a ∈ L
    · exact ⟨L, h1, fun k hk => by rcases List.mem_cons.mp hk with z | z; exact z ▸ h; exact h2 k z⟩
    · exact ⟨a :: L, List.nodup_cons.mpr ⟨h, h1⟩, fun k hk => by
        rcases List.mem_cons.mp hk with z | z
        · exact z ▸ List.mem_cons_self ..
        · exact List.mem_cons_of_mem _ (h2 k z)⟩
def Eqv (p : Int) (a b : Tm) : Prop := ∀ x, csum a x % p = csum b x % p
theorem wsum_congr {p : Int} {a b : Tm} (h : Eqv p a b) (f : Int → Int) : wsum a f % p = wsum b f % p := by
  obtain ⟨L, hn, hL⟩ := exists_nodup ((a ++ b).map (·.1))
  rw [wsum_keys f L hn a fun t ht => hL _ (List.mem_map.mpr ⟨t, List.mem_append.mpr (.inl ht), rfl⟩), wsum_keys f L hn b fun t ht => hL _ (List.mem_map.mpr ⟨t, List.mem_append.mpr (.inr ht), rfl⟩)]
  refine sum_congr_mod _ _ L fun k => ?_
  rw [Int.mul_emod, h k, ← Int.mul_emod]
theorem csum_shift (t : Int × Int) (b : Tm) (x : Int) : csum (b.map fun u => (t.1 + u.1, t.2 * u.2)) x = t.2 * csum b (x - t.1) := by
  induction b with
  | nil => simp [csum_nil]
  | cons u b ih =>
    rw [List.map_cons, csum_cons, csum_cons, ih, Int.mul_add]
    congr 1
    by_cases h : u.1 = x - t.1
    · rw [if_pos h, if_pos (by omega)]
    · rw [if_neg h, if_neg (by omega)]; simp
theorem csum_prods (a b : Tm) (x : Int) : csum (prods a b) x = wsum a fun k => csum b (x - k) := by
  induction a with
  | nil => rfl
  | cons t a ih => rw [prods_cons, csum_append, ih, csum_shift, wsum_cons]
theorem wsum_prods (a b : Tm) (f : Int → Int) : wsum (prods a b) f = wsum a fun i => wsum b fun j => f (i + j) := by
  induction a with
  | nil => rfl
  | cons t a ih =>
    rw [prods_cons, wsum_append, ih, wsum_cons]
    congr 1
    have : ∀ b : Tm, wsum (b.map fun u => (t.1 + u.1, t.2 * u.2)) f = t.2 * wsum b fun j => f (t.1 + j) := by
      intro b
      induction b with
      | nil => simp [wsum_nil]
      | cons u b ih => rw [List.map_cons, wsum_cons, wsum_cons, ih, Int.mul_add, Int.mul_assoc]
    exact this b
def eqvS (p : Int) : Setoid Tm := ⟨Eqv p, fun a x => rfl, fun h x => (h x).symm, fun h g x => (h x).trans (g x)⟩
def LP (p : Int) : Type := Quotient (eqvS p)
def lp (p : Int) (a : Tm) : LP p := Quotient.mk (eqvS p) a
section
variable {p : Int}
theorem lp_eq {a b : Tm} : lp p a = lp p b ↔ Eqv p a b := ⟨fun h => Quotient.exact h, fun h => Quotient.sound h⟩
theorem lp_surj (x : LP p) : ∃ a, lp p a = x := Quotient.exists_rep x
def negT (a : Tm) : Tm := a.map fun t => (t.1, -t.2)
theorem csum_neg (a : Tm) (x : Int) : csum (negT a) x = -csum a x := by
  induction a with
  | nil => rfl
  | cons t a ih =>
    show csum ((t.1, -t.2) :: negT a) x = _
    rw [csum_cons, csum_cons, ih]
    by_cases h : t.1 = x
    · rw [if_pos h, if_pos h]; omega
    · rw [if_neg h, if_neg h]; omega
theorem emod_neg_congr {a b : Int} (h : a % p = b % p) : (-a) % p = (-b) % p := by
  have : (p : Int) ∣ a - b := Int.dvd_of_emod_eq_zero (by rw [Int.sub_emod, h]; simp)
  have h2 : p ∣ -a - -b := by
    obtain ⟨c, hc⟩ := this
    exact ⟨-c, by rw [Int.mul_neg, ← hc]; omega⟩
  exact Int.emod_emod_of_dvd _ (Int.dvd_refl p) ▸ (by
    have e : -a = -b + (-a - -b) := by omega
    rw [e, Int.add_emod, Int.emod_eq_zero_of_dvd h2]; simp)
def LP.add (x y : LP p) : LP p := Quotient.liftOn₂ x y (fun a b => lp p (a ++ b)) fun a b a' b' h h' => lp_eq.mpr fun x => by
  rw [csum_append, csum_append, Int.add_emod, h x, h' x, ← Int.add_emod]
def LP.mul (x y : LP p) : LP p := Quotient.liftOn₂ x y (fun a b => lp p (prods a b)) fun a b a' b' h h' => lp_eq.mpr fun x => by
  rw [csum_prods, csum_prods, wsum_congr h, wsum_congr_f a' fun k => h' (x - k)]
def LP.neg (x : LP p) : LP p := Quotient.liftOn x (fun a => lp p (negT a)) fun a b h => lp_eq.mpr fun x => by
  rw [csum_neg, csum_neg]; exact emod_neg_congr (h x)
instance : Add (LP p) := ⟨LP.add⟩
instance : Mul (LP p) := ⟨LP.mul⟩
instance : Neg (LP p) := ⟨LP.neg⟩
instance : Sub (LP p) := ⟨fun a b => a + -b⟩
instance : NatCast (LP p) := ⟨fun n => lp p [(0, (n : Int))]⟩
instance : IntCast (LP p) := ⟨fun n => lp p [(0, n)]⟩
instance (n : Nat) : OfNat (LP p) n := ⟨lp p [(0, (n : Int))]⟩
def LP.pow (x : LP p) : Nat → LP p
  | 0 => 1
  | n + 1 => LP.pow x n * x
instance : HPow (LP p) Nat (LP p) := ⟨LP.pow⟩
instance : SMul Nat (LP p) := ⟨fun n a => (n : LP p) * a⟩
instance : SMul Int (LP p) := ⟨fun n a => (n : LP p) * a⟩
theorem lp_add (a b : Tm) : lp p a + lp p b = lp p (a ++ b) := rfl
theorem lp_mul (a b : Tm) : lp p a * lp p b = lp p (prods a b) := rfl
theorem lp_neg (a : Tm) : -lp p a = lp p (negT a) := rfl
theorem lp_zero : (0 : LP p) = lp p [] := lp_eq.mpr fun x => by
  show csum [(0, ((0 : Nat) : Int))] x % p = _
  rw [csum_cons, csum_nil]; split <;> rfl
theorem add_comm' (x y : LP p) : x + y = y + x := by
  obtain ⟨a, rfl⟩ := lp_surj x
  obtain ⟨b, rfl⟩ := lp_surj y
  exact lp_eq.mpr fun x => by rw [csum_append, csum_append, Int.add_comm]
theorem mul_comm' (x y : LP p) : x * y = y * x := by
  obtain ⟨a, rfl⟩ := lp_surj x
  obtain ⟨b, rfl⟩ := lp_surj y
  exact lp_eq.mpr fun x => by rw [prods_comm]
theorem mul_one' (x : LP p) : x * 1 = x := by
  obtain ⟨a, rfl⟩ := lp_surj x
  refine lp_eq.mpr fun x => ?_
  rw [prods_comm, csum_prods, wsum_cons, wsum_nil]
  simp
theorem distrib' (x y z : LP p) : x * (y + z) = x * y + x * z := by
  obtain ⟨a, rfl⟩ := lp_surj x
  obtain ⟨b, rfl⟩ := lp_surj y
  obtain ⟨c, rfl⟩ := lp_surj z
  refine lp_eq.mpr fun x => ?_
  rw [csum_prods, csum_append, csum_prods, csum_prods, ← wsum_add]
  congr 2
  funext k
  rw [csum_append]
instance : Lean.Grind.CommRing (LP p) where
  add_zero x := by
    obtain ⟨a, rfl⟩ := lp_surj x
    rw [lp_zero, lp_add, List.append_nil]
  add_comm := add_comm'
  add_assoc x y z := by
    obtain ⟨a, rfl⟩ := lp_surj x
    obtain ⟨b, rfl⟩ := lp_surj y
    obtain ⟨c, rfl⟩ := lp_surj z
    rw [lp_add, lp_add, lp_add, lp_add, List.append_assoc]
  mul_assoc x y z := by
    obtain ⟨a, rfl⟩ := lp_surj x
    obtain ⟨b, rfl⟩ := lp_surj y
    obtain ⟨c, rfl⟩ := lp_surj z
    refine lp_eq.mpr fun x => ?_
    rw [csum_prods, wsum_prods, csum_prods]
    congr 2
    funext i
    rw [csum_prods]
    congr 1
    funext j
    congr 1
    omega
  mul_one := mul_one'
  one_mul x := by rw [mul_comm', mul_one']
  left_distrib := distrib'
  right_distrib x y z := by rw [mul_comm', distrib', mul_comm' z, mul_comm' z]
  zero_mul x := by
    obtain ⟨a, rfl⟩ := lp_surj x
    rw [lp_zero, lp_mul]; rfl
  mul_zero x := by
    rw [mul_comm']
    obtain ⟨a, rfl⟩ := lp_surj x
    rw [lp_zero, lp_mul]; rfl
  pow_zero x := rfl
  pow_succ x n := rfl
  ofNat_succ n := by
    refine lp_eq.mpr fun x => ?_
    rw [csum_cons, csum_nil, csum_append, csum_cons, csum_cons, csum_nil]
    by_cases h : (0 : Int) = x
    · subst h; simp
    · simp [h]
  neg_add_cancel x := by
    obtain ⟨a, rfl⟩ := lp_surj x
    rw [lp_zero, lp_neg, lp_add]
    refine lp_eq.mpr fun x => ?_
    rw [csum_append, csum_neg, csum_nil]
    congr 1
    omega
  sub_eq_add_neg x y := rfl
  neg_zsmul i x := by
    obtain ⟨a, rfl⟩ := lp_surj x
    refine lp_eq.mpr fun x => ?_
    rw [csum_neg, csum_prods, csum_prods, wsum_cons, wsum_cons, wsum_nil]
    congr 1
    rw [Int.add_zero, Int.add_zero, Int.neg_mul]
  intCast_neg i := by
    refine lp_eq.mpr fun x => ?_
    rw [csum_neg, csum_cons, csum_cons, csum_nil]
    congr 1
    split <;> omega
  mul_comm := mul_comm'
example (f g h : LP p) : f * (g + h) - f * h = g * f := by grind
example (f g h : LP p) : (f + g) * (f + g) = f * f + 2 * f * g + g * g := by grind
end
end My

namespace My
section
variable {p : Int}
def cf (x : LP p) (k : Int) : Int := Quotient.liftOn x (fun a => csum a k % p) fun a b h => h k
theorem cf_lp (a : Tm) (k : Int) : cf (lp p a) k = csum a k % p := rfl
theorem cf_ext {x y : LP p} (h : ∀ k, cf x k = cf y k) : x = y := by
  obtain ⟨a, rfl⟩ := lp_surj x
  obtain ⟨b, rfl⟩ := lp_surj y
  exact lp_eq.mpr h
theorem cf_mod (x : LP p) (k : Int) : cf x k % p = cf x k := by
  obtain ⟨a, rfl⟩ := lp_surj x
  rw [cf_lp, Int.emod_emod_of_dvd _ (Int.dvd_refl p)]
theorem cf_add (x y : LP p) (k : Int) : cf (x + y) k = (cf x k + cf y k) % p := by
  obtain ⟨a, rfl⟩ := lp_surj x
  obtain ⟨b, rfl⟩ := lp_surj y
  rw [lp_add, cf_lp, cf_lp, cf_lp, csum_append, ← Int.add_emod]
theorem cf_neg (x : LP p) (k : Int) : cf (-x) k = (-cf x k) % p := by
  obtain ⟨a, rfl⟩ := lp_surj x
  rw [lp_neg, cf_lp, cf_lp, csum_neg]
  exact emod_neg_congr (Int.emod_emod_of_dvd _ (Int.dvd_refl p)).symm
theorem cf_zero (k : Int) : cf (0 : LP p) k = 0 := by rw [lp_zero, cf_lp, csum_nil]; exact Int.zero_emod p
def mono (p k c : Int) : LP p := lp p [(k, c)]
theorem cf_mono (k c j : Int) : cf (mono p k c) j = if k = j then c % p else 0 := by
  unfold mono
  rw [cf_lp, csum_cons, csum_nil]
  split
  · simp
  · simp
theorem cf_mono_mul (k c : Int) (x : LP p) (j : Int) : cf (mono p k c * x) j = (c * cf x (j - k)) % p := by
  obtain ⟨a, rfl⟩ := lp_surj x
  unfold mono
  rw [lp_mul, cf_lp, cf_lp, csum_prods, wsum_cons, wsum_nil, Int.add_zero]
  show c * csum a (j - k) % p = _
  rw [Int.mul_emod, Int.mul_emod c (csum a (j - k) % p), Int.emod_emod_of_dvd _ (Int.dvd_refl p)]
theorem cf_int_mul (c : Int) (x : LP p) (j : Int) : cf (((c : Int) : LP p) * x) j = (c * cf x j) % p := by
  have := cf_mono_mul (p := p) 0 c x j
  rw [Int.sub_zero] at this
  exact this
theorem mono_mul (k j a b : Int) : mono p k a * mono p j b = mono p (k + j) (a * b) := lp_eq.mpr fun x => rfl
theorem mono_one : mono p 0 1 = 1 := rfl
theorem mono_mod (k c : Int) : mono p k (c % p) = mono p k c := cf_ext fun j => by
  rw [cf_mono, cf_mono, Int.emod_emod_of_dvd _ (Int.dvd_refl p)]
noncomputable def can (x : LP p) : Tm := canon p (Classical.choose (lp_surj x))
theorem can_lp (hp : 0 < p) (a : Tm) : can (lp p a) = canon p a := by
  unfold can
  exact canon_ext hp (lp_eq.mp (Classical.choose_spec (lp_surj (lp p a))))
theorem lp_canon (hp : 0 < p) (a : Tm) : lp p (canon p a) = lp p a := lp_eq.mpr fun x => by rw [csum_canon hp, Int.emod_emod_of_dvd _ (Int.dvd_refl p)]
theorem lp_can (hp : 0 < p) (x : LP p) : lp p (can x) = x := by
  obtain ⟨a, rfl⟩ := lp_surj x
  rw [can_lp hp, lp_canon hp]
theorem can_inj (hp : 0 < p) {x y : LP p} (h : can x = can y) : x = y := by rw [← lp_can hp x, h, lp_can hp]
theorem can_sorted (x : LP p) : ((can x).map (·.1)).Pairwise (· < ·) := canon_sorted p _
theorem can_mem (hp : 0 < p) (x : LP p) (k v : Int) : (k, v) ∈ can x ↔ v = cf x k ∧ 0 < v := by
  obtain ⟨a, rfl⟩ := lp_surj x
  rw [can_lp hp, canon_mem hp, cf_lp]
theorem can_small (hp : 0 < p) (x : LP p) : ∀ t ∈ can x, 0 < t.2 ∧ t.2 < p := canon_small hp _
theorem csum_can (hp : 0 < p) (x : LP p) (k : Int) : csum (can x) k = cf x k := by
  obtain ⟨a, rfl⟩ := lp_surj x
  rw [can_lp hp, csum_canon hp, cf_lp]
theorem can_zero (hp : 0 < p) : can (0 : LP p) = [] := by rw [lp_zero, can_lp hp]; simp [canon, hsum, srt]
theorem can_nil (hp : 0 < p) {x : LP p} : can x = [] ↔ x = 0 := ⟨fun h => can_inj hp (h.trans (can_zero hp).symm), fun h => by rw [h, can_zero hp]⟩
theorem cf_range (hp : 0 < p) (x : LP p) (k : Int) : 0 ≤ cf x k ∧ cf x k < p := by
  rw [← cf_mod]
  exact ⟨Int.emod_nonneg _ (by omega), Int.emod_lt_of_pos _ hp⟩
noncomputable def nt (x : LP p) : Nat := (can x).length
def Bd (x : LP p) (lo hi : Int) : Prop := ∀ k, cf x k ≠ 0 → lo ≤ k ∧ k ≤ hi
theorem Bd.mono {x : LP p} {lo hi lo' hi' : Int} (h : Bd x lo hi) (h1 : lo' ≤ lo) (h2 : hi ≤ hi') : Bd x lo' hi' := fun k hk => by have := h k hk; omega
theorem Bd.mem (hp : 0 < p) {x : LP p} {lo hi : Int} (h : Bd x lo hi) : ∀ t ∈ can x, lo ≤ t.1 ∧ t.1 ≤ hi := fun t ht => by
  obtain ⟨h1, h2⟩ := (can_mem hp x t.1 t.2).mp ht
  exact h t.1 (by omega)
theorem Bd.of (hp : 0 < p) {x : LP p} {lo hi : Int} (h : ∀ t ∈ can x, lo ≤ t.1 ∧ t.1 ≤ hi) : Bd x lo hi := fun k hk => by
  have r := cf_range hp x k
  exact h (k, cf x k) ((can_mem hp x k _).mpr ⟨rfl, by omega⟩)
theorem Bd.zero (lo hi : Int) : Bd (0 : LP p) lo hi := fun k hk => absurd (cf_zero k) hk
theorem Bd.add {x y : LP p} {lo hi : Int} (h : Bd x lo hi) (h' : Bd y lo hi) : Bd (x + y) lo hi := fun k hk => by
  by_cases e : cf x k = 0
  · by_cases e' : cf y k = 0
    · rw [cf_add, e, e'] at hk; exact absurd (Int.zero_emod p) hk
    · exact h' k e'
  · exact h k e
theorem Bd.neg {x : LP p} {lo hi : Int} (h : Bd x lo hi) : Bd (-x) lo hi := fun k hk => by
  by_cases e : cf x k = 0
  · rw [cf_neg, e] at hk; exact absurd (by simp) hk
  · exact h k e
theorem Bd.sub {x y : LP p} {lo hi : Int} (h : Bd x lo hi) (h' : Bd y lo hi) : Bd (x - y) lo hi := Bd.add h h'.neg
theorem Bd.mono_mul {x : LP p} {lo hi : Int} (h : Bd x lo hi) (k c : Int) : Bd (My.mono p k c * x) (lo + k) (hi + k) := fun j hj => by
  rw [cf_mono_mul] at hj
  by_cases e : cf x (j - k) = 0
  · rw [e] at hj; exact absurd (by simp) hj
  · have := h _ e; omega
theorem lp_cons (t : Int × Int) (a : Tm) : lp p (t :: a) = My.mono p t.1 t.2 + lp p a := rfl
theorem Bd.mul (hp : 0 < p) {x y : LP p} {lo hi lo' hi' : Int} (h : Bd x lo hi) (h' : Bd y lo' hi') : Bd (x * y) (lo + lo') (hi + hi') := by
  have go : ∀ a : Tm, (∀ t ∈ a, lo ≤ t.1 ∧ t.1 ≤ hi) → Bd (lp p a * y) (lo + lo') (hi + hi') := by
    intro a
    induction a with
    | nil => intro _; rw [← lp_zero]; rw [show (0 : LP p) * y = 0 by grind]; exact Bd.zero _ _
    | cons t a ih =>
      intro ha
      have ht := ha t (List.mem_cons_self ..)
      rw [lp_cons, show (My.mono p t.1 t.2 + lp p a) * y = My.mono p t.1 t.2 * y + lp p a * y by grind]
      exact Bd.add ((h'.mono_mul t.1 t.2).mono (by omega) (by omega)) (ih fun u hu => ha u (List.mem_cons_of_mem _ hu))
  have := go (can x) (h.mem hp)
  rwa [lp_can hp] at this
theorem Bd.lp {a : Tm} {lo hi : Int} (h : ∀ t ∈ a, lo ≤ t.1 ∧ t.1 ≤ hi) : Bd (lp p a) lo hi := fun k hk => by
  rw [cf_lp] at hk
  by_cases e : k ∈ a.map (·.1)
  · obtain ⟨t, ht, rfl⟩ := List.mem_map.mp e
    exact h t ht
  · exfalso
    refine hk ?_
    have : csum a k = 0 := by
      clear hk h
      induction a with
      | nil => rfl
      | cons t a ih =>
        rw [List.map_cons, List.mem_cons] at e
        rw [csum_cons, if_neg (fun z => e (.inl z.symm)), ih fun z => e (.inr z)]; rfl
    rw [this]; exact Int.zero_emod p
theorem sorted_length : ∀ {L : List Int} {lo hi : Int}, L.Pairwise (· < ·) → (∀ k ∈ L, lo ≤ k ∧ k ≤ hi) → (L.length : Int) ≤ max 0 (hi - lo + 1)
  | [], lo, hi, _, _ => by simp; omega
  | a :: L, lo, hi, s, h => by
    rw [List.pairwise_cons] at s
    have ha := h a (List.mem_cons_self ..)
    have := sorted_length (L := L) (lo := a + 1) (hi := hi) s.2 fun k hk => ⟨by have := s.1 k hk; omega, (h k (List.mem_cons_of_mem _ hk)).2⟩
    rw [List.length_cons]
    push_cast
    omega
theorem Bd.nt (hp : 0 < p) {x : LP p} {lo hi : Int} (h : Bd x lo hi) : (My.nt x : Int) ≤ max 0 (hi - lo + 1) := by
  have := sorted_length (can_sorted x) (lo := lo) (hi := hi) fun k hk => by
    obtain ⟨t, ht, rfl⟩ := List.mem_map.mp hk
    exact h.mem hp t ht
  rw [List.length_map] at this
  exact this
def Hi (x : LP p) (h : Int) : Prop := cf x h ≠ 0 ∧ ∀ k, h < k → cf x k = 0
def Lo (x : LP p) (l : Int) : Prop := cf x l ≠ 0 ∧ ∀ k, k < l → cf x k = 0
theorem Hi.uniq {x : LP p} {h h' : Int} (a : Hi x h) (b : Hi x h') : h = h' := by
  rcases Int.lt_trichotomy h h' with z | z | z
  · exact absurd (a.2 _ z) b.1
  · exact z
  · exact absurd (b.2 _ z) a.1
theorem Lo.uniq {x : LP p} {h h' : Int} (a : Lo x h) (b : Lo x h') : h = h' := by
  rcases Int.lt_trichotomy h h' with z | z | z
  · exact absurd (b.2 _ z) a.1
  · exact z
  · exact absurd (a.2 _ z) b.1
theorem Hi.ne {x : LP p} {h : Int} (a : Hi x h) : x ≠ 0 := fun z => a.1 (by rw [z, cf_zero])
theorem Lo.ne {x : LP p} {h : Int} (a : Lo x h) : x ≠ 0 := fun z => a.1 (by rw [z, cf_zero])
theorem Bd.of_hl {x : LP p} {h l : Int} (a : Hi x h) (b : Lo x l) : Bd x l h := fun k hk => by
  refine ⟨?_, ?_⟩
  · exact Int.not_lt.mp fun z => hk (b.2 k z)
  · exact Int.not_lt.mp fun z => hk (a.2 k z)
theorem sorted_last : ∀ {a : Tm} {t : Int × Int}, (a.map (·.1)).Pairwise (· < ·) → a.getLast? = some t → ∀ u ∈ a, u.1 ≤ t.1
  | a, t, s, h, u, hu => by
    obtain ⟨b, rfl⟩ := List.getLast?_eq_some_iff.mp h
    rw [List.map_append, List.pairwise_append] at s
    rcases List.mem_append.mp hu with z | z
    · exact Int.le_of_lt (s.2.2 u.1 (List.mem_map.mpr ⟨u, z, rfl⟩) t.1 (by simp))
    · rw [List.mem_singleton.mp z]; exact Int.le_refl _
theorem sorted_head {a : Tm} {t : Int × Int} (s : (a.map (·.1)).Pairwise (· < ·)) (h : a.head? = some t) : ∀ u ∈ a, t.1 ≤ u.1 := by
  intro u hu
  cases a with
  | nil => cases h
  | cons b a =>
    cases h
    rw [List.map_cons, List.pairwise_cons] at s
    rcases List.mem_cons.mp hu with z | z
    · rw [z]; exact Int.le_refl _
    · exact Int.le_of_lt (s.1 u.1 (List.mem_map.mpr ⟨u, z, rfl⟩))
theorem hi_of (hp : 0 < p) {x : LP p} {t : Int × Int} (h : (can x).getLast? = some t) : Hi x t.1 ∧ cf x t.1 = t.2 := by
  have hm : t ∈ can x := List.mem_of_getLast? h
  obtain ⟨h1, h2⟩ := (can_mem hp x t.1 t.2).mp hm
  refine ⟨⟨by omega, fun k hk => ?_⟩, h1.symm⟩
  have r := cf_range hp x k
  by_cases e : 0 < cf x k
  · have := sorted_last (can_sorted x) h (k, cf x k) ((can_mem hp x k _).mpr ⟨rfl, e⟩)
    dsimp only at this
    omega
  · omega
theorem lo_of (hp : 0 < p) {x : LP p} {t : Int × Int} (h : (can x).head? = some t) : Lo x t.1 ∧ cf x t.1 = t.2 := by
  have hm : t ∈ can x := List.mem_of_head? h
  obtain ⟨h1, h2⟩ := (can_mem hp x t.1 t.2).mp hm
  refine ⟨⟨by omega, fun k hk => ?_⟩, h1.symm⟩
  have r := cf_range hp x k
  by_cases e : 0 < cf x k
  · have := sorted_head (can_sorted x) h (k, cf x k) ((can_mem hp x k _).mpr ⟨rfl, e⟩)
    dsimp only at this
    omega
  · omega
theorem exists_hi (hp : 0 < p) {x : LP p} (h : x ≠ 0) : ∃ k, Hi x k := by
  cases e : (can x).getLast? with
  | none => exact absurd ((can_nil hp).mp (List.getLast?_eq_none_iff.mp e)) h
  | some t => exact ⟨t.1, (hi_of hp e).1⟩
theorem lo_le_hi {x : LP p} {l h : Int} (a : Lo x l) (b : Hi x h) : l ≤ h := Int.not_lt.mp fun z => a.1 (b.2 l z)
theorem dig_mul {a b : Int} (hp : isPr p = true) (ha : a % p ≠ 0) (hb : b % p ≠ 0) : (a * b) % p ≠ 0 := by
  have h1 := Int.emod_nonneg a (show p ≠ 0 by have := isPr_pos hp; omega)
  have h2 := Int.emod_lt_of_pos a (isPr_pos hp).1
  have h3 := Int.emod_nonneg b (show p ≠ 0 by have := isPr_pos hp; omega)
  have h4 := Int.emod_lt_of_pos b (isPr_pos hp).1
  rw [Int.mul_emod]
  generalize a % p = a at *
  generalize b % p = b at *
  rcases isPr_cases hp with rfl | rfl | rfl | rfl
  · have : a = 1 := by omega
    have : b = 1 := by omega
    subst a b; decide
  · have : a = 1 ∨ a = 2 := by omega
    have : b = 1 ∨ b = 2 := by omega
    rcases ‹a = 1 ∨ a = 2› with rfl | rfl <;> rcases ‹b = 1 ∨ b = 2› with rfl | rfl <;> decide
  · have : a = 1 ∨ a = 2 ∨ a = 3 ∨ a = 4 := by omega
    have : b = 1 ∨ b = 2 ∨ b = 3 ∨ b = 4 := by omega
    rcases ‹a = 1 ∨ _› with rfl | rfl | rfl | rfl <;> rcases ‹b = 1 ∨ _› with rfl | rfl | rfl | rfl <;> decide
  · have : a = 1 ∨ a = 2 ∨ a = 3 ∨ a = 4 ∨ a = 5 ∨ a = 6 := by omega
    have : b = 1 ∨ b = 2 ∨ b = 3 ∨ b = 4 ∨ b = 5 ∨ b = 6 := by omega
    rcases ‹a = 1 ∨ _› with rfl | rfl | rfl | rfl | rfl | rfl <;> rcases ‹b = 1 ∨ _› with rfl | rfl | rfl | rfl | rfl | rfl <;> decide
def invD (p a : Int) : Int := if p = 2 then 1 else if p = 3 then a else if p = 5 then (a * a * a) % 5 else (a * a * a * a * a) % 7
theorem invD_mul {a : Int} (hp : isPr p = true) (h0 : 0 < a) (h1 : a < p) : (invD p a * a) % p = 1 ∧ 1 ≤ invD p a ∧ invD p a < p := by
  unfold invD
  rcases isPr_cases hp with rfl | rfl | rfl | rfl
  · have : a = 1 := by omega
    subst a; decide
  · have : a = 1 ∨ a = 2 := by omega
    rcases this with rfl | rfl <;> decide
  · have : a = 1 ∨ a = 2 ∨ a = 3 ∨ a = 4 := by omega
    rcases this with rfl | rfl | rfl | rfl <;> decide
  · have : a = 1 ∨ a = 2 ∨ a = 3 ∨ a = 4 ∨ a = 5 ∨ a = 6 := by omega
    rcases this with rfl | rfl | rfl | rfl | rfl | rfl <;> decide
theorem cf_mul_top (hp : 0 < p) {x y : LP p} {h h' : Int} (a : ∀ k, h < k → cf x k = 0) (b : ∀ k, h' < k → cf y k = 0) : cf (x * y) (h + h') = (cf x h * cf y h') % p ∧ ∀ k, h + h' < k → cf (x * y) k = 0 := by
  have key : ∀ (l : Tm), (∀ t ∈ l, t.1 ≤ h) → (cf (lp p l * y) (h + h') = (csum l h * cf y h') % p) ∧ ∀ k, h + h' < k → cf (lp p l * y) k = 0 := by
    intro l
    induction l with
    | nil =>
      intro _
      rw [← lp_zero, show (0 : LP p) * y = 0 by grind, csum_nil]
      exact ⟨by rw [cf_zero]; simp, fun k _ => cf_zero k⟩
    | cons t l ih =>
      intro hl
      obtain ⟨i1, i2⟩ := ih fun u hu => hl u (List.mem_cons_of_mem _ hu)
      have ht := hl t (List.mem_cons_self ..)
      rw [lp_cons, show (mono p t.1 t.2 + lp p l) * y = mono p t.1 t.2 * y + lp p l * y by grind]
      refine ⟨?_, fun k hk => ?_⟩
      · rw [cf_add, i1, cf_mono_mul, csum_cons]
        by_cases e : t.1 = h
        · rw [if_pos e, e, show h + h' - h = h' by omega, ← Int.add_emod, Int.add_mul]
        · rw [if_neg e, b (h + h' - t.1) (by omega)]
          simp
      · rw [cf_add, i2 k hk, cf_mono_mul, b (k - t.1) (by omega)]
        simp
  have r := key (can x) fun t ht => by
    obtain ⟨h1, h2⟩ := (can_mem hp x t.1 t.2).mp ht
    exact Int.not_lt.mp fun z => by have := a t.1 z; omega
  rw [lp_can hp, csum_can hp] at r
  exact r
theorem cf_mul_bot (hp : 0 < p) {x y : LP p} {h h' : Int} (a : ∀ k, k < h → cf x k = 0) (b : ∀ k, k < h' → cf y k = 0) : cf (x * y) (h + h') = (cf x h * cf y h') % p ∧ ∀ k, k < h + h' → cf (x * y) k = 0 := by
  have key : ∀ (l : Tm), (∀ t ∈ l, h ≤ t.1) → (cf (lp p l * y) (h + h') = (csum l h * cf y h') % p) ∧ ∀ k, k < h + h' → cf (lp p l * y) k = 0 := by
    intro l
    induction l with
    | nil =>
      intro _
      rw [← lp_zero, show (0 : LP p) * y = 0 by grind, csum_nil]
      exact ⟨by rw [cf_zero]; simp, fun k _ => cf_zero k⟩
    | cons t l ih =>
      intro hl
      obtain ⟨i1, i2⟩ := ih fun u hu => hl u (List.mem_cons_of_mem _ hu)
      have ht := hl t (List.mem_cons_self ..)
      rw [lp_cons, show (mono p t.1 t.2 + lp p l) * y = mono p t.1 t.2 * y + lp p l * y by grind]
      refine ⟨?_, fun k hk => ?_⟩
      · rw [cf_add, i1, cf_mono_mul, csum_cons]
        by_cases e : t.1 = h
        · rw [if_pos e, e, show h + h' - h = h' by omega, ← Int.add_emod, Int.add_mul]
        · rw [if_neg e, b (h + h' - t.1) (by omega)]
          simp
      · rw [cf_add, i2 k hk, cf_mono_mul, b (k - t.1) (by omega)]
        simp
  have r := key (can x) fun t ht => by
    obtain ⟨h1, h2⟩ := (can_mem hp x t.1 t.2).mp ht
    exact Int.not_lt.mp fun z => by have := a t.1 z; omega
  rw [lp_can hp, csum_can hp] at r
  exact r
theorem Hi.mul (hp : isPr p = true) {x y : LP p} {h h' : Int} (a : Hi x h) (b : Hi y h') : Hi (x * y) (h + h') := by
  obtain ⟨c, d⟩ := cf_mul_top (isPr_pos hp).1 a.2 b.2
  exact ⟨by rw [c]; exact dig_mul hp (by rw [cf_mod]; exact a.1) (by rw [cf_mod]; exact b.1), d⟩
theorem Lo.mul (hp : isPr p = true) {x y : LP p} {h h' : Int} (a : Lo x h) (b : Lo y h') : Lo (x * y) (h + h') := by
  obtain ⟨c, d⟩ := cf_mul_bot (isPr_pos hp).1 a.2 b.2
  exact ⟨by rw [c]; exact dig_mul hp (by rw [cf_mod]; exact a.1) (by rw [cf_mod]; exact b.1), d⟩
theorem mul_ne (hp : isPr p = true) {x y : LP p} (h : x ≠ 0) (h' : y ≠ 0) : x * y ≠ 0 := by
  obtain ⟨a, ha⟩ := exists_hi (isPr_pos hp).1 h
  obtain ⟨b, hb⟩ := exists_hi (isPr_pos hp).1 h'
  exact (ha.mul hp hb).ne
theorem mul_zero_or (hp : isPr p = true) {x y : LP p} (h : x * y = 0) : x = 0 ∨ y = 0 := by
  by_cases e : x = 0
  · exact .inl e
  · by_cases e' : y = 0
    · exact .inr e'
    · exact absurd h (mul_ne hp e e')
theorem mul_cancel (hp : isPr p = true) {x y z : LP p} (hz : z ≠ 0) (h : x * z = y * z) : x = y := by
  have : (x - y) * z = 0 := by grind
  rcases mul_zero_or hp this with e | e
  · grind
  · exact absurd e hz
end
end My

namespace My
section
variable {p : Int}
noncomputable def lo (x : LP p) : Int := ((can x).head?.map (·.1)).getD 0
noncomputable def hi (x : LP p) : Int := ((can x).getLast?.map (·.1)).getD 0
noncomputable def sp (x : LP p) : Int := hi x - lo x
theorem lo_ok (hp : 0 < p) {x : LP p} (h : x ≠ 0) : Lo x (lo x) := by
  unfold lo
  cases e : (can x).head? with
  | none => exact absurd ((can_nil hp).mp (List.head?_eq_none_iff.mp e)) h
  | some t => exact (lo_of hp e).1
theorem hi_ok (hp : 0 < p) {x : LP p} (h : x ≠ 0) : Hi x (hi x) := by
  unfold hi
  cases e : (can x).getLast? with
  | none => exact absurd ((can_nil hp).mp (List.getLast?_eq_none_iff.mp e)) h
  | some t => exact (hi_of hp e).1
theorem sp_nonneg (hp : 0 < p) {x : LP p} (h : x ≠ 0) : 0 ≤ sp x := by
  have := lo_le_hi (lo_ok hp h) (hi_ok hp h)
  unfold sp; omega
theorem Lo.lo (hp : 0 < p) {x : LP p} {l : Int} (h : Lo x l) : My.lo x = l := (lo_ok hp h.ne).uniq h
theorem Hi.hi (hp : 0 < p) {x : LP p} {l : Int} (h : Hi x l) : My.hi x = l := (hi_ok hp h.ne).uniq h
theorem bd_hl (hp : 0 < p) {x : LP p} (h : x ≠ 0) : Bd x (lo x) (hi x) := .of_hl (hi_ok hp h) (lo_ok hp h)
theorem Bd.lo (hp : 0 < p) {x : LP p} {l h : Int} (b : Bd x l h) (hx : x ≠ 0) : l ≤ My.lo x ∧ My.lo x ≤ h := b _ (lo_ok hp hx).1
theorem Bd.hi (hp : 0 < p) {x : LP p} {l h : Int} (b : Bd x l h) (hx : x ≠ 0) : l ≤ My.hi x ∧ My.hi x ≤ h := b _ (hi_ok hp hx).1
theorem lo_mul (hp : isPr p = true) {x y : LP p} (hx : x ≠ 0) (hy : y ≠ 0) : lo (x * y) = lo x + lo y := ((lo_ok (isPr_pos hp).1 hx).mul hp (lo_ok (isPr_pos hp).1 hy)).lo (isPr_pos hp).1
theorem hi_mul (hp : isPr p = true) {x y : LP p} (hx : x ≠ 0) (hy : y ≠ 0) : hi (x * y) = hi x + hi y := ((hi_ok (isPr_pos hp).1 hx).mul hp (hi_ok (isPr_pos hp).1 hy)).hi (isPr_pos hp).1
theorem one_mod (hp : isPr p = true) : (1 : Int) % p = 1 := by rcases isPr_cases hp with rfl | rfl | rfl | rfl <;> decide
theorem mono_lo (k : Int) {c : Int} (h : c % p ≠ 0) : Lo (mono p k c) k := ⟨by rw [cf_mono, if_pos rfl]; exact h, fun j hj => by rw [cf_mono, if_neg (by omega)]⟩
theorem mono_hi (k : Int) {c : Int} (h : c % p ≠ 0) : Hi (mono p k c) k := ⟨by rw [cf_mono, if_pos rfl]; exact h, fun j hj => by rw [cf_mono, if_neg (by omega)]⟩
theorem one_ne (hp : isPr p = true) : (1 : LP p) ≠ 0 := (mono_lo (p := p) 0 (c := 1) (by rw [one_mod hp]; decide)).ne
def Dv (x y : LP p) : Prop := ∃ q, y = q * x
theorem Dv.refl (x : LP p) : Dv x x := ⟨1, by grind⟩
theorem Dv.trans {x y z : LP p} (h : Dv x y) (h' : Dv y z) : Dv x z := by
  obtain ⟨a, rfl⟩ := h
  obtain ⟨b, rfl⟩ := h'
  exact ⟨b * a, by grind⟩
theorem Dv.zero (x : LP p) : Dv x 0 := ⟨0, by grind⟩
theorem Dv.add {x y z : LP p} (h : Dv x y) (h' : Dv x z) : Dv x (y + z) := by
  obtain ⟨a, rfl⟩ := h
  obtain ⟨b, rfl⟩ := h'
  exact ⟨a + b, by grind⟩
theorem Dv.neg {x y : LP p} (h : Dv x y) : Dv x (-y) := by
  obtain ⟨a, rfl⟩ := h
  exact ⟨-a, by grind⟩
theorem Dv.sub {x y z : LP p} (h : Dv x y) (h' : Dv x z) : Dv x (y - z) := by
  obtain ⟨a, rfl⟩ := h
  obtain ⟨b, rfl⟩ := h'
  exact ⟨a - b, by grind⟩
theorem Dv.mul {x y : LP p} (h : Dv x y) (z : LP p) : Dv x (z * y) := by
  obtain ⟨a, rfl⟩ := h
  exact ⟨z * a, by grind⟩
theorem Dv.mulr {x y : LP p} (h : Dv x y) (z : LP p) : Dv (x * z) (y * z) := by
  obtain ⟨a, rfl⟩ := h
  exact ⟨a, by grind⟩
theorem dv_zero {x : LP p} (h : Dv 0 x) : x = 0 := by obtain ⟨a, rfl⟩ := h; grind
theorem unit_mono {u : LP p} {a : Int} (h : Hi u a) (l : Lo u a) : u = mono p a (cf u a) := cf_ext fun j => by
  rw [cf_mono]
  split
  · rename_i e; subst e; rw [cf_mod]
  · rename_i e
    rcases Int.lt_or_gt_of_ne (fun z => e z.symm) with z | z
    · exact l.2 j z
    · exact h.2 j z
theorem unit_of (hp : isPr p = true) {u v : LP p} (h : u * v = 1) : ∃ a c, u = mono p a c ∧ 0 < c ∧ c < p := by
  have h0 := (isPr_pos hp).1
  have hu : u ≠ 0 := fun z => one_ne hp (by rw [← h, z]; grind)
  have hv : v ≠ 0 := fun z => one_ne hp (by rw [← h, z]; grind)
  have h1 := lo_mul hp hu hv
  have h2 := hi_mul hp hu hv
  have l1 : lo (1 : LP p) = 0 := (mono_lo (p := p) 0 (c := 1) (by rw [one_mod hp]; decide)).lo h0
  have l2 : hi (1 : LP p) = 0 := (mono_hi (p := p) 0 (c := 1) (by rw [one_mod hp]; decide)).hi h0
  rw [h] at h1 h2
  have s1 := lo_le_hi (lo_ok h0 hu) (hi_ok h0 hu)
  have s2 := lo_le_hi (lo_ok h0 hv) (hi_ok h0 hv)
  have e : lo u = hi u := by omega
  have hl := lo_ok h0 hu
  rw [e] at hl
  refine ⟨hi u, cf u (hi u), unit_mono (hi_ok h0 hu) hl, ?_, (cf_range h0 u _).2⟩
  have := (cf_range h0 u (hi u)).1
  have := hl.1
  omega
theorem mono_unit (hp : isPr p = true) {a c : Int} (h0 : 0 < c) (h1 : c < p) : mono p (-a) (invD p c) * mono p a c = 1 := by
  rw [mono_mul, ← mono_mod, (invD_mul hp h0 h1).1, show -a + a = 0 by omega]
  rfl
def Nrm (x : LP p) : Prop := x = 0 ∨ (Lo x 0 ∧ cf x (hi x) = 1)
noncomputable def nrm (x : LP p) : LP p := mono p (-lo x) (invD p (cf x (hi x))) * x
theorem cf_hi (hp : 0 < p) {x : LP p} (h : x ≠ 0) : 0 < cf x (hi x) ∧ cf x (hi x) < p := by
  have := (hi_ok hp h).1
  have := cf_range hp x (hi x)
  omega
theorem nrm_zero : nrm (0 : LP p) = 0 := by unfold nrm; grind
theorem inv_ne (hp : isPr p = true) {c : Int} (h0 : 0 < c) (h1 : c < p) : invD p c % p ≠ 0 := by
  obtain ⟨a, b, d⟩ := invD_mul hp h0 h1
  rw [Int.emod_eq_of_lt (by omega) d]
  omega
theorem nrm_unit (hp : isPr p = true) {x : LP p} (h : x ≠ 0) : ∃ u v : LP p, u * v = 1 ∧ nrm x = u * x ∧ x = v * nrm x := by
  have h0 := (isPr_pos hp).1
  obtain ⟨c0, c1⟩ := cf_hi h0 h
  have := mono_unit hp (a := lo x) c0 c1
  refine ⟨mono p (-lo x) (invD p (cf x (hi x))), mono p (lo x) (cf x (hi x)), this, rfl, ?_⟩
  unfold nrm
  grind
theorem nrm_hl (hp : isPr p = true) {x : LP p} (h : x ≠ 0) : Lo (nrm x) 0 ∧ Hi (nrm x) (sp x) ∧ cf (nrm x) (sp x) = 1 := by
  have h0 := (isPr_pos hp).1
  obtain ⟨c0, c1⟩ := cf_hi h0 h
  have hi' := inv_ne hp c0 c1
  have a := (mono_lo (-lo x) hi').mul hp (lo_ok h0 h)
  have b := (mono_hi (-lo x) hi').mul hp (hi_ok h0 h)
  rw [show -lo x + lo x = 0 by omega] at a
  rw [show -lo x + hi x = sp x by unfold sp; omega] at b
  refine ⟨a, b, ?_⟩
  unfold nrm
  rw [cf_mono_mul, show sp x - -lo x = hi x by unfold sp; omega]
  exact (invD_mul hp c0 c1).1
theorem nrm_nrm (hp : isPr p = true) (x : LP p) : Nrm (nrm x) := by
  by_cases h : x = 0
  · rw [h, nrm_zero]; exact .inl rfl
  · obtain ⟨a, b, c⟩ := nrm_hl hp h
    exact .inr ⟨a, by rw [b.hi (isPr_pos hp).1]; exact c⟩
theorem sp_nrm (hp : isPr p = true) {x : LP p} (h : x ≠ 0) : sp (nrm x) = sp x := by
  obtain ⟨a, b, c⟩ := nrm_hl hp h
  unfold sp
  rw [a.lo (isPr_pos hp).1, b.hi (isPr_pos hp).1]
  unfold sp
  omega
theorem dv_nrm (hp : isPr p = true) (x : LP p) : Dv x (nrm x) := ⟨_, rfl⟩
theorem nrm_dv (hp : isPr p = true) (x : LP p) : Dv (nrm x) x := by
  by_cases h : x = 0
  · rw [h]; exact .zero _
  · obtain ⟨u, v, e, e1, e2⟩ := nrm_unit hp h
    exact ⟨v, e2⟩
theorem nrm_uniq (hp : isPr p = true) {x y : LP p} (hx : Nrm x) (hy : Nrm y) (h : Dv x y) (h' : Dv y x) : x = y := by
  have h0 := (isPr_pos hp).1
  by_cases e : x = 0
  · rw [e] at h ⊢; exact (dv_zero h).symm
  · have ey : y ≠ 0 := fun z => e (dv_zero (z ▸ h'))
    obtain ⟨u, eu⟩ := h
    obtain ⟨v, ev⟩ := h'
    have huv : u * v = 1 := mul_cancel hp e (by grind)
    obtain ⟨a, c, rfl, c0, c1⟩ := unit_of hp huv
    rcases hx with hx | ⟨lx, cx⟩
    · exact absurd hx e
    rcases hy with hy | ⟨ly, cy⟩
    · exact absurd hy ey
    have hc : c % p ≠ 0 := by rw [Int.emod_eq_of_lt (by omega) c1]; omega
    have l2 := (mono_lo a hc).mul hp lx
    have h2 := (mono_hi a hc).mul hp (hi_ok h0 e)
    rw [← eu] at l2 h2
    have ea : a = 0 := by have := l2.uniq ly; omega
    subst ea
    have e1 := h2.hi h0
    rw [e1, eu, cf_mono_mul, show 0 + hi x - 0 = hi x by omega, cx, Int.mul_one, Int.emod_eq_of_lt (by omega) c1] at cy
    rw [eu, cy, mono_one]
    grind
theorem Nrm.mul (hp : isPr p = true) {x y : LP p} (hx : Nrm x) (hy : Nrm y) : Nrm (x * y) := by
  have h0 := (isPr_pos hp).1
  by_cases ex : x = 0
  · rw [ex]; exact .inl (by grind)
  by_cases ey : y = 0
  · rw [ey]; exact .inl (by grind)
  rcases hx with hx | ⟨lx, cx⟩
  · exact absurd hx ex
  rcases hy with hy | ⟨ly, cy⟩
  · exact absurd hy ey
  refine .inr ⟨lx.mul hp ly, ?_⟩
  rw [hi_mul hp ex ey, (cf_mul_top h0 (hi_ok h0 ex).2 (hi_ok h0 ey).2).1, cx, cy, Int.mul_one]
  exact one_mod hp
def IsMod (f g r : LP p) : Prop := (∃ q, f = q * g + r) ∧ Bd r 0 (sp g - 1)
theorem IsMod.dv {f g r : LP p} (h : IsMod f g r) : Dv g (f - r) := by obtain ⟨⟨q, e⟩, _⟩ := h; exact ⟨q, by grind⟩
theorem IsMod.nrm (hp : isPr p = true) {f g r : LP p} (hg : g ≠ 0) (h : IsMod f (nrm g) r) : IsMod f g r := by
  obtain ⟨⟨q, e⟩, b⟩ := h
  obtain ⟨u, eu⟩ := dv_nrm hp g
  exact ⟨⟨q * u, by rw [e, eu]; grind⟩, by rw [← sp_nrm hp hg]; exact b⟩
def IsGcd (d f g : LP p) : Prop := Nrm d ∧ Dv d f ∧ Dv d g ∧ ∃ u v, d = u * f + v * g
theorem IsGcd.uniq (hp : isPr p = true) {d e f g : LP p} (h : IsGcd d f g) (h' : IsGcd e f g) : d = e := by
  obtain ⟨n, a, b, u, v, ed⟩ := h
  obtain ⟨n', a', b', u', v', ee⟩ := h'
  refine nrm_uniq hp n n' ?_ ?_
  · rw [ee]; exact (a.mul _).add (b.mul _)
  · rw [ed]; exact (a'.mul _).add (b'.mul _)
theorem IsGcd.of (hp : isPr p = true) {d f g : LP p} (h : IsGcd d f g) {f' g' : LP p} (h1 : Dv d f') (h2 : Dv d g') (h3 : ∃ a b, f = a * f' + b * g') (h4 : ∃ a b, g = a * f' + b * g') : IsGcd d f' g' := by
  obtain ⟨n, a, b, u, v, ed⟩ := h
  obtain ⟨c1, c2, e1⟩ := h3
  obtain ⟨c3, c4, e2⟩ := h4
  exact ⟨n, h1, h2, u * c1 + v * c3, u * c2 + v * c4, by rw [ed, e1, e2]; grind⟩
theorem IsGcd.zero (hp : isPr p = true) (f : LP p) : IsGcd (nrm f) f 0 := by
  obtain ⟨u, e⟩ := dv_nrm hp f
  exact ⟨nrm_nrm hp f, nrm_dv hp f, .zero _, u, 0, by rw [e]; grind⟩
theorem IsGcd.ne (hp : isPr p = true) {d f g : LP p} (h : IsGcd d f g) (hf : f ≠ 0 ∨ g ≠ 0) : d ≠ 0 := fun z => by
  obtain ⟨_, a, b, _⟩ := h
  rw [z] at a b
  rcases hf with hf | hf
  · exact hf (dv_zero a)
  · exact hf (dv_zero b)
theorem IsGcd.mulr (hp : isPr p = true) {d f g : LP p} (h : IsGcd d f g) (k : LP p) : IsGcd (nrm (d * k)) (f * k) (g * k) := by
  obtain ⟨n, a, b, u, v, ed⟩ := h
  obtain ⟨w, ew⟩ := dv_nrm hp (d * k)
  refine ⟨nrm_nrm hp _, (nrm_dv hp _).trans (a.mulr k), (nrm_dv hp _).trans (b.mulr k), w * u, w * v, ?_⟩
  rw [ew, ed]
  grind
end
end My

namespace My
variable {p : Int}
def ac (x : LP p) (s : Int → Int) (k : Int) : Int := Quotient.liftOn x (fun a => wsum a (fun t => s (k + t)) % p) fun a b h => wsum_congr h _
theorem ac_lp (a : Tm) (s : Int → Int) (k : Int) : ac (lp p a) s k = wsum a (fun t => s (k + t)) % p := rfl
theorem ac_mod (x : LP p) (s : Int → Int) (k : Int) : ac x s k % p = ac x s k := by
  obtain ⟨a, rfl⟩ := lp_surj x
  rw [ac_lp, Int.emod_emod_of_dvd _ (Int.dvd_refl p)]
theorem ac_range (hp : 0 < p) (x : LP p) (s : Int → Int) (k : Int) : 0 ≤ ac x s k ∧ ac x s k < p := by
  rw [← ac_mod]
  exact ⟨Int.emod_nonneg _ (by omega), Int.emod_lt_of_pos _ hp⟩
theorem ac_zero (s : Int → Int) (k : Int) : ac (0 : LP p) s k = 0 := by rw [lp_zero, ac_lp, wsum_nil]; exact Int.zero_emod p
theorem ac_add (x y : LP p) (s : Int → Int) (k : Int) : ac (x + y) s k = (ac x s k + ac y s k) % p := by
  obtain ⟨a, rfl⟩ := lp_surj x
  obtain ⟨b, rfl⟩ := lp_surj y
  rw [lp_add, ac_lp, ac_lp, ac_lp, wsum_append, Int.add_emod]
theorem wsum_mod {p : Int} (a : Tm) (f : Int → Int) : wsum a (fun t => f t % p) % p = wsum a f % p := wsum_congr_f a fun k => Int.emod_emod_of_dvd _ (Int.dvd_refl p)
theorem ac_mul (x y : LP p) (s : Int → Int) (k : Int) : ac (x * y) s k = ac x (ac y s) k := by
  obtain ⟨a, rfl⟩ := lp_surj x
  obtain ⟨b, rfl⟩ := lp_surj y
  rw [lp_mul, ac_lp, ac_lp, wsum_prods]
  have : (fun t => ac (lp p b) s (k + t)) = fun t => wsum b (fun u => s (k + t + u)) % p := rfl
  rw [this, wsum_mod]
  congr 2
  funext i
  congr 1
  funext j
  rw [Int.add_assoc]
theorem ac_neg (x : LP p) (s : Int → Int) (k : Int) : ac (-x) s k = (-ac x s k) % p := by
  have h := ac_add (-x) x s k
  rw [show -x + x = (0 : LP p) by grind, ac_zero] at h
  have h2 : (ac (-x) s k) % p = (ac (-x) s k + ac x s k - ac x s k) % p := by congr 1; omega
  rw [Int.sub_emod, ← h, Int.zero_sub, ac_mod, ac_mod] at h2
  exact h2
theorem ac_sub (x y : LP p) (s : Int → Int) (k : Int) : ac (x - y) s k = (ac x s k - ac y s k) % p := by
  rw [show x - y = x + -y by grind, ac_add, ac_neg, Int.add_emod, Int.emod_emod_of_dvd _ (Int.dvd_refl p), ← Int.add_emod]
  rfl
def Dg (p : Int) (s : Int → Int) : Prop := ∀ k, 0 ≤ s k ∧ s k < p
theorem Dg.mod {s : Int → Int} (h : Dg p s) (k : Int) : s k % p = s k := Int.emod_eq_of_lt (h k).1 (h k).2
theorem Dg.ac (hp : 0 < p) (x : LP p) (s : Int → Int) : Dg p (ac x s) := fun k => ac_range hp x s k
def Ru (x : LP p) (s : Int → Int) : Prop := ∀ k, ac x s k = 0
theorem Ru.mul {x : LP p} {s : Int → Int} (h : Ru x s) (y : LP p) : Ru (y * x) s := fun k => by
  rw [ac_mul]
  obtain ⟨a, rfl⟩ := lp_surj y
  rw [ac_lp]
  have : (fun t => ac x s (k + t)) = fun _ => 0 := by funext t; exact h _
  rw [this]
  unfold wsum
  rw [show (a.map fun t => t.2 * (0 : Int)) = a.map (fun _ => (0 : Int)) from List.map_congr_left fun t _ => Int.mul_zero _]
  have : (a.map fun _ => (0 : Int)).sum = 0 := by
    induction a with
    | nil => rfl
    | cons t a ih => rw [List.map_cons, List.sum_cons, ih]; rfl
  rw [this, Int.zero_emod]
theorem Ru.dv {x y : LP p} {s : Int → Int} (h : Ru x s) (d : Dv x y) : Ru y s := by
  obtain ⟨q, rfl⟩ := d
  exact h.mul q
theorem Ru.add {x y : LP p} {s : Int → Int} (h : Ru x s) (h' : Ru y s) : Ru (x + y) s := fun k => by rw [ac_add, h, h']; exact Int.zero_emod p
theorem Ru.sub {x y : LP p} {s : Int → Int} (h : Ru x s) (h' : Ru y s) : Ru (x - y) s := fun k => by rw [ac_sub, h, h']; exact Int.zero_emod p
theorem Ru.nrm (hp : isPr p = true) {x : LP p} {s : Int → Int} : Ru (nrm x) s ↔ Ru x s := ⟨fun h => h.dv (nrm_dv hp x), fun h => h.dv (dv_nrm hp x)⟩
def Dvr (g : LP p) (m : Nat) : Prop := Lo g 0 ∧ Hi g m ∧ cf g m = 1
theorem Dvr.bd {g : LP p} {m : Nat} (h : Dvr g m) : Bd g 0 m := .of_hl h.2.1 h.1
theorem Dvr.sp (hp : 0 < p) {g : LP p} {m : Nat} (h : Dvr g m) : sp g = m := by
  unfold My.sp
  rw [h.1.lo hp, h.2.1.hi hp]; omega
theorem Dvr.nrm (hp : isPr p = true) {g : LP p} (h : g ≠ 0) : Dvr (nrm g) (My.sp g).toNat := by
  obtain ⟨n1, n2, n3⟩ := nrm_hl hp h
  have := sp_nonneg (isPr_pos hp).1 h
  rw [show My.sp g = ((My.sp g).toNat : Int) by omega] at n2 n3
  exact ⟨n1, n2, n3⟩
end My

namespace My
variable {p : Int}
def hor (g : LP p) (m : Nat) : Nat → LP p
  | 0 => 0
  | j + 1 => mono p 1 1 * hor g m j + mono p 0 (cf g ((m : Int) - j))
def hs (g : LP p) (m : Nat) (s : Int → Int) : LP p := lp p ((List.range m).map fun (i : Nat) => ((i : Int), ac (hor g m (m - i)) s 0))
def sg (t : Int) (s : Int → Int) : Int → Int := fun k => s (k + t)
theorem ac_sg (x : LP p) (t : Int) (s : Int → Int) (k : Int) : ac x (sg t s) k = ac x s (k + t) := by
  obtain ⟨a, rfl⟩ := lp_surj x
  rw [ac_lp, ac_lp]
  congr 2
  funext u
  show s (k + u + t) = _
  congr 1; omega
theorem Ru.sg {x : LP p} {s : Int → Int} (h : Ru x s) (t : Int) : Ru x (sg t s) := fun k => by rw [ac_sg]; exact h _
theorem Dg.sg {s : Int → Int} (h : Dg p s) (t : Int) : Dg p (sg t s) := fun k => h _
theorem Ru.ac {x : LP p} {s : Int → Int} (h : Ru x s) (f : LP p) : Ru x (ac f s) := fun k => by
  rw [← ac_mul, show x * f = f * x by grind]
  exact h.mul f k
structure IsLr (g : LP p) (s : Int → Int) : Prop where
  ne : g ≠ 0
  nm : Nrm g
  ru : Ru g s
  le : ∀ f, Ru f s → Dv g f
theorem IsLr.uniq (hp : isPr p = true) {g g' : LP p} {s : Int → Int} (h : IsLr g s) (h' : IsLr g' s) : g = g' := nrm_uniq hp h.nm h'.nm (h.le _ h'.ru) (h'.le _ h.ru)
end My

namespace My
open PySem PySem.Spec L2 DL
def okD (d : D) : Prop := ∃ t, tyD d = some t ∧ ∀ c, t = .own c → c ∈ CS
def isInt : D → Bool
  | .int _ => true
  | _ => false
def isLst : D → Bool
  | .lst _ => true
  | .tup _ => true
  | .rol _ => true
  | _ => false
def trm (t : Int × Int) : D := .tup [.int t.1, .int t.2]
def kvp (t : Int × Int) : Key × D := (.inl t.1, .int t.2)
def flt (p : Int) (ts : Tm) : List (Str × D) := [("prime", .int p), ("kept", .lst (ts.map trm)), ("held", .dct (ts.map kvp))]
def fob (p : Int) (ts : Tm) : D := .obj "Filter" (flt p ts)
theorem find_kvp (k : Int) : ∀ m : Tm, (m.map kvp).find? (fun kv => decide (kv.1 = Sum.inl k)) = (m.find? fun t => decide (t.1 = k)).map kvp
  | [] => rfl
  | t :: m => by
    rw [List.map_cons, List.find?_cons, List.find?_cons, find_kvp k m]
    have e : decide ((kvp t).1 = (Sum.inl k : Key)) = decide (t.1 = k) := by simp [kvp]
    rw [e]
    cases decide (t.1 = k) <;> rfl
theorem get_kvp (m : Tm) (k : Int) : (DL.getD (m.map kvp) (.inl k)).getD (.int 0) = .int (getI m k) := by
  unfold DL.getD getI
  rw [find_kvp]
  cases m.find? (fun t => decide (t.1 = k)) <;> rfl
theorem get_kvp' {m : Tm} {k : Int} (h : k ∈ m.map (·.1)) : DL.getD (m.map kvp) (.inl k) = some (.int (getI m k)) := by
  have e := get_kvp m k
  cases q : DL.getD (m.map kvp) (.inl k) with
  | some d => rw [q] at e; exact congrArg some e
  | none =>
    unfold DL.getD at q
    rw [find_kvp] at q
    have q1 := Option.map_eq_none_iff.mp (Option.map_eq_none_iff.mp q)
    rw [List.find?_eq_none] at q1
    obtain ⟨t, h1, h2⟩ := List.mem_map.mp h
    exact absurd (by simpa using h2) (q1 t h1)
theorem put_kvp (m : Tm) (k v : Int) : putD (m.map kvp) (.inl k) (.int v) = (putI m k v).map kvp := by
  have e : ((m.map kvp).any fun kv => decide (kv.1 = Sum.inl k)) = m.any fun t => decide (t.1 = k) := by
    rw [List.any_map]
    congr 1
    funext t
    simp [kvp]
  unfold putD putI
  rw [e]
  split
  · rw [List.map_map, List.map_map]
    refine List.map_congr_left fun t _ => ?_
    by_cases h : t.1 = k
    · simp [kvp, h]
    · simp [kvp, h]
  · rw [List.map_append]
    rfl
theorem keys_kvp (m : Tm) : ((m.map kvp).map fun kv => DL.keyOf kv.1) = (m.map (·.1)).map D.int := by
  rw [List.map_map, List.map_map]
  rfl
theorem ok_int (i : Int) : okD (.int i) := ⟨_, rfl, fun c e => nomatch e⟩
theorem isa_int_int : isaB "int" (.b "int") = true := by decide
theorem isa_int_bool : isaB "int" (.b "bool") = true := by decide
theorem isa_int_list : isaB "int" (.b "list") = false := by decide
theorem isa_int_tuple : isaB "int" (.b "tuple") = false := by decide
theorem isa_int_str : isaB "int" (.b "str") = false := by decide
theorem isa_int_NoneType : isaB "int" (.b "NoneType") = false := by decide
theorem isa_int_dict : isaB "int" (.b "dict") = false := by decide
theorem isa_int_own (c : Str) : isaB "int" (.own c) = false := rfl
theorem isa_bool_int : isaB "bool" (.b "int") = false := by decide
theorem isa_bool_bool : isaB "bool" (.b "bool") = true := by decide
theorem isa_bool_list : isaB "bool" (.b "list") = false := by decide
theorem isa_bool_tuple : isaB "bool" (.b "tuple") = false := by decide
theorem isa_bool_str : isaB "bool" (.b "str") = false := by decide
theorem isa_bool_NoneType : isaB "bool" (.b "NoneType") = false := by decide
theorem isa_bool_dict : isaB "bool" (.b "dict") = false := by decide
theorem isa_bool_own (c : Str) : isaB "bool" (.own c) = false := rfl
theorem isa_list_int : isaB "list" (.b "int") = false := by decide
theorem isa_list_bool : isaB "list" (.b "bool") = false := by decide
theorem isa_list_list : isaB "list" (.b "list") = true := by decide
theorem isa_list_tuple : isaB "list" (.b "tuple") = false := by decide
theorem isa_list_str : isaB "list" (.b "str") = false := by decide
theorem isa_list_NoneType : isaB "list" (.b "NoneType") = false := by decide
theorem isa_list_dict : isaB "list" (.b "dict") = false := by decide
theorem isa_list_own (c : Str) : isaB "list" (.own c) = false := rfl
theorem isa_tuple_int : isaB "tuple" (.b "int") = false := by decide
theorem isa_tuple_bool : isaB "tuple" (.b "bool") = false := by decide
theorem isa_tuple_list : isaB "tuple" (.b "list") = false := by decide
theorem isa_tuple_tuple : isaB "tuple" (.b "tuple") = true := by decide
theorem isa_tuple_str : isaB "tuple" (.b "str") = false := by decide
theorem isa_tuple_NoneType : isaB "tuple" (.b "NoneType") = false := by decide
theorem isa_tuple_dict : isaB "tuple" (.b "dict") = false := by decide
theorem isa_tuple_own (c : Str) : isaB "tuple" (.own c) = false := rfl
theorem ty_int (i : Int) : tyD (.int i) = some (.b "int") := rfl
theorem ty_bl (i : Bool) : tyD (.bl i) = some (.b "bool") := rfl
theorem ty_str (i : Str) : tyD (.str i) = some (.b "str") := rfl
theorem ty_lst (i : List D) : tyD (.lst i) = some (.b "list") := rfl
theorem ty_rol (i : List D) : tyD (.rol i) = some (.b "list") := rfl
theorem ty_tup (i : List D) : tyD (.tup i) = some (.b "tuple") := rfl
theorem ty_dct (i : List (Key × D)) : tyD (.dct i) = some (.b "dict") := rfl
theorem ty_non : tyD .non = some (.b "NoneType") := rfl
theorem ty_obj (c : Str) (fs : List (Str × D)) : tyD (.obj c fs) = some (.own c) := rfl
theorem own_b {P : Str → Prop} (s : String) : (∀ c, Ty.b s = .own c → P c) ↔ True := ⟨fun _ => trivial, fun _ c e => nomatch e⟩
def enumF (i : Nat) : List D → List D
  | [] => []
  | d :: ds => .tup [.int (i : Int), d] :: enumF (i + 1) ds
theorem enumF_get : ∀ (ds : List D) (i j : Nat), (enumF i ds)[j]? = ds[j]?.map fun d => D.tup [.int ((i + j : Nat) : Int), d]
  | [], i, j => by simp [enumF]
  | d :: ds, i, 0 => by simp [enumF]
  | d :: ds, i, j + 1 => by
    rw [enumF, List.getElem?_cons_succ, List.getElem?_cons_succ, enumF_get ds (i + 1) j]
    rw [show i + 1 + j = i + (j + 1) by omega]
theorem enumD_eq (ds : List D) : enumD ds = enumF 0 ds := by
  refine List.ext_getElem? fun j => ?_
  rw [enumF_get, enumD, List.getElem?_map]
  by_cases h : j < ds.length
  · rw [List.getElem?_range h, List.getElem?_eq_getElem h]
    simp [List.getD, h]
  · rw [List.getElem?_eq_none (by simpa using h), List.getElem?_eq_none (by omega)]
    rfl
theorem forD_nil {γ : DG} {b : DS} {E : DEnds} {ρ : DL.Env} {n : Nat} : forD γ b [] E ρ n = E.nx ρ n := rfl
theorem forD_cons {γ : DG} {b : DS} {E : DEnds} {ρ : DL.Env} {n : Nat} {d : D} {ds : List D} : forD γ b (d :: ds) E ρ n = γ d ρ fun ρ1 => b { E with nx := forD γ b ds E, ct := forD γ b ds E, bk := E.nx } ρ1 n := rfl
theorem ix0 (a b : D) : atI [a, b] 0 = some a := rfl
theorem ix1 (a b : D) : atI [a, b] 1 = some b := rfl
theorem lcD_map {w : Wd} {γ : DG} {tt : DT} {te : DE} {ρ : DL.Env} {n : Nat} (f : D → Option D) : ∀ (ds acc : List D) (q : List D → Nat → Prop), (∀ d ∈ ds, ∀ K : Option D → Nat → Prop, K (f d) n → γ d ρ fun ρ1 => tt (x0 w) ρ1 n fun b n1 => if b = true then te (x0 w) ρ1 n1 (fun y n2 => K (some y) n2) else K none n1) →
    acc.length + ds.length < 16777216 → q (acc ++ ds.filterMap f) n → lcD w γ tt te ds ρ n acc q
  | [], acc, q, _, _, h => by simpa [lcD] using h
  | d :: ds, acc, q, hs, hl, h => by
    rw [List.length_cons] at hl
    refine hs d (List.mem_cons_self ..) (fun o n' => match o with
      | some y => acc.length < 16777216 ∧ lcD w γ tt te ds ρ n' (acc ++ [y]) q
      | none => lcD w γ tt te ds ρ n' acc q) ?_
    rw [List.filterMap_cons] at h
    cases e : f d with
    | none =>
      rw [e] at h
      exact lcD_map f ds acc q (fun d hd => hs d (List.mem_cons_of_mem _ hd)) (by omega) h
    | some y =>
      rw [e] at h
      refine ⟨by omega, lcD_map f ds (acc ++ [y]) q (fun d hd => hs d (List.mem_cons_of_mem _ hd)) (by rw [List.length_append, List.length_singleton]; omega) ?_⟩
      rw [List.append_assoc]
      exact h
theorem lcD_of {α : Type} {w : Wd} {γ : DG} {tt : DT} {te : DE} {ρ : DL.Env} {n : Nat} (g : α → D) (f : α → Option D) : ∀ (xs : List α) (acc : List D) (q : List D → Nat → Prop), (∀ a ∈ xs, ∀ K : Option D → Nat → Prop, K (f a) n → γ (g a) ρ fun ρ1 => tt (x0 w) ρ1 n fun b n1 => if b = true then te (x0 w) ρ1 n1 (fun y n2 => K (some y) n2) else K none n1) →
    acc.length + xs.length < 16777216 → q (acc ++ xs.filterMap f) n → lcD w γ tt te (xs.map g) ρ n acc q
  | [], acc, q, _, _, h => by simpa [lcD] using h
  | d :: ds, acc, q, hs, hl, h => by
    rw [List.length_cons] at hl
    rw [List.map_cons]
    refine hs d (List.mem_cons_self ..) (fun o n' => match o with
      | some y => acc.length < 16777216 ∧ lcD w γ tt te (ds.map g) ρ n' (acc ++ [y]) q
      | none => lcD w γ tt te (ds.map g) ρ n' acc q) ?_
    rw [List.filterMap_cons] at h
    cases e : f d with
    | none =>
      rw [e] at h
      exact lcD_of g f ds acc q (fun d hd => hs d (List.mem_cons_of_mem _ hd)) (by omega) h
    | some y =>
      rw [e] at h
      refine ⟨by omega, lcD_of g f ds (acc ++ [y]) q (fun d hd => hs d (List.mem_cons_of_mem _ hd)) (by rw [List.length_append, List.length_singleton]; omega) ?_⟩
      rw [List.append_assoc]
      exact h
theorem lcD_all {α : Type} {w : Wd} {γ : DG} {tt : DT} {te : DE} {ρ : DL.Env} {n : Nat} (g f : α → D) (xs : List α) (q : List D → Nat → Prop) (h : ∀ a ∈ xs, ∀ K : Option D → Nat → Prop, K (some (f a)) n → γ (g a) ρ fun ρ1 => tt (x0 w) ρ1 n fun b n1 => if b = true then te (x0 w) ρ1 n1 (fun y n2 => K (some y) n2) else K none n1)
    (hl : xs.length < 16777216) (hq : q (xs.map f) n) : lcD w γ tt te (xs.map g) ρ n [] q := by
  refine lcD_of g (fun a => some (f a)) xs [] q h (by simpa using hl) ?_
  rw [List.nil_append]
  have : xs.filterMap (fun a => some (f a)) = xs.map f := by
    clear h hl hq
    induction xs with
    | nil => rfl
    | cons a xs ih => rw [List.filterMap_cons]; simp [ih]
  rw [this]
  exact hq
theorem intsD_map : ∀ ks : List Int, intsD (ks.map D.int) = some ks
  | [] => rfl
  | k :: ks => by rw [List.map_cons, intsD, intsD_map ks]; rfl
theorem fm_some (ds : List D) : ds.filterMap some = ds := List.filterMap_some ..
theorem fm_if (g : Int → Bool) (h : Int → D) : ∀ ks : List Int, (ks.filterMap fun k => if g k = true then some (h k) else none) = (ks.filter g).map h
  | [] => rfl
  | k :: ks => by
    rw [List.filterMap_cons, List.filter_cons]
    cases e : g k
    · rw [if_neg Bool.false_ne_true, if_neg Bool.false_ne_true, fm_if g h ks]
    · rw [if_pos rfl, if_pos rfl, List.map_cons, fm_if g h ks]
theorem pairs_trm : ∀ m : Tm, pairsD (m.map trm) = some (m.map kvp)
  | [] => rfl
  | t :: m => by
    rw [List.map_cons, List.map_cons]
    show ((keyD (D.int t.1)).bind fun j => (pairsD (m.map trm)).map ((j, D.int t.2) :: ·)) = _
    rw [pairs_trm m]
    rfl
theorem merge_kvp : ∀ (m a : Tm), ((a ++ m).map (·.1)).Nodup → mergeD (a.map kvp) (m.map kvp) = (a ++ m).map kvp
  | [], a, _ => by rw [List.append_nil]; rfl
  | t :: m, a, h => by
    rw [List.map_cons]
    show mergeD (putD (a.map kvp) (.inl t.1) (.int t.2)) (m.map kvp) = _
    have nm : t.1 ∉ a.map (·.1) := fun z => by
      rw [List.map_append, List.nodup_append] at h
      exact h.2.2 t.1 z t.1 (by rw [List.map_cons]; exact List.mem_cons_self ..) rfl
    have e : putI a t.1 t.2 = a ++ [t] := by
      unfold putI
      rw [if_neg (fun z => nm ((any_iff a t.1).mp z))]
    rw [put_kvp, e, merge_kvp m (a ++ [t]) (by rw [List.append_assoc]; exact h), List.append_assoc]
    rfl
theorem merge_kvp0 {m : Tm} (h : (m.map (·.1)).Nodup) : mergeD [] (m.map kvp) = m.map kvp := merge_kvp m [] h
theorem hsum_key {p : Int} {ts : Tm} {k : Int} (h : k ∈ srt ((hsum p ts).map (·.1))) : k ∈ (hsum p ts).map (·.1) := (srt_perm _).mem_iff.mp h
def keepF (S : Tm) : D → Option D
  | .int k => if decide (0 < getI S k) = true then some (trm (k, getI S k)) else none
  | _ => none
theorem keepF_eq (p : Int) (ts : Tm) : ((srt ((hsum p ts).map (·.1))).map D.int).filterMap (keepF (hsum p ts)) = (canon p ts).map trm := by
  rw [List.filterMap_map]
  have e := fm_if (fun k => decide (0 < getI (hsum p ts) k)) (fun k => trm (k, getI (hsum p ts) k)) (srt ((hsum p ts).map (·.1)))
  exact e.trans (by unfold canon; rw [List.map_map]; rfl)
theorem lk_kept (a b : D) : List.lookup ("kept" : Str) (setF "kept" b (setF "prime" a [])) = some b := rfl
theorem lk1 (p : Int) (ts : Tm) : List.lookup ("prime" : Str) (flt p ts) = some (.int p) := rfl
theorem lk2 (p : Int) (ts : Tm) : List.lookup ("kept" : Str) (flt p ts) = some (.lst (ts.map trm)) := rfl
theorem lk3 (p : Int) (ts : Tm) : List.lookup ("held" : Str) (flt p ts) = some (.dct (ts.map kvp)) := rfl
theorem lkT (p : Int) (ts : Tm) : List.lookup ("terms" : Str) (flt p ts) = none := rfl
theorem rng_len (lo : Int) (n : Nat) : (rngD lo n).length = n := by simp [rngD]
theorem sh_int (i : Int) : SeqAt.shaped (pyD (.int i)) = true := rfl
theorem sh_bl (b : Bool) : SeqAt.shaped (pyD (.bl b)) = true := rfl
theorem eq_int (i : Int) : (pyD (.int i)).eqv (pyD (.int i)) = true := SeqAt.eqv_refl _ rfl
theorem eq_bl (b : Bool) : (pyD (.bl b)).eqv (pyD (.bl b)) = true := SeqAt.eqv_refl _ rfl
def yesF : D → Option D := fun _ => some (.bl true)
theorem bools_yes : ∀ ds : List D, boolsD (ds.filterMap yesF) = some (List.replicate ds.length true)
  | [] => rfl
  | d :: ds => by
    show (boolsD (ds.filterMap yesF)).map (true :: ·) = _
    rw [bools_yes ds]
    rfl
theorem all_yes (n : Nat) : (List.replicate n true).all id = true := by simp
theorem forD_ind {γ : DG} {b : DS} {E : DEnds} (I : DL.Env → Nat → Nat → Prop)
    (step : ∀ (ρ : DL.Env) (n k : Nat) (d : D) (R : DL.Env → Nat → Prop), I ρ n (k + 1) → (∀ ρ' n', I ρ' n' k → R ρ' n') → γ d ρ fun ρ1 => b { E with nx := R, ct := R, bk := E.nx } ρ1 n)
    (done : ∀ ρ n, I ρ n 0 → E.nx ρ n) : ∀ (ds : List D) (ρ : DL.Env) (n : Nat), I ρ n ds.length → forD γ b ds E ρ n
  | [], ρ, n, h => done ρ n h
  | d :: ds, ρ, n, h => step ρ n ds.length d (forD γ b ds E) h fun ρ' n' h' => forD_ind I step done ds ρ' n' h'

theorem forD_pre {α : Type} {γ : DG} {b : DS} {E : DEnds} {f : α → D} (xs : List α) (I : List α → DL.Env → Nat → Prop)
    (step : ∀ pre a post, xs = pre ++ a :: post → ∀ (ρ : DL.Env) (n : Nat) (R : DL.Env → Nat → Prop), I pre ρ n → (∀ ρ' n', I (pre ++ [a]) ρ' n' → R ρ' n') → γ (f a) ρ fun ρ1 => b { E with nx := R, ct := R, bk := E.nx } ρ1 n)
    (done : ∀ ρ n, I xs ρ n → E.nx ρ n) {ρ : DL.Env} {n : Nat} (h0 : I [] ρ n) : forD γ b (xs.map f) E ρ n := by
  have go : ∀ (post pre : List α), xs = pre ++ post → ∀ ρ n, I pre ρ n → forD γ b (post.map f) E ρ n := by
    intro post
    induction post with
    | nil => intro pre e ρ n h; rw [List.append_nil] at e; subst e; exact done ρ n h
    | cons a post ih =>
      intro pre e ρ n h
      rw [List.map_cons, forD_cons]
      exact step pre a post e ρ n _ h fun ρ' n' h' => ih (pre ++ [a]) (by rw [e, List.append_assoc]; rfl) ρ' n' h'
  exact go xs [] rfl ρ n h0
theorem dSeq_at {a b : DS} {E : DEnds} {ρ : DL.Env} {n : Nat} (h : ∀ R, R = b E → a { E with nx := R } ρ n) : dSeq a b E ρ n := h _ rfl
theorem rngD_map (lo : Int) (n : Nat) : rngD lo n = (List.range n).map fun (i : Nat) => D.int (lo + (i : Int)) := rfl
theorem eqv_int (a b : Int) : (pyD (.int a)).eqv (pyD (.int b)) = decide (a = b) := by
  show PyData.eqv (.int a) (.int b) = _
  simp [PyData.eqv]
  rfl
theorem lay_trms : ∀ ts : Tm, PyData.canLayAll0 (pyL (ts.map trm)) = true
  | [] => rfl
  | t :: ts => by
    rw [List.map_cons, pyL]
    show (PyData.canLay0 (pyD (trm t)) && PyData.canLayAll0 (pyL (ts.map trm))) = true
    rw [lay_trms ts]
    rfl
theorem depth_trms : ∀ ts : Tm, PyData.depthAll (pyL (ts.map trm)) ≤ 2
  | [] => by decide
  | t :: ts => by
    rw [List.map_cons, pyL]
    have := depth_trms ts
    show max (PyData.depth (pyD (trm t))) (PyData.depthAll (pyL (ts.map trm))) ≤ 2
    have : PyData.depth (pyD (trm t)) ≤ 2 := by simp [trm, pyD, pyL, PyData.depth, PyData.depthAll]
    omega
theorem sh_trms (ts : Tm) : SeqAt.shaped (pyD (.lst (ts.map trm))) = true := by
  unfold SeqAt.shaped
  rw [Bool.and_eq_true_iff]
  refine ⟨by simpa [pyD, PyData.canLay0] using lay_trms ts, ?_⟩
  have := depth_trms ts
  simp only [pyD, PyData.depth]
  exact decide_eq_true (by omega)
theorem atLast {l : List D} {a : D} (h : l.getLast? = some a) : atI l (-1) = some a := by
  obtain ⟨ys, rfl⟩ := List.getLast?_eq_some_iff.mp h
  unfold atI
  have e : ixN (ys ++ [a]).length (-1) = some ys.length := by
    unfold ixN
    rw [if_neg (by decide), if_pos (by rw [List.length_append, List.length_singleton]; omega)]
    congr 1
    rw [List.length_append, List.length_singleton]
    omega
  rw [e]
  show (ys ++ [a])[ys.length]? = some a
  simp
def F_is_integer : DF := fun _ ds n q _ => match ds with
  | [d] => okD d ∧ q (.bl (isInt d)) n
  | _ => False
def F_is_list : DF := fun _ ds n q _ => match ds with
  | [d] => okD d ∧ q (.bl (isLst d)) n
  | _ => False
def pcs : List Str := ["Filter"]
theorem pc_F : ("Filter" : Str) ∈ pcs := by decide +kernel
def F_check_primes : DF := fun _ ds n q xx => match ds with
  | [.obj c fs, .obj d gs] => c ∈ pcs ∧ d ∈ pcs ∧ ∃ p : Int, fs.lookup ("prime" : Str) = some (.int p) ∧ (gs.lookup ("prime" : Str) = some (.int p) ∧ q .non n ∨ ∃ p' : Int, p ≠ p' ∧ gs.lookup ("prime" : Str) = some (.int p') ∧ xx ("UnlikePrimes", []) n)
  | _ => False
def F__law_pick : DF := fun W ds n q _ => match ds with
  | [.hnd s, .lst es] => (∃ c, W = sprW s c) ∧ 0 < es.length ∧ es.length < 1000000 ∧ n < 1000000 ∧ ∀ d ∈ es, q d (n + 1)
  | _ => False
def pl : Nat → D → Prop
  | 0, d => match d with
    | .int _ => True
    | .bl _ => True
    | _ => False
  | k + 1, d => match d with
    | .lst ds => ds.length < 10000000 ∧ ∀ d ∈ ds, pl k d
    | .tup ds => ds.length < 10000000 ∧ ∀ d ∈ ds, pl k d
    | .int _ => True
    | .bl _ => True
    | _ => False
def F__law_same (k : Nat) : DF := fun _ ds n q _ => ∃ d, ds = [d, d] ∧ pl k d ∧ q (.bl true) n
abbrev F__law_same3 : DF := F__law_same 3
end My

namespace My
open PySem PySem.Spec L2 DL
noncomputable def fo {p : Int} (x : LP p) : D := fob p (can x)
noncomputable def dk {p : Int} (x : LP p) : D := .dct ((can x).map kvp)
noncomputable def tl {p : Int} (x : LP p) : D := .lst ((can x).map trm)
def F_Filter_terms : DF := fun _ ds n q _ => ∃ p ts, ds = [fob p ts] ∧ q (.lst (ts.map trm)) n
def F_Filter___bool__ : DF := fun _ ds n q _ => ∃ p ts, ds = [fob p ts] ∧ q (.bl (!ts.isEmpty)) n
def oi : Option Int → D
  | some i => .int i
  | none => .non
def F_Filter_high : DF := fun _ ds n q _ => ∃ p ts, ds = [fob p ts] ∧ q (oi (ts.getLast?.map (·.1))) n
def F_Filter___add__ : DF := fun _ ds n q xx => (∃ p, ∃ x y : LP p, ds = [fo x, fo y] ∧ isPr p = true ∧ nt x + nt y < 7000000 ∧ q (fo (x + y)) n) ∨ ∃ p p', ∃ x : LP p, ∃ y : LP p', ds = [fo x, fo y] ∧ p ≠ p' ∧ xx ("UnlikePrimes", []) n
theorem can_of {p : Int} (hp : 0 < p) {ts : Tm} {x : LP p} (h : lp p ts = x) : canon p ts = can x := by rw [← h, can_lp hp]
theorem Nrm.bd {p : Int} (hp : 0 < p) {x : LP p} (h : Nrm x) : Bd x 0 (sp x) := by
  by_cases e : x = 0
  · rw [e]; exact .zero _ _
  · rcases h with h | ⟨h1, h2⟩
    · exact absurd h e
    · have := bd_hl hp e
      have l := h1.lo hp
      unfold sp
      rw [l] at this ⊢
      rw [Int.sub_zero]
      exact this
end My

namespace My
open PySem PySem.Spec L2 DL
def Nb {p : Int} (x : LP p) (a : Nat) : Prop := Bd x (-(a : Int)) (a : Int)
section
variable {p : Int} {x y : LP p} {a b : Nat} {W : Wd} {n : Nat} {q : D → Nat → Prop} {xx : DL.Xn → Nat → Prop}
theorem Nb.le (h : Nb x a) (l : a ≤ b) : Nb x b := Bd.mono h (by omega) (by omega)
theorem Nb.add (h : Nb x a) (h' : Nb y b) : Nb (x + y) (a + b) := Bd.add (h.le (by omega)) (h'.le (by omega))
theorem Nb.sub (h : Nb x a) (h' : Nb y b) : Nb (x - y) (a + b) := Bd.sub (h.le (by omega)) (h'.le (by omega))
theorem Nb.neg (h : Nb x a) : Nb (-x) a := Bd.neg h
theorem Nb.mul (hp : isPr p = true) (h : Nb x a) (h' : Nb y b) : Nb (x * y) (a + b) := Bd.mono (Bd.mul (isPr_pos hp).1 h h') (by omega) (by omega)
theorem Nb.nt (hp : isPr p = true) (h : Nb x a) : My.nt x ≤ 2 * a + 1 := by
  have := Bd.nt (isPr_pos hp).1 h
  omega
theorem Nb.int (c : Int) : Nb ((c : Int) : LP p) 0 := fun k hk => by
  have e : ((c : Int) : LP p) = ((c : Int) : LP p) * 1 := by grind
  have e2 : cf (1 : LP p) k ≠ 0 := fun z => hk (by rw [e, cf_int_mul, z, Int.mul_zero]; exact Int.zero_emod p)
  have e3 := cf_mono (p := p) 0 1 k
  rw [mono_one] at e3
  by_cases h : (0 : Int) = k
  · omega
  · rw [if_neg h] at e3; exact absurd e3 e2
theorem Nb.one (hp : isPr p = true) : Nb (1 : LP p) 0 := fun k hk => by
  have e3 := cf_mono (p := p) 0 1 k
  rw [mono_one] at e3
  by_cases h : (0 : Int) = k
  · omega
  · rw [if_neg h] at e3; exact absurd e3 hk
theorem Nb.sp (hp : isPr p = true) (h : Nb x a) (hx : x ≠ 0) : My.sp x ≤ 2 * a := by
  have h1 := Bd.lo (isPr_pos hp).1 h hx
  have h2 := Bd.hi (isPr_pos hp).1 h hx
  unfold My.sp
  omega
theorem Nb.nrm (hp : isPr p = true) (h : Nb x a) : Nb (nrm x) (2 * a) := by
  by_cases e : x = 0
  · rw [e, nrm_zero]; exact .zero _ _
  · have := h.sp hp e
    have z := (nrm_nrm hp x).bd (isPr_pos hp).1
    rw [sp_nrm hp e] at z
    exact z.mono (by omega) (by omega)
theorem Nb.mod (hp : isPr p = true) {r g : LP p} (h : IsMod x g r) (hg : Nb g b) (g0 : g ≠ 0) : Nb r (2 * b) := by
  have := hg.sp hp g0
  exact h.2.mono (by omega) (by omega)
theorem Nb.pow (hp : isPr p = true) (hx : Nb x a) : ∀ k : Nat, Nb (x ^ k) (k * a)
  | 0 => by
    have e : x ^ 0 = 1 := rfl
    rw [e]; exact (Nb.one hp).le (by omega)
  | k + 1 => by
    have e : x ^ (k + 1) = x ^ k * x := rfl
    rw [e, Nat.succ_mul]; exact (Nb.pow hp hx k).mul hp hx
end
inductive EqPr (p : Int) : List D → Prop
  | nil : EqPr p []
  | cons {x y : LP p} {a : Nat} {l : List D} (h : Nb x a) (la : a < 1000) (e : x = y) (t : EqPr p l) : EqPr p (.tup [fo x, fo y] :: l)
end My

namespace My
open PySem PySem.Spec L2 DL
theorem sq_cases {d : D} {l : List D} (h : seqD d = some l) : d = .lst l ∨ d = .tup l ∨ d = .rol l := by
  cases d with
  | lst l' => cases h; exact .inl rfl
  | tup l' => cases h; exact .inr (.inl rfl)
  | rol l' => cases h; exact .inr (.inr rfl)
  | _ => cases h
theorem okD_seq {d : D} {l : List D} (h : seqD d = some l) : okD d := by
  rcases sq_cases h with rfl | rfl | rfl <;> exact ⟨_, rfl, fun c e => nomatch e⟩
def isPrD : D → Bool
  | .int p => isPr p
  | _ => false
def FG_is_prime : DF := fun _ ds n q _ => match ds with
  | [d] => okD d ∧ q (.bl (isPrD d)) n
  | _ => False
def trmB (d : D) : Bool := match seqD d with
  | some [a, b] => isInt a && isInt b
  | _ => false
def okS (d : D) : Prop := okD d ∧ ∀ l, seqD d = some l → l.length < 1000000 ∧ ∀ e ∈ l, okD e
def FG_is_term : DF := fun _ ds n q _ => match ds with
  | [d] => okS d ∧ q (.bl (trmB d)) n
  | _ => False
def PrD (t : Int × Int) (d : D) : Prop := seqD d = some [.int t.1, .int t.2]
theorem PrD.trm (t : Int × Int) : PrD t (trm t) := rfl
theorem PrD.b {t : Int × Int} {d : D} (h : PrD t d) : trmB d = true := by unfold trmB; rw [h]; rfl
theorem PrD.ok {t : Int × Int} {d : D} (h : PrD t d) : okS d := by
  refine ⟨okD_seq h, fun l e => ?_⟩
  have h' : seqD d = _ := h
  rw [h'] at e
  cases e
  refine ⟨by show 2 < 1000000; decide, fun e he => ?_⟩
  simp only [List.mem_cons, List.not_mem_nil, or_false] at he
  rcases he with rfl | rfl <;> exact ok_int _
theorem isLst_sqT {d : D} {l : List D} (h : seqD d = some l) : isLst d = true := by rcases sq_cases h with rfl | rfl | rfl <;> rfl
theorem isLst_no {d : D} (h : seqD d = none) : isLst d = false := by cases d <;> first | rfl | cases h
def FlRf (xx : Xn → Nat → Prop) (n : Nat) (dp d : D) : Prop := (okD dp ∧ isPrD dp = false ∧ xx ("BadPrime", [("prime", dp)]) n) ∨ (isPrD dp = true ∧ okD d ∧ seqD d = none ∧ xx ("BadTerm", [("index", .int 0)]) n) ∨
  ∃ (Z : List (D × (Int × Int))) (b : D) (r : List D), isPrD dp = true ∧ seqD d = some (Z.map (·.1) ++ b :: r) ∧ (∀ z ∈ Z, PrD z.2 z.1) ∧ Z.length < 1000000 ∧ okS b ∧ trmB b = false ∧ xx ("BadTerm", [("index", .int (Z.length : Int))]) n
def FG_Filter___init__ : DFI := fun _ ds n q xx => (∃ (p : Int) (d : D) (Z : List (D × (Int × Int))), ds = [.int p, d] ∧ seqD d = some (Z.map (·.1)) ∧ (∀ z ∈ Z, PrD z.2 z.1) ∧ isPr p = true ∧ Z.length < 8000000 ∧ q (flt p (canon p (Z.map (·.2)))) n) ∨ ∃ dp d, ds = [dp, d] ∧ FlRf xx n dp d
theorem FG_init_trm {W : Wd} {p : Int} {d : D} {ts : Tm} {n : Nat} {q : List (Str × D) → Nat → Prop} {xx : Xn → Nat → Prop} (h : seqD d = some (ts.map trm)) (hp : isPr p = true) (hl : ts.length < 8000000) (hq : q (flt p (canon p ts)) n) : FG_Filter___init__ W [.int p, d] n q xx := by
  refine .inl ⟨p, d, ts.map fun t => (trm t, t), rfl, by rw [h, List.map_map]; rfl, fun z hz => ?_, hp, by rw [List.length_map]; exact hl, ?_⟩
  · obtain ⟨t, _, rfl⟩ := List.mem_map.mp hz
    rfl
  · rw [List.map_map, show ((fun z : D × (Int × Int) => z.2) ∘ fun t => (trm t, t)) = id from rfl, List.map_id]
    exact hq
def sm : Nat → D → D → Prop
  | 0, d, e => d = e ∧ match e with
    | .int _ => True
    | .bl _ => True
    | .str x => SeqAt.shaped (pyD (.str x)) = true
    | .non => True
    | _ => False
  | k + 1, d, e => match e with
    | .lst es => ∃ ds : List D, (d = .lst ds ∨ d = .rol ds) ∧ ds.length = es.length ∧ es.length < 10000000 ∧ ∀ (i : Nat) (x y : D), ds[i]? = some x → es[i]? = some y → sm k x y
    | .tup es => ∃ ds : List D, d = .tup ds ∧ ds.length = es.length ∧ es.length < 10000000 ∧ ∀ (i : Nat) (x y : D), ds[i]? = some x → es[i]? = some y → sm k x y
    | .int _ => d = e
    | .bl _ => d = e
    | .str x => d = e ∧ SeqAt.shaped (pyD (.str x)) = true
    | .non => d = e
    | _ => False
def FG__law_same (k : Nat) : DF := fun _ ds n q _ => ∃ d e, ds = [d, e] ∧ sm k d e ∧ q (.bl true) n
abbrev FG__law_same3 : DF := FG__law_same 3
end My

namespace My
open PySem PySem.Spec L2 DL TL
open PySem (intText?)
theorem snoc_ind {α : Type} {P : List α → Prop} (h0 : P []) (hs : ∀ l a, P l → P (l ++ [a])) (l : List α) : P l := by
  have h : ∀ m : List α, P m.reverse := by
    intro m
    induction m with
    | nil => exact h0
    | cons a m ih => rw [List.reverse_cons]; exact hs _ _ ih
  have := h l.reverse
  rwa [List.reverse_reverse] at this
def isDg (c : Nat) : Bool := decide (48 ≤ c) && decide (c ≤ 57)
def figs (l : List Nat) : List Nat := if l.take 1 = [45] then l.drop 1 else l
def WOk (l : List Nat) : Prop := figs l ≠ [] ∧ (figs l).all isDg = true ∧ ¬ ((figs l).head? = some 48 ∧ l ≠ [48])
instance (l : List Nat) : Decidable (WOk l) := by unfold WOk; infer_instance
def wint (w : Str) : Option Int := if WOk (TL.tl w) then intText? w else none
theorem allD {l : List Nat} : l.all isDg = true ↔ NumText.AllDigits l := by
  rw [List.all_eq_true]
  exact ⟨fun h c hc => by have := h c hc; simp [isDg] at this; exact this, fun h c hc => by have := h c hc; simp [isDg]; exact this⟩
theorem word_reads {w : Str} (h1 : figs (TL.tl w) ≠ []) (h2 : (figs (TL.tl w)).all isDg = true) (hl : w.length ≤ 400) : (TL.tl w = figs (TL.tl w) ∧ intText? w = some ((NumText.digitsVal (figs (TL.tl w)) : Nat) : Int)) ∨ (TL.tl w = 45 :: figs (TL.tl w) ∧ intText? w = some (-((NumText.digitsVal (figs (TL.tl w)) : Nat) : Int))) := by
  by_cases c : (TL.tl w).take 1 = [45]
  · right
    have e : figs (TL.tl w) = (TL.tl w).drop 1 := if_pos c
    have e2 : TL.tl w = 45 :: figs (TL.tl w) := by rw [e]; rw [← List.take_append_drop 1 (TL.tl w), c]; simp
    exact ⟨e2, PySem.intText_neg (cs := figs (TL.tl w)) e2 (allD.mp h2) h1 (by omega)⟩
  · left
    have e : figs (TL.tl w) = TL.tl w := if_neg c
    rw [e] at h1 h2 ⊢
    exact ⟨rfl, PySem.intText_digits (allD.mp h2) h1 (by omega)⟩
theorem dv_snoc (l : List Nat) (d : Nat) : NumText.digitsVal (l ++ [d]) = NumText.digitsVal l * 10 + (d - 48) := by
  unfold NumText.digitsVal
  rw [List.foldl_append]
  rfl
theorem dv_pos : ∀ {l : List Nat}, NumText.AllDigits l → l ≠ [] → l.head? ≠ some 48 → 0 < NumText.digitsVal l := by
  intro l
  refine snoc_ind (P := fun l => NumText.AllDigits l → l ≠ [] → l.head? ≠ some 48 → 0 < NumText.digitsVal l) (fun _ h => absurd rfl h) (fun l d ih => ?_) l
  · intro ha _ hh
    rw [dv_snoc]
    by_cases c : l = []
    · subst c
      have h1 := ha d (by simp)
      have : d ≠ 48 := fun e => hh (by rw [e]; rfl)
      omega
    · have := ih (fun c hc => ha c (List.mem_append_left _ hc)) c (by
        intro z
        apply hh
        cases l with
        | nil => exact absurd rfl c
        | cons a l => exact z)
      omega
theorem num_back : ∀ {l : List Nat}, NumText.AllDigits l → l ≠ [] → (l.head? ≠ some 48 ∨ l = [48]) → numL (NumText.digitsVal l) = l := by
  intro l
  refine snoc_ind (P := fun l => NumText.AllDigits l → l ≠ [] → (l.head? ≠ some 48 ∨ l = [48]) → numL (NumText.digitsVal l) = l) (fun _ h => absurd rfl h) (fun l d ih => ?_) l
  · intro ha _ hh
    have hd := ha d (by simp)
    rw [dv_snoc]
    by_cases c : l = []
    · subst c
      rw [show NumText.digitsVal ([] : List Nat) = 0 from rfl, numL_lt (by omega)]
      rw [show 48 + (0 * 10 + (d - 48)) = d by omega]
      rfl
    · have hh' : l.head? ≠ some 48 := by
        cases l with
        | nil => exact absurd rfl c
        | cons a l =>
          rcases hh with hh | hh
          · exact hh
          · exfalso
            have := congrArg List.length hh
            simp at this
      have hp := dv_pos (fun c hc => ha c (List.mem_append_left _ hc)) c hh'
      have hi := ih (fun c hc => ha c (List.mem_append_left _ hc)) c (.inl hh')
      rw [numL_step (by omega), show (NumText.digitsVal l * 10 + (d - 48)) / 10 = NumText.digitsVal l by omega, hi, show 48 + (NumText.digitsVal l * 10 + (d - 48)) % 10 = d by omega]
theorem numL_head (n : Nat) : (numL n).head? = some 48 → n = 0 := by
  induction n using Nat.strongRecOn with
  | _ n ih =>
    intro h
    by_cases c : n < 10
    · rw [numL_lt c] at h
      simp at h
      omega
    · rw [numL_step (by omega)] at h
      have hne := numL_ne (n / 10)
      have h' : (numL (n / 10)).head? = some 48 := by
        cases e : numL (n / 10) with
        | nil => exact absurd e hne
        | cons a l => rw [e] at h; exact h
      have := ih (n / 10) (by omega) h'
      omega
theorem tl_neg {n : Nat} (h : 0 < n) : TL.tl (Str.ofString (toString (-((n : Nat) : Int)))) = 45 :: numL n := by
  have e := PyProof.Rows.toString_neg (n := -((n : Nat) : Int)) (by omega)
  rw [e, show (0 : Int) - -((n : Nat) : Int) = ((n : Nat) : Int) by omega]
  have q : Str.ofString ("-" ++ toString ((n : Nat) : Int)) = Str.ofString "-" ++ Str.ofString (toString ((n : Nat) : Int)) := by
    refine ext_tl ?_
    rw [tl_append]
    show (Str.ofString _).cps.toList = (Str.ofString _).cps.toList ++ (Str.ofString _).cps.toList
    rw [PyProof.Rows.signs_ofString, PyProof.Rows.signs_ofString, PyProof.Rows.signs_ofString, String.toList_append, List.map_append]
  rw [q, tl_append, tl_num]
  rfl
theorem str_back {w : Str} {n : Int} (h1 : figs (TL.tl w) ≠ []) (h2 : (figs (TL.tl w)).all isDg = true) (hl : w.length ≤ 400) (hn : intText? w = some n) : (Str.ofString (toString n) = w) ↔ WOk (TL.tl w) := by
  have ha := allD.mp h2
  have no1 : (figs (TL.tl w)).head? = some 48 → figs (TL.tl w) ≠ [48] → ∀ m, numL m ≠ figs (TL.tl w) := fun e z m em => by
    rw [← em] at e
    have := numL_head m e
    subst this
    exact z (by rw [← em]; exact numL_lt (by decide))
  rcases word_reads h1 h2 hl with ⟨e, r⟩ | ⟨e, r⟩
  · rw [hn] at r
    cases r
    constructor
    · intro q
      refine ⟨h1, h2, fun ⟨z1, z2⟩ => ?_⟩
      have := congrArg TL.tl q
      rw [tl_num] at this
      refine no1 z1 (fun y => z2 (by rw [e]; exact y)) _ (this.trans e)
    · rintro ⟨_, _, z⟩
      refine ext_tl ?_
      rw [tl_num, num_back ha h1, ← e]
      by_cases c : (figs (TL.tl w)).head? = some 48
      · right
        by_cases d : TL.tl w = [48]
        · rw [← e]; exact d
        · exact absurd ⟨c, d⟩ z
      · exact .inl c
  · rw [hn] at r
    cases r
    have ne : TL.tl w ≠ [48] := fun y => by
      rw [y] at e
      simp at e
    constructor
    · intro q
      refine ⟨h1, h2, fun ⟨z1, z2⟩ => ?_⟩
      have q2 := congrArg TL.tl q
      by_cases c : NumText.digitsVal (figs (TL.tl w)) = 0
      · rw [c] at q2
        have : TL.tl (Str.ofString (toString (-((0 : Nat) : Int)))) = [48] := by
          have := tl_num 0
          rw [show (-((0 : Nat) : Int)) = ((0 : Nat) : Int) from rfl, this]
          exact numL_lt (by decide)
        rw [this] at q2
        exact ne q2.symm
      · rw [tl_neg (by omega), e] at q2
        have q3 := List.tail_eq_of_cons_eq q2
        by_cases d : figs (TL.tl w) = [48]
        · rw [d] at c
          exact c rfl
        · rw [show figs (45 :: figs (TL.tl w)) = figs (TL.tl w) from rfl] at q3
          exact no1 z1 d _ q3
    · rintro ⟨_, _, z⟩
      have c : (figs (TL.tl w)).head? ≠ some 48 := fun y => z ⟨y, ne⟩
      refine ext_tl ?_
      rw [tl_neg (dv_pos ha h1 c), num_back ha h1 (.inl c)]
      exact e.symm
theorem wint_back {i : Int} (hl : (Str.ofString (toString i)).length ≤ 400) : wint (Str.ofString (toString i)) = some i := by
  have key : figs (TL.tl (Str.ofString (toString i))) ≠ [] ∧ (figs (TL.tl (Str.ofString (toString i)))).all isDg = true ∧ intText? (Str.ofString (toString i)) = some i := by
    by_cases c : 0 ≤ i
    · obtain ⟨n, rfl⟩ := Int.eq_ofNat_of_zero_le c
      have f : figs (numL n) = numL n := by
        unfold figs
        rw [if_neg]
        intro z
        have hd := numL_digits n
        cases e : numL n with
        | nil => rw [e] at z; cases z
        | cons a l =>
          rw [e] at z hd
          simp at z
          subst z
          have := hd 45 (List.mem_cons_self ..)
          omega
      refine ⟨by rw [tl_num, f]; exact numL_ne n, by rw [tl_num, f]; exact allD.mpr (numL_digits n), ?_⟩
      rw [len_tl, tl_num] at hl
      exact int_num (by omega)
    · obtain ⟨n, rfl⟩ : ∃ n : Nat, i = -((n : Nat) : Int) := ⟨i.natAbs, by omega⟩
      have hn : 0 < n := by omega
      have f : figs (45 :: numL n) = numL n := rfl
      refine ⟨by rw [tl_neg hn, f]; exact numL_ne n, by rw [tl_neg hn, f]; exact allD.mpr (numL_digits n), ?_⟩
      have z := PySem.intText_neg (x := Str.ofString (toString (-((n : Nat) : Int)))) (cs := numL n) (tl_neg hn) (numL_digits n) (numL_ne n) (by omega)
      rw [numL_val] at z
      exact z
  obtain ⟨h1, h2, h3⟩ := key
  unfold wint
  rw [if_pos ((str_back h1 h2 hl h3).mp rfl), h3]
def wordD (p : Int) (w : Str) : Option (Int × Int) := match Txt.split w "@" with
  | [a, b] => (match wint a, wint b with
    | some c, some o => if 1 ≤ c ∧ c < p then some (o, c) else none
    | _, _ => none)
  | _ => none
def lateB (acc : Tm) (o : Int) : Bool := match acc.getLast? with
  | some z => decide (z.1 < o)
  | none => true
def rdGo (p : Int) : List Str → Tm → Option Tm
  | [], acc => some acc
  | w :: ws, acc => match wordD p w with
    | none => none
    | some t => if lateB acc t.1 = true then rdGo p ws (acc ++ [t]) else none
def partsT (t : Str) : List Str := if t = "0" then [] else Txt.split t "+"
def rd (p : Int) (t : Str) : Option Tm := rdGo p (partsT t) []
def tmsD : Option Tm → D
  | some ts => .lst (ts.map trm)
  | none => .non
def TmOk (p : Int) (ts : Tm) : Prop := (ts.map (·.1)).Pairwise (· < ·) ∧ ∀ t ∈ ts, 0 < t.2 ∧ t.2 < p
theorem TmOk.nil (p : Int) : TmOk p [] := ⟨.nil, fun _ h => nomatch h⟩
theorem TmOk.snoc {p : Int} {ts : Tm} (h : TmOk p ts) {t : Int × Int} (hl : lateB ts t.1 = true) (h1 : 1 ≤ t.2 ∧ t.2 < p) : TmOk p (ts ++ [t]) := by
  refine ⟨?_, fun z hz => ?_⟩
  · rw [List.map_append, List.pairwise_append]
    refine ⟨h.1, List.pairwise_singleton .., fun a ha b hb => ?_⟩
    simp only [List.map_cons, List.map_nil, List.mem_singleton] at hb
    subst hb
    cases e : ts.getLast? with
    | none =>
      rw [List.getLast?_eq_none_iff] at e
      subst e
      exact nomatch ha
    | some z =>
      unfold lateB at hl
      rw [e] at hl
      have hz : z.1 < t.1 := of_decide_eq_true hl
      obtain ⟨l, rfl⟩ := List.getLast?_eq_some_iff.mp e
      have hp := h.1
      rw [List.map_append, List.pairwise_append] at hp
      rw [List.map_append, List.mem_append] at ha
      rcases ha with ha | ha
      · have := hp.2.2 a ha z.1 (by simp)
        omega
      · simp at ha
        omega
  · rcases List.mem_append.mp hz with hz | hz
    · exact h.2 z hz
    · rw [List.mem_singleton.mp hz]
      omega
theorem TmOk.canon {p : Int} (hp : 0 < p) {ts : Tm} (h : TmOk p ts) : canon p ts = ts := by
  have hn : (ts.map (·.1)).Nodup := h.1.imp fun h => by omega
  refine pair_ext (canon_sorted p ts) h.1 fun k v => ?_
  rw [canon_mem hp]
  constructor
  · rintro ⟨e, hv⟩
    rw [csum_get hn] at e
    by_cases c : k ∈ ts.map (·.1)
    · obtain ⟨t, ht, rfl⟩ := List.mem_map.mp c
      rw [getI_mem (v := t.2) hn ht] at e
      have := h.2 t ht
      rw [Int.emod_eq_of_lt (by omega) (by omega)] at e
      rw [e]
      exact ht
    · rw [getI_out c] at e
      simp at e
      omega
  · intro hm
    have := h.2 _ hm
    rw [csum_get hn, getI_mem hn hm, Int.emod_eq_of_lt (by omega) (by omega)]
    exact ⟨rfl, this.1⟩
theorem TmOk.of_can {p : Int} (hp : 0 < p) (x : LP p) : TmOk p (can x) := ⟨can_sorted x, can_small hp x⟩
theorem spl_le (S : List Nat) : ∀ (l : List Nat) (k : Nat) (acc : List Nat), (∀ x ∈ spl S k acc l, x.length ≤ acc.length + l.length) ∧ (spl S k acc l).length ≤ l.length + 1
  | [], k, acc => by
    rw [spl_nil]
    exact ⟨fun x hx => by rw [List.mem_singleton.mp hx]; omega, by simp⟩
  | c :: r, 0, acc => by
    by_cases h : TL.pre S (c :: r) = true
    · rw [spl_hit h]
      obtain ⟨h1, h2⟩ := spl_le S r (S.length - 1) []
      refine ⟨fun x hx => ?_, by simp only [List.length_cons]; omega⟩
      rcases List.mem_cons.mp hx with rfl | hx
      · omega
      · have := h1 x hx
        simp only [List.length_nil, List.length_cons] at this ⊢
        omega
    · rw [spl_miss (by simpa using h)]
      obtain ⟨h1, h2⟩ := spl_le S r 0 (acc ++ [c])
      refine ⟨fun x hx => ?_, by simp only [List.length_cons]; omega⟩
      have := h1 x hx
      simp only [List.length_append, List.length_cons, List.length_nil] at this ⊢
      omega
  | c :: r, k + 1, acc => by
    obtain ⟨h1, h2⟩ := spl_le S r k acc
    show (∀ x ∈ spl S k acc r, _) ∧ (spl S k acc r).length ≤ _
    refine ⟨fun x hx => ?_, by simp only [List.length_cons]; omega⟩
    have := h1 x hx
    simp only [List.length_cons]
    omega
theorem split_le {t y : Str} (hy : TL.tl y ≠ []) (hk : y.cps.all (· < 256) = true) : (∀ w ∈ Txt.split t y, w.length ≤ t.length) ∧ (Txt.split t y).length ≤ t.length + 1 := by
  have e := split_spl t y hy (kind_ok hk)
  obtain ⟨h1, h2⟩ := spl_le (TL.tl y) (TL.tl t) 0 []
  rw [← e] at h1 h2
  rw [List.length_map] at h2
  refine ⟨fun w hw => ?_, by rw [len_tl]; exact h2⟩
  have := h1 (TL.tl w) (List.mem_map.mpr ⟨w, hw, rfl⟩)
  rw [len_tl, len_tl]
  simpa using this
theorem plus_le (t : Str) : (∀ w ∈ Txt.split t "+", w.length ≤ t.length) ∧ (Txt.split t "+").length ≤ t.length + 1 := split_le (by decide) (by decide +kernel)
theorem at_le (t : Str) : (∀ w ∈ Txt.split t "@", w.length ≤ t.length) ∧ (Txt.split t "@").length ≤ t.length + 1 := split_le (by decide) (by decide +kernel)
theorem parts_le (t : Str) : (∀ w ∈ partsT t, w.length ≤ t.length) ∧ (partsT t).length ≤ t.length + 1 := by
  unfold partsT
  split
  · exact ⟨(fun _ h => nomatch h), by rw [List.length_nil]; omega⟩
  · exact plus_le t
def wordT (t : Int × Int) : Str := (Str.ofString (toString t.2) ++ "@") ++ Str.ofString (toString t.1)
def txt (ts : Tm) : Str := if ts = [] then "0" else Txt.join "+" (ts.map wordT)
theorem int_signs (i : Int) : ∀ c ∈ TL.tl (Str.ofString (toString i)), c = 45 ∨ (48 ≤ c ∧ c ≤ 57) := by
  by_cases h : 0 ≤ i
  · obtain ⟨n, rfl⟩ := Int.eq_ofNat_of_zero_le h
    rw [tl_num]
    exact fun c hc => .inr (numL_digits n c hc)
  · obtain ⟨n, rfl⟩ : ∃ n : Nat, i = -((n : Nat) : Int) := ⟨i.natAbs, by omega⟩
    rw [tl_neg (by omega)]
    intro c hc
    rcases List.mem_cons.mp hc with rfl | hc
    · exact .inl rfl
    · exact .inr (numL_digits n c hc)
theorem tl_at : TL.tl ("@" : Str) = [64] := by decide
theorem tl_plus : TL.tl ("+" : Str) = [43] := by decide
theorem tl_word (t : Int × Int) : TL.tl (wordT t) = TL.tl (Str.ofString (toString t.2)) ++ (64 :: TL.tl (Str.ofString (toString t.1))) := by
  unfold wordT
  rw [tl_append, tl_append, tl_at, List.append_assoc]
  rfl
theorem word_split (t : Int × Int) : Txt.split (wordT t) "@" = [Str.ofString (toString t.2), Str.ofString (toString t.1)] := by
  have e : wordT t = Txt.join "@" [Str.ofString (toString t.2), Str.ofString (toString t.1)] := by
    rw [join_eq]
    rfl
  rw [e]
  refine split_join (s := 64) (S := []) tl_at (by decide +kernel) (by simp) fun x hx hm => ?_
  have : ∃ i : Int, x = Str.ofString (toString i) := by
    simp only [List.mem_cons, List.not_mem_nil, or_false] at hx
    rcases hx with rfl | rfl <;> exact ⟨_, rfl⟩
  obtain ⟨i, rfl⟩ := this
  have := int_signs i 64 hm
  omega
def Near (ts : Tm) : Prop := ∀ t ∈ ts, (Str.ofString (toString t.1)).length ≤ 40 ∧ (Str.ofString (toString t.2)).length ≤ 1
theorem wordD_back {p : Int} {t : Int × Int} (h1 : 0 < t.2 ∧ t.2 < p) (h2 : (Str.ofString (toString t.1)).length ≤ 40 ∧ (Str.ofString (toString t.2)).length ≤ 1) : wordD p (wordT t) = some t := by
  unfold wordD
  rw [word_split]
  simp only [wint_back (i := t.2) (by omega), wint_back (i := t.1) (by omega)]
  rw [if_pos (by omega)]
theorem rdGo_back {p : Int} : ∀ (ts acc : Tm), TmOk p (acc ++ ts) → Near ts → rdGo p (ts.map wordT) acc = some (acc ++ ts)
  | [], acc, _, _ => by rw [List.append_nil]; rfl
  | t :: ts, acc, h, hn => by
    have e : acc ++ t :: ts = (acc ++ [t]) ++ ts := by simp
    rw [List.map_cons]
    unfold rdGo
    have ht := h.2 t (by simp)
    rw [wordD_back ht (hn t (List.mem_cons_self ..))]
    dsimp only
    rw [if_pos, rdGo_back ts (acc ++ [t]) (e ▸ h) (fun z hz => hn z (List.mem_cons_of_mem _ hz)), ← e]
    unfold lateB
    cases ea : acc.getLast? with
    | none => rfl
    | some z =>
      dsimp only
      have hp := h.1
      rw [List.map_append, List.pairwise_append] at hp
      exact decide_eq_true (hp.2.2 z.1 (List.mem_map.mpr ⟨z, List.mem_of_getLast? ea, rfl⟩) t.1 (by simp))
theorem txt_parts {ts : Tm} (hne : ts ≠ []) : partsT (txt ts) = ts.map wordT := by
  have key : Txt.split (txt ts) "+" = ts.map wordT := by
    unfold txt
    rw [if_neg hne]
    refine split_join (s := 43) (S := []) tl_plus (by decide +kernel) (by simpa using hne) fun x hx hm => ?_
    obtain ⟨t, _, rfl⟩ := List.mem_map.mp hx
    rw [tl_word, List.mem_append, List.mem_cons] at hm
    rcases hm with hm | hm | hm
    · have := int_signs _ _ hm
      omega
    · omega
    · have := int_signs _ _ hm
      omega
  unfold partsT
  rw [if_neg, key]
  intro z
  rw [z] at key
  have e : Txt.split "0" "+" = ([Str.ofString "0"] : List Str) := by decide +kernel
  rw [e] at key
  cases ts with
  | nil => exact hne rfl
  | cons t ts =>
    rw [List.map_cons] at key
    have k := congrArg TL.tl (List.cons.inj key).1
    rw [tl_word] at k
    have : (64 : Nat) ∈ TL.tl ("0" : Str) := by rw [k]; simp
    exact absurd this (by decide)
theorem rd_txt {p : Int} {ts : Tm} (h : TmOk p ts) (hn : Near ts) : rd p (txt ts) = some ts := by
  unfold rd
  by_cases c : ts = []
  · subst c
    rfl
  · rw [txt_parts c]
    exact rdGo_back ts [] h hn
theorem sjoin_len (y : Str) (m : Nat) : ∀ ps : List Str, (∀ w ∈ ps, w.length ≤ m) → (Str.join y ps).length ≤ ps.length * (m + y.length)
  | [], _ => by show 0 ≤ _; omega
  | [a], h => by
    have := h a (by simp)
    show a.length ≤ 1 * (m + y.length)
    omega
  | a :: b :: r, h => by
    have h1 := h a (by simp)
    have h2 := sjoin_len y m (b :: r) fun w hw => h w (List.mem_cons_of_mem _ hw)
    show (a ++ y ++ Str.join y (b :: r)).length ≤ _
    rw [Str.length_append, Str.length_append, List.length_cons, Nat.succ_mul]
    omega
theorem word_len {t : Int × Int} (h2 : (Str.ofString (toString t.1)).length ≤ 40 ∧ (Str.ofString (toString t.2)).length ≤ 1) : (wordT t).length ≤ 42 := by
  unfold wordT
  rw [Str.length_append, Str.length_append, show ("@" : Str).length = 1 from rfl]
  omega
theorem txt_len {ts : Tm} (hn : Near ts) (hl : ts.length ≤ 8) : (txt ts).length ≤ 344 := by
  unfold txt
  split
  · decide
  · rw [join_eq]
    have := sjoin_len "+" 42 (ts.map wordT) fun w hw => by
      obtain ⟨t, ht, rfl⟩ := List.mem_map.mp hw
      exact word_len (hn t ht)
    rw [List.length_map, show ("+" : Str).length = 1 from rfl] at this
    omega
theorem len_near {i : Int} (h : -(10 ^ 32) < i ∧ i < 10 ^ 32) : (Str.ofString (toString i)).length ≤ 40 := by
  by_cases c : 0 ≤ i
  · obtain ⟨n, rfl⟩ := Int.eq_ofNat_of_zero_le c
    rw [len_tl, tl_num]
    have := numL_len (n := n) (k := 32) (by decide) (by omega)
    omega
  · obtain ⟨n, rfl⟩ : ∃ n : Nat, i = -((n : Nat) : Int) := ⟨i.natAbs, by omega⟩
    rw [len_tl, tl_neg (by omega)]
    have := numL_len (n := n) (k := 32) (by decide) (by omega)
    rw [List.length_cons]
    omega
theorem len_digit {i : Int} (h : 0 ≤ i ∧ i < 10) : (Str.ofString (toString i)).length ≤ 1 := by
  obtain ⟨n, rfl⟩ := Int.eq_ofNat_of_zero_le h.1
  rw [len_tl, tl_num]
  exact numL_len (n := n) (k := 1) (by decide) (by omega)
def F_written_integer : DF := fun _ ds n q _ => ∃ w, ds = [.str w] ∧ w.length ≤ 400 ∧ q (oi (wint w)) n
def Nr (ts : Tm) : Prop := ∀ t ∈ ts, (-(10 ^ 32) < t.1 ∧ t.1 < 10 ^ 32) ∧ 0 < t.2 ∧ t.2 < 10
theorem Nr.near {ts : Tm} (h : Nr ts) : Near ts := fun t ht => ⟨len_near (h t ht).1, len_digit ⟨by have := (h t ht).2; omega, (h t ht).2.2⟩⟩
theorem log_lt {i : Int} (h : -(10 ^ 32) < i ∧ i < 10 ^ 32) : i.natAbs.log2 < 1920 := by
  by_cases c : i.natAbs = 0
  · rw [c]; decide
  · exact (Nat.log2_lt c).mpr (Nat.lt_of_lt_of_le (show i.natAbs < 10 ^ 32 by omega) (by decide +kernel))
theorem Nr.log {ts : Tm} (h : Nr ts) {t : Int × Int} (ht : t ∈ ts) : t.1.natAbs.log2 < 1920 ∧ t.2.natAbs.log2 < 1920 := ⟨log_lt (h t ht).1, log_lt (by have := (h t ht).2; omega)⟩
def F_write_filter : DF := fun _ ds n q _ => ∃ (p : Int) (ts : Tm), ds = [fob p ts] ∧ Nr ts ∧ ts.length ≤ 8 ∧ q (.str (txt ts)) n
def isStr : D → Bool
  | .str _ => true
  | _ => false
def F_read_filter : DF := fun _ ds n q xx => (∃ (p : Int) (t : Str), ds = [.int p, .str t] ∧ isPr p = true ∧ t.length ≤ 400 ∧ match rd p t with
    | some ts => q (fob p ts) n
    | none => xx ("BadText", []) n) ∨ (∃ (p : Int) (d : D), ds = [.int p, d] ∧ isPr p = true ∧ okD d ∧ isStr d = false ∧ xx ("BadText", []) n) ∨ ∃ dp d : D, ds = [dp, d] ∧ okD dp ∧ isPrD dp = false ∧ xx ("BadPrime", [("prime", dp)]) n
theorem tl_cut1 (w : Str) : TL.tl (cutS w none (some 1)) = (TL.tl w).take 1 := by
  show (((w.cps.toList.drop (HT.sIx w.length 0 none)).take (HT.sIx w.length w.length (some 1) - HT.sIx w.length 0 none)).toArray).toList = _
  rw [HT.sIx_none, show (some 1 : Option Int) = some ((1 : Nat) : Int) from rfl, HT.sIx_nat, List.drop_zero, Nat.sub_zero]
  show w.cps.toList.take (min 1 w.length) = _
  rw [len_tl]
  cases e : TL.tl w with
  | nil => rw [show w.cps.toList = [] from e]; rfl
  | cons a l => rw [show w.cps.toList = a :: l from e]; simp
theorem tl_cutd (w : Str) : TL.tl (cutS w (some 1) none) = (TL.tl w).drop 1 := by
  show (((w.cps.toList.drop (HT.sIx w.length 0 (some 1))).take (HT.sIx w.length w.length none - HT.sIx w.length 0 (some 1))).toArray).toList = _
  rw [HT.sIx_none, show (some 1 : Option Int) = some ((1 : Nat) : Int) from rfl, HT.sIx_nat]
  show (w.cps.toList.drop (min 1 w.length)).take (w.length - min 1 w.length) = _
  rw [len_tl]
  cases e : TL.tl w with
  | nil => simp [show w.cps.toList = [] from e]
  | cons a l =>
    rw [show w.cps.toList = a :: l from e]
    simp
def figT (w : Str) : Str := if cutS w none (some 1) = "-" then cutS w (some 1) none else w
theorem tl_figT (w : Str) : TL.tl (figT w) = figs (TL.tl w) := by
  unfold figT figs
  by_cases c : cutS w none (some 1) = "-"
  · have c2 : (TL.tl w).take 1 = [45] := by rw [← tl_cut1, c]; decide
    rw [if_pos c, if_pos c2, tl_cutd]
  · have c2 : ¬ (TL.tl w).take 1 = [45] := fun z => c (ext_tl (by rw [tl_cut1, z]; decide))
    rw [if_neg c, if_neg c2]
theorem figT_le (w : Str) : (figT w).length ≤ w.length := by
  unfold figT
  split
  · exact cutS_length ..
  · exact Nat.le_refl _
theorem dg_in (c : Nat) : decide (c ∈ ("0123456789" : Str).cps.toList) = isDg c := by
  have e : ("0123456789" : Str).cps.toList = [48, 49, 50, 51, 52, 53, 54, 55, 56, 57] := by decide +kernel
  rw [e]
  by_cases h : 48 ≤ c ∧ c ≤ 57
  · have : c = 48 ∨ c = 49 ∨ c = 50 ∨ c = 51 ∨ c = 52 ∨ c = 53 ∨ c = 54 ∨ c = 55 ∨ c = 56 ∨ c = 57 := by omega
    unfold isDg
    rw [decide_eq_true h.1, decide_eq_true h.2]
    rcases this with rfl | rfl | rfl | rfl | rfl | rfl | rfl | rfl | rfl | rfl <;> decide
  · have e1 : isDg c = false := by
      cases q : isDg c with
      | false => rfl
      | true =>
        unfold isDg at q
        rw [Bool.and_eq_true_iff] at q
        exact absurd ⟨of_decide_eq_true q.1, of_decide_eq_true q.2⟩ h
    rw [e1]
    exact decide_eq_false fun z => by simp only [List.mem_cons, List.not_mem_nil, or_false] at z; omega
theorem boolsT {α : Type} (f : α → Bool) : ∀ L : List α, boolsD (L.map fun x => D.bl (f x)) = some (L.map f)
  | [] => rfl
  | a :: L => by rw [List.map_cons, boolsD, boolsT f L]; rfl
theorem dv_lt : ∀ l : List Nat, NumText.AllDigits l → NumText.digitsVal l < 10 ^ l.length := by
  intro l
  refine snoc_ind (P := fun l => NumText.AllDigits l → NumText.digitsVal l < 10 ^ l.length) (fun _ => by decide) (fun l d ih => ?_) l
  intro ha
  have hd := ha d (by simp)
  have := ih fun c hc => ha c (List.mem_append_left _ hc)
  rw [dv_snoc, List.length_append, List.length_singleton, Nat.pow_succ]
  omega
theorem word_log {w : Str} (h1 : figs (TL.tl w) ≠ []) (h2 : (figs (TL.tl w)).all isDg = true) (hl : w.length ≤ 400) : ∃ k, intText? w = some k ∧ k.natAbs.log2 < 1920 := by
  have hb := dv_lt _ (allD.mp h2)
  have hle : (figs (TL.tl w)).length ≤ 400 := by
    have e := tl_figT w
    rw [← e, ← len_tl]
    exact Nat.le_trans (figT_le w) hl
  have h400 : NumText.digitsVal (figs (TL.tl w)) < 2 ^ 1920 := Nat.lt_of_lt_of_le hb (Nat.le_trans (Nat.pow_le_pow_right (by decide) hle) (by decide +kernel))
  have key : ∀ m : Nat, m < 2 ^ 1920 → m.log2 < 1920 := fun m hm => by
    by_cases c : m = 0
    · subst c; decide
    · exact (Nat.log2_lt c).mpr hm
  rcases word_reads h1 h2 hl with ⟨_, r⟩ | ⟨_, r⟩
  · exact ⟨_, r, key _ (by rw [Int.natAbs_natCast]; exact h400)⟩
  · exact ⟨_, r, key _ (by rw [Int.natAbs_neg, Int.natAbs_natCast]; exact h400)⟩
theorem sum_le (m : Nat) : ∀ ps : List Str, (∀ w ∈ ps, w.length ≤ m) → (ps.map (·.length)).sum ≤ ps.length * m
  | [], _ => by simp
  | a :: r, h => by
    have h1 := h a (by simp)
    have h2 := sum_le m r fun w hw => h w (List.mem_cons_of_mem _ hw)
    rw [List.map_cons, List.sum_cons, List.length_cons, Nat.succ_mul]
    omega
theorem csum_out {ts : Tm} {k : Int} (h : k ∉ ts.map (·.1)) : csum ts k = 0 := by
  unfold csum
  rw [List.filter_eq_nil_iff.mpr fun t ht => by simpa using fun e => h (List.mem_map.mpr ⟨t, ht, e⟩)]
  rfl
theorem can_keys {p : Int} (hp : 0 < p) {ts : Tm} {t : Int × Int} (h : t ∈ can (lp p ts)) : t.1 ∈ ts.map (·.1) := by
  rw [can_lp hp] at h
  have := (canon_mem hp ts t.1 t.2).mp h
  by_cases c : t.1 ∈ ts.map (·.1)
  · exact c
  · rw [csum_out c] at this
    simp at this
    omega
theorem ten_reads (k : Nat) (h : k < 28) : ∃ m : Nat, intText? (Str.ofString "1" ++ repS (Str.ofString "0") (1 + (k : Int)).toNat) = some (m : Int) ∧ m < 10 ^ 29 ∧ (Str.ofString "1" ++ repS (Str.ofString "0") (1 + (k : Int)).toNat).length ≤ 29 := by
  have e : TL.tl (Str.ofString "1" ++ repS (Str.ofString "0") (1 + (k : Int)).toNat) = 49 :: List.replicate (1 + k) 48 := by
    rw [tl_append, show TL.tl (Str.ofString "1") = [49] by decide]
    show [49] ++ (repS (Str.ofString "0") (1 + (k : Int)).toNat).cps.toList = _
    rw [repS_list, show (Str.ofString "0").cps.toList = [48] by decide, show (1 + (k : Int)).toNat = 1 + k by omega]
    show 49 :: (List.replicate (1 + k) [48]).flatten = _
    rw [List.flatten_replicate_singleton]
  have ha : NumText.AllDigits (49 :: List.replicate (1 + k) 48) := by
    intro c hc
    rcases List.mem_cons.mp hc with rfl | hc
    · omega
    · rw [List.eq_of_mem_replicate hc]
      omega
  have hl : (Str.ofString "1" ++ repS (Str.ofString "0") (1 + (k : Int)).toNat).length = 2 + k := by
    rw [len_tl, e, List.length_cons, List.length_replicate]
    omega
  have e' : (Str.ofString "1" ++ repS (Str.ofString "0") (1 + (k : Int)).toNat).cps.toList = 49 :: List.replicate (1 + k) 48 := e
  refine ⟨NumText.digitsVal (49 :: List.replicate (1 + k) 48), ?_, ?_, by omega⟩
  · have z := PySem.intText_digits (x := Str.ofString "1" ++ repS (Str.ofString "0") (1 + (k : Int)).toNat) (by rw [e']; exact ha) (by rw [e']; simp) (by omega)
    rw [e'] at z
    exact z
  · have := dv_lt _ ha
    rw [List.length_cons, List.length_replicate] at this
    exact Nat.lt_of_lt_of_le this (Nat.pow_le_pow_right (by decide) (by omega))
theorem isa_ss : isaB "str" (Ty.b "str") = true := by decide +kernel
theorem isa_sn {d : D} {t : Ty} (h : tyD d = some t) (hs : isStr d = false) : isaB "str" t = false := by
  cases d with
  | str x => cases hs
  | non => cases h; decide +kernel
  | bl b => cases h; decide +kernel
  | int i => cases h; decide +kernel
  | lst l => cases h; decide +kernel
  | tup l => cases h; decide +kernel
  | dct l => cases h; decide +kernel
  | rol l => cases h; decide +kernel
  | obj c fs => cases h; rfl
  | hnd a => cases h
  | exc a b c d => cases h
theorem TmOk.fo {p : Int} (hp : 0 < p) {ts : Tm} (h : TmOk p ts) : fob p ts = My.fo (lp p ts) := by
  unfold My.fo
  rw [can_lp hp, h.canon hp]
theorem sh_tms (o : Option Tm) : SeqAt.shaped (pyD (tmsD o)) = true := by
  cases o with
  | none => rfl
  | some ts => exact sh_trms ts
theorem eqv_tms (o : Option Tm) : (pyD (tmsD o)).eqv (pyD (tmsD o)) = true := SeqAt.eqv_refl _ (SeqAt.canLay_of_shaped (sh_tms o))
theorem cut_fst (z : Str) (k : Nat) : (cutS z none (some (k : Int))).length ≤ k := by
  show (((z.cps.toList.drop (HT.sIx z.length 0 none)).take (HT.sIx z.length z.length (some (k : Int)) - HT.sIx z.length 0 none)).toArray).size ≤ k
  rw [HT.sIx_none, HT.sIx_nat, List.size_toArray, List.length_take]
  omega
theorem cut_snd (z : Str) (k : Nat) : (cutS z (some (k : Int)) none).length ≤ z.length - k := by
  show (((z.cps.toList.drop (HT.sIx z.length 0 (some (k : Int)))).take (HT.sIx z.length z.length none - HT.sIx z.length 0 (some (k : Int)))).toArray).size ≤ _
  rw [HT.sIx_none, HT.sIx_nat, List.size_toArray, List.length_take]
  omega
end My

namespace My
open PySem PySem.Spec L2 DL
noncomputable def pk {p : Int} (x : LP p) : D := .lst ((can x).map trm)
def FB__law_clean : DF := fun _ ds n q _ => ∃ (p : Int) (ts : Tm), ds = [.int p, .lst (ts.map trm)] ∧ isPr p = true ∧ ts.length ≤ 9000000 ∧ q (pk (lp p ts)) n
def FB__law_prime : DF := fun W ds n q _ => ∃ s, ds = [.hnd s] ∧ (∃ c, W = sprW s c) ∧ n < 1000000 ∧ ∀ p, isPr p = true → q (.int p) (n + 1)
def FB__law_far_filter : DF := fun W ds n q _ => ∃ (s : Addr) (p : Int), ds = [.hnd s, .int p] ∧ (∃ c, W = sprW s c) ∧ isPr p = true ∧ n < 900000 ∧ ∀ (x : LP p) (n' : Nat), Nr (can x) → (can x).length ≤ 8 → n' ≤ n + 50 → q (pk x) n'
def FB__law_integer : DF := F_written_integer
def FB__law_text : DF := fun _ ds n q _ => ∃ ts : Tm, ds = [.lst (ts.map trm)] ∧ Nr ts ∧ ts.length ≤ 8 ∧ q (.str (txt ts)) n
def FB__law_read : DF := fun _ ds n q _ => ∃ (p : Int) (t : Str), ds = [.int p, .str t] ∧ isPr p = true ∧ t.length ≤ 400 ∧ q (tmsD (rd p t)) n
def FB__law_told : DF := fun _ ds n q _ => (∃ (p : Int) (t : Str), ds = [.int p, .str t] ∧ isPr p = true ∧ t.length ≤ 400 ∧ q (tmsD (rd p t)) n) ∨ (∃ (p : Int) (d : D), ds = [.int p, d] ∧ isPr p = true ∧ okD d ∧ isStr d = false ∧ q .non n) ∨ ∃ dp d : D, ds = [dp, d] ∧ okD dp ∧ isPrD dp = false ∧ q (.str "prime") n
theorem odds_ok {p : Int} (hp : isPr p = true) : ∀ d ∈ ([D.non, D.int 5, D.lst [D.str (Str.ofString "0")], D.dct [], D.bl true, D.str (Str.ofString ""), D.str (Str.ofString "1"), D.str (Str.ofString "@"), D.str (Str.ofString "1@"), D.str (Str.ofString "1@0+"), D.str (Str.ofString "1@1+1@1"), D.str (Str.ofString (toString p) ++ Str.ofString "@0"), D.str (Str.ofString "-1@0"), D.str (Str.ofString "1@-0"), D.str (Str.ofString "1@0 "), D.str (Str.ofString " 0"), D.str (Str.ofString "0@0")] : List D), (∃ t : Str, d = .str t ∧ t.length ≤ 400 ∧ rd p t = none) ∨ (okD d ∧ isStr d = false) := by
  intro d hd
  simp only [List.mem_cons, List.not_mem_nil, or_false] at hd
  rcases isPr_cases hp with rfl | rfl | rfl | rfl <;> (rcases hd with rfl | rfl | rfl | rfl | rfl | rfl | rfl | rfl | rfl | rfl | rfl | rfl | rfl | rfl | rfl | rfl | rfl <;> first | exact .inr ⟨⟨_, rfl, fun c e => nomatch e⟩, rfl⟩ | exact .inl ⟨_, rfl, by decide +kernel, by decide +kernel⟩)
end My

open DL in
local macro_rules | `(tactic| walk_at "d") => `(tactic| simp only [dSplit, dSlS, fIxS, fEqS, fMulT, fIntS, fStrI, dHole, dJs, dFs, dTryA, clsD, noX, dNext, dSeq, dRet, dRetN, dExp, dIfS, dBreak, dCont, dSet, dSetSl, slD, dCallE, endsE, dOwn, dFrz, dApp, dPut, dPut2, dSetIx, dAugIx, dFldSet, dPar, dPar2, dPar3, dPar4, dPar5, slV, slO, dExt, dIns, dSwap, dSetT, dSetR, dItems, dDisp, kv0, kvC, iKy, iIt, iIterO, iMixO, dListO, dLend, dClr, dAppT, dRes, withG, dAppG, dAppGF, dExtG, dPutG, dSetIxG, dFldG, dFldGF, dOG, dGO, dFrzR, dLcF, dRetSl, resG, ownQ, dStep, fDivmod, iEn, iZp, iEnO, iZpO, srcD, dNever, dNeverE, dBinO, dAugO, dEqO, dNeO, dGetO, dNegO, dTruO, dNotO, dRmulO, dLEn, dLZp, dLR2, dLR3, dStarD, iEnK, iZpK, fBoolL, dRetF, dRetO, endsF, fEqDct, dTry, dRaise, dRaise0, dLam, catchD, dLamT, catchT, dEqXT, fRepr, seqLike, fReprX, fEqE, fIsnE, fNil, dMethE, slDG, dLcM, dLcG, dPickM, dJoin, dIndex, dMethS, dLc2, dListS, dListOL, dMethR, gTa, fInS, fLenS, fStr, fSortedS, iStrD, dSetd, dNeX, dOrX, dSetX, dEither, dHeld, dPop, dPop0, dAsg, dFor, dAnd, dOr, dNot, dIf, dAndT, dOrT, dNotT, dTest, bq, bd, dVar, bVar, dC, dOp, fI0, fI, fAdd, fSub, fRepL, fMulS, fMul, fDiv, fMod, fPow, fLt, fLe, fGt, fGe, fEq, fNe, fIs, fIsNot, fIsB, fIn, fInX, isNonD, flatD, seqD, dNil, dCons, dTup, dLst, dEmp, fIx, fDg, keyD, dCB, f1, fLen, lenD, fAbs, fInt, fList, fTuple, fSeqInts, fMin2, fMax2, fSum, fMax, fMin, fSorted, fBools, fAnyI, gN, gs0, gsC, gT, gTn, gTl, iSq, iR1, iR2, iR3, iRB, iRevN, dCall, dMeth, dMake, dMakeV, dCMeth, dCallK, dMethK0, dMethK, dMakeK, dCMethK, sel_nil, sel_cons, List.drop_succ_cons, List.drop_zero, List.take_succ_cons, List.take_zero, dCallO, dCallX, dBoolO, dLenO, dInO, dEqX, dFld, dNeg, dChain, truD, dTru, oNone, oSome, dSl, dSlT, dRev, dGet2, fDin, isD, fDict, opt, endsD, endsI, qI, startD, startI, DEnds.xx, dLc, wipeD, dYes, List.map_cons, List.map_nil, List.length_cons, List.length_nil, List.cons_append, List.nil_append, List.append_nil, List.getElem?_cons_zero, List.getElem?_cons_succ, List.set_cons_zero, List.set_cons_succ, List.replicate_succ, List.replicate_zero, Nat.reduceAdd, Nat.reduceSub, Nat.reduceLT, true_and, and_true, Bool.false_eq_true, if_true, if_false, ite_true, ite_false, My.isa_int_int, My.isa_int_bool, My.isa_int_list, My.isa_int_tuple, My.isa_int_str, My.isa_int_NoneType, My.isa_int_dict, My.isa_int_own, My.isa_bool_int, My.isa_bool_bool, My.isa_bool_list, My.isa_bool_tuple, My.isa_bool_str, My.isa_bool_NoneType, My.isa_bool_dict, My.isa_bool_own, My.isa_list_int, My.isa_list_bool, My.isa_list_list, My.isa_list_tuple, My.isa_list_str, My.isa_list_NoneType, My.isa_list_dict, My.isa_list_own, My.isa_tuple_int, My.isa_tuple_bool, My.isa_tuple_list, My.isa_tuple_tuple, My.isa_tuple_str, My.isa_tuple_NoneType, My.isa_tuple_dict, My.isa_tuple_own, My.ty_int, My.ty_bl, My.ty_str, My.ty_lst, My.ty_rol, My.ty_tup, My.ty_dct, My.ty_non, My.ty_obj, My.own_b, My.own_Filter, My.isOb_Filter, My.mem_Filter, My.isO_Filter_Filter, List.any_cons, List.any_nil, Bool.or_false, Bool.or_true, Bool.false_or, Bool.true_or, Bool.not_true, Bool.not_false, and_self, My.trm, My.ix0, My.ix1, My.get_kvp, My.put_kvp, My.keys_kvp, List.length_map, My.lk1, My.lk2, My.lk3, My.lkT, My.fob, My.fo, My.dk, My.tl, My.sh_int, My.sh_bl, My.eq_int, My.eq_bl])

namespace My
open PySem PySem.Spec L2 DL
theorem sc_is_list : FnScope ["thing"] ["thing"] (defScope (top 10)) := ⟨rfl, rfl, rfl, by decide +kernel, rfl, by decide +kernel, by decide +kernel⟩
section
variable {P : Program} {w : World} {K : PySem.W.Frag} {mg : Str → Option Value} {base : Heap}
theorem ok_is_list (T : Top K mg) : Sg P w K mg base "is_list" 1 1 F_is_list [] := by
  obtain ⟨fd, FD⟩ := T.d_is_list
  refine ⟨_, fd, ["thing"], [], [], ?_, T.g_is_list, FD.kp, FD.bindsN (fun _ _ _ _ _ _ us hl => match us, hl with | [_], _ => rfl), .nil, fun _ => .nil⟩
  refine ok_def FD sc_is_list rfl ?_
  rintro X E W ds n q xx ⟨cdv, A, outer, s, H, rfl⟩ hr tk pso hl hF
  have hu := hr.units
  have hu1 := hu_of hr
  refine ⟨_, (pss_oneD (ps_retD (pd_isiT T.tyf (T.kt_list_tuple) (by rfl) T.f_isinstance (pa_cons (pe_bltn (v := .ty "list") (by rfl) T.f_list (by decide +kernel) rfl) (pa_cons (pe_bltn (v := .ty "tuple") (by rfl) T.f_tuple (by decide +kernel) rfl) pa_nil)) (fun _ _ _ h => h) (.cons (.ty "list") (.cons (.ty "tuple") .nil)) (by decide) (pb_var 0)))), ?_⟩
  clear hr tk pso hl hu hu1
  match ds, hF with
  | [d], hF =>
    obtain ⟨⟨t, e, hc⟩, hq⟩ := hF
    walk_at "d"
    rw [e]
    refine ⟨hc, ?_⟩
    cases d <;> cases e <;> simpa [isLst, isaB] using hq
end

end My

namespace My
open PySem PySem.Spec L2 DL
theorem sc_is_integer : FnScope ["thing"] ["thing"] (defScope (top 9)) := ⟨rfl, rfl, rfl, by decide +kernel, rfl, by decide +kernel, by decide +kernel⟩
section
variable {P : Program} {w : World} {K : PySem.W.Frag} {mg : Str → Option Value} {base : Heap}
theorem ok_is_integer (T : Top K mg) : Sg P w K mg base "is_integer" 1 1 F_is_integer [] := by
  obtain ⟨fd, FD⟩ := T.d_is_integer
  refine ⟨_, fd, ["thing"], [], [], ?_, T.g_is_integer, FD.kp, FD.bindsN (fun _ _ _ _ _ _ us hl => match us, hl with | [_], _ => rfl), .nil, fun _ => .nil⟩
  refine ok_def FD sc_is_integer rfl ?_
  rintro X E W ds n q xx ⟨cdv, A, outer, s, H, rfl⟩ hr tk pso hl hF
  have hu := hr.units
  have hu1 := hu_of hr
  refine ⟨_, (pss_oneD (ps_retD (pd_and (pd_isiB T.tyf (T.kb_int) (by rfl) T.f_isinstance (by rfl) T.f_int (by decide +kernel) (pb_var 0)) (pd_one (pd_not (pd_isiB T.tyf (T.kb_bool) (by rfl) T.f_isinstance (by rfl) T.f_bool (by decide +kernel) (pb_var 0))))))), ?_⟩
  clear hr tk pso hl hu hu1
  match ds, hF with
  | [d], hF =>
    obtain ⟨⟨t, e, hc⟩, hq⟩ := hF
    walk_at "d"
    rw [e]
    refine ⟨hc, ?_⟩
    cases d <;> cases e <;> simpa [isInt, isaB] using hq
end

end My

namespace My
open PySem PySem.Spec L2 DL
theorem sc_is_prime : FnScope ["thing"] ["thing"] (defScope (top 11)) := ⟨rfl, rfl, rfl, by decide +kernel, rfl, by decide +kernel, by decide +kernel⟩
section
variable {P : Program} {w : World} {K : PySem.W.Frag} {mg : Str → Option Value} {base : Heap}
theorem ok_is_prime (T : Top K mg) : Sg P w K mg base "is_prime" 2 1 FG_is_prime [] := by
  obtain ⟨fd, FD⟩ := T.d_is_prime
  refine ⟨_, fd, ["thing"], [], [], ?_, T.g_is_prime, FD.kp, FD.bindsN (fun _ _ _ _ _ _ us hl => match us, hl with | [_], _ => rfl), .nil, fun _ => .nil⟩
  refine ok_def FD sc_is_prime rfl ?_
  rintro X E W ds n q xx ⟨cdv, A, outer, s, H, rfl⟩ hr tk pso hl hF
  have hu := hr.units
  have hu1 := hu_of hr
  refine ⟨_, (pss_oneD (ps_retD (pd_and (pd_call (ok_is_integer T) (hr.mono (by decide)) tk (by rfl) (pad_cons (pd_var 0) pad_nil)) (pd_one (pd_in (pb_var 0) (PD.pb (pd_globR (by rfl) T.g_PRIMES (T.c_PRIMES)))))))), ?_⟩
  clear hr tk pso hl hu hu1
  match ds, hF with
  | [d], hF =>
    obtain ⟨hd, hq⟩ := hF
    walk_at "d"
    refine ⟨hd, ?_⟩
    cases d with
    | int p =>
      refine ⟨rfl, rfl, ?_⟩
      have e : isPr p = (eqD (D.int 2) (D.int p) || (eqD (D.int 3) (D.int p) || (eqD (D.int 5) (D.int p) || eqD (D.int 7) (D.int p)))) := by
        rw [Bool.eq_iff_iff]
        simp only [isPr, eqD, List.contains_cons, List.contains_nil, Bool.or_false, Bool.or_eq_true, beq_iff_eq]
        omega
      rw [← e]
      exact hq
    | _ => exact hq
end

end My

namespace My
open PySem PySem.Spec L2 DL
theorem sc_is_term : FnScope ["thing"] ["thing"] (defScope (top 21)) := ⟨rfl, rfl, rfl, by decide +kernel, rfl, by decide +kernel, by decide +kernel⟩
section
variable {P : Program} {w : World} {K : PySem.W.Frag} {mg : Str → Option Value} {base : Heap}
theorem ok_is_term (T : Top K mg) : Sg P w K mg base "is_term" 2 1 FG_is_term [] := by
  obtain ⟨fd, FD⟩ := T.d_is_term
  refine ⟨_, fd, ["thing"], [], [], ?_, T.g_is_term, FD.kp, FD.bindsN (fun _ _ _ _ _ _ us hl => match us, hl with | [_], _ => rfl), .nil, fun _ => .nil⟩
  refine ok_def FD sc_is_term rfl ?_
  rintro X E W ds n q xx ⟨cdv, A, outer, s, H, rfl⟩ hr tk pso hl hF
  have hu := hr.units
  have hu1 := hu_of hr
  refine ⟨_, (pss_oneD (ps_retD (pd_and (pd_call (ok_is_list T) (hr.mono (by decide)) tk (by rfl) (pad_cons (pd_var 0) pad_nil)) (pd_and (pd_eq hu (PD.pb (pd_callB call_lenD2 dcall_len (by rfl) T.f_len (by decide +kernel) (pab_cons (pb_var 0) pab_nil))) (PD.pb pd_int)) (pd_and (pd_call (ok_is_integer T) (hr.mono (by decide)) tk (by rfl) (pad_cons (pd_ix (pb_var 0) (PD.pb pd_int)) pad_nil)) (pd_one (pd_call (ok_is_integer T) (hr.mono (by decide)) tk (by rfl) (pad_cons (pd_ix (pb_var 0) (PD.pb pd_int)) pad_nil)))))))), ?_⟩
  clear hr tk pso hl hu hu1
  match ds, hF with
  | [d], hF =>
    obtain ⟨⟨hd, hl⟩, hq⟩ := hF
    walk_at "d"
    refine ⟨hd, ?_⟩
    cases hs : seqD d with
    | none =>
      rw [isLst_no hs]
      have e : trmB d = false := by unfold trmB; rw [hs]
      rw [e] at hq
      exact hq
    | some l =>
      rw [isLst_sqT hs]
      obtain ⟨hl1, hl2⟩ := hl l hs
      have no : l.length ≠ 2 → trmB d = false := fun h => by
        unfold trmB
        rw [hs]
        match l, h with
        | [], _ => rfl
        | [a], _ => rfl
        | [a, b], h => exact absurd rfl h
        | a :: b :: c :: l, _ => rfl
      by_cases h2 : l.length = 2
      · match l, h2, hl2 with
        | [a, b], _, hl2 =>
          have e : trmB d = (isInt a && isInt b) := by unfold trmB; rw [hs]
          rw [e] at hq
          have oa := hl2 a (by simp)
          have ob := hl2 b (by simp)
          rcases sq_cases hs with rfl | rfl | rfl
          all_goals
            walk_at "d"
            refine ⟨oa, ?_⟩
            cases ha : isInt a with
            | false => rw [ha] at hq; exact hq
            | true =>
              rw [ha] at hq
              exact ⟨ob, hq⟩
      · rw [no h2] at hq
        rcases sq_cases hs with rfl | rfl | rfl
        all_goals
          walk_at "d"
          rw [eqv_int, decide_eq_false (show ¬ (l.length : Int) = 2 by omega), if_neg (by decide)]
          exact hq
end

end My

namespace My
open PySem PySem.Spec L2 DL
theorem sc_Filter___init__ : FnScope ["self", "prime", "terms", "sums", "index", "term", "offsets", "offset"] ["self", "prime", "terms"] (defScope (inClass (top 23) 0)) := ⟨rfl, rfl, rfl, by decide +kernel, rfl, by decide +kernel, by decide +kernel⟩
section
variable {P : Program} {w : World} {K : PySem.W.Frag} {mg : Str → Option Value} {base : Heap}
theorem init_loop {E : DEnds} {L : Nat} (hL : L = 2) {p : Int} (hp : 0 < p) (o t : Option Sl) (rest : List D) (Z : List (D × (Int × Int))) : ∀ (m : Tm) (i : Nat) (x y : Option Sl) (n : Nat), m.length + Z.length < 10000000 → (∀ z ∈ Z, PrD z.2 z.1) →
    (∀ x y, forD (gTn L (gsC (gN 4) (gsC (gN 5) gs0))) (dSeq (dIfS (dNotT (dTest (dCall 1 FG_is_term [] (dCons (dVar 5) dNil)))) (dRaise (Str.ofString "BadTerm") (Str.ofString "index") (dCons (dVar 4) dNil)) dNext) (dPut 3 (dOp fIx (bVar 5) (dC (.int 0))) (dOp fMod (dOp fAdd (dGet2 (bVar 3) (dOp fIx (bVar 5) (dC (.int 0))) (dC (.int 0))) (dOp fIx (bVar 5) (dC (.int 1)))) (bVar 1)))) (enumF (i + Z.length) rest) E [o, some (.val (.int p)), t, some (.own (.dct (((Z.map (·.2)).foldl (hstep p) m).map kvp))), x, y, none, none] n) →
    forD (gTn L (gsC (gN 4) (gsC (gN 5) gs0))) (dSeq (dIfS (dNotT (dTest (dCall 1 FG_is_term [] (dCons (dVar 5) dNil)))) (dRaise (Str.ofString "BadTerm") (Str.ofString "index") (dCons (dVar 4) dNil)) dNext) (dPut 3 (dOp fIx (bVar 5) (dC (.int 0))) (dOp fMod (dOp fAdd (dGet2 (bVar 3) (dOp fIx (bVar 5) (dC (.int 0))) (dC (.int 0))) (dOp fIx (bVar 5) (dC (.int 1)))) (bVar 1)))) (enumF i (Z.map (·.1) ++ rest)) E [o, some (.val (.int p)), t, some (.own (.dct (m.map kvp))), x, y, none, none] n := by
  subst hL
  induction Z with
  | nil => intro m i x y n _ _ h; exact h x y
  | cons a Z ih =>
    intro m i x y n hl hZ h
    obtain ⟨d, t1, t2⟩ := a
    have h0 : PrD (t1, t2) d := hZ _ (List.mem_cons_self ..)
    rw [List.map_cons, List.cons_append, enumF, forD_cons]
    have key : ∀ K : Prop, (0 < p → (m.length < 16777216) → K) → K := fun K k => k hp (by rw [List.length_cons] at hl; omega)
    walk_at "d"
    refine ⟨h0.ok, ?_⟩
    rw [h0.b]
    rcases sq_cases h0 with rfl | rfl | rfl
    all_goals
      walk_at "d"
      rw [List.length_cons] at hl
      refine ⟨hp, by omega, ?_⟩
      refine ih _ _ _ _ _ ?_ (fun z hz => hZ z (List.mem_cons_of_mem _ hz)) fun x y => ?_
      · have := putI_length m t1 ((getI m t1 + t2) % p)
        omega
      · have := h x y
        rw [List.length_cons, show i + (Z.length + 1) = i + 1 + Z.length by omega] at this
        exact this
theorem ok_Filter___init__ (T : Top K mg) : Ig P w K mg base "Filter" 3 3 FG_Filter___init__ [] := by
  obtain ⟨fd, FD⟩ := T.d_Filter___init__
  obtain ⟨ds0, rv, hb⟩ := FD.binds1 (ps := ["self", "prime", "terms"]) 3 1 (by intro z; cases z) rfl (fun T kV doc pm an cdv ct us its h1 h2 => match us, h1, its, h2 with | [_, _, _], _, [_], _ => ⟨_, rfl, rfl⟩)
  cases rv
  refine ⟨T.g_Filter, _, fd, ["self", "prime", "terms"], [], [], ?_, T.mk_Filter, hb, .nil, fun _ => .nil⟩
  refine ok_init FD sc_Filter___init__ rfl ?_
  rintro X E W ds n q xx ⟨cdv, A, outer, s, H, rfl⟩ hr tk pso hl hF
  have hu := hr.units
  have hu1 := hu_of hr
  refine ⟨_, (pss_consD (ps_ifD (ptd_not (pt_valD (PD.pb (pd_call (ok_is_prime T) (hr.mono (by decide)) tk (by rfl) (pad_cons (pd_var 1) pad_nil))))) (pss_oneD (ps_raiseD (xg_BadPrime T) (hr.mono (by decide)) rfl tk (by rfl) (pad_cons (pd_var 1) pad_nil))) pss_nilD)
      (pss_consD (ps_ifD (ptd_not (pt_valD (PD.pb (pd_call (ok_is_list T) (hr.mono (by decide)) tk (by rfl) (pad_cons (pd_var 2) pad_nil))))) (pss_oneD (ps_raiseD (xg_BadTerm T) (hr.mono (by decide)) rfl tk (by rfl) (pad_cons pd_int pad_nil))) pss_nilD)
      (pss_consD (ps_ownD 3 pf_dct0 sc_Filter___init__.nd)
      (pss_consD (ps_forD pso rfl (pid_enumK (by rfl) T.f_enumerate (pad_cons (pd_var 2) pad_nil)) (pgd_tup (m := 2) rfl (pgsd_cons (pgd_name 4 sc_Filter___init__.nd) (pgsd_cons (pgd_name 5 sc_Filter___init__.nd) pgsd_nil))) (pss_consD (ps_ifD (ptd_not (pt_valD (PD.pb (pd_call (ok_is_term T) (hr.mono (by decide)) tk (by rfl) (pad_cons (pd_var 5) pad_nil))))) (pss_oneD (ps_raiseD (xg_BadTerm T) (hr.mono (by decide)) rfl tk (by rfl) (pad_cons (pd_var 4) pad_nil))) pss_nilD)
      (pss_oneD (ps_putD 3 hu1 (PD.pb (pd_ix (pb_var 5) (PD.pb pd_int))) (pd_mod (PD.pb (pd_add (PD.pb (pd_get2 hu1 (pb_var 3) (PD.pb (pd_ix (pb_var 5) (PD.pb pd_int))) pd_int)) (PD.pb (pd_ix (pb_var 5) (PD.pb pd_int))))) (pb_var 1))))))
      (pss_frz 3 (pss_consD (ps_setD 6 (pd_callB cr_sortedI dcall_sorted (by rfl) T.f_sorted (by decide +kernel) (pab_cons (PD.pb (PF.pd (pf_lc [("offset", 7)] rfl sc_Filter___init__.nd (pid_keys (pd_var 3)) (blkOk_by (own := [("offset", 7)]) (N := ["self", "prime", "terms", "sums", "index", "term", "offsets", "offset"]) (sc := defScope (inClass (top 23) 0)) (by decide +kernel)) (fun _ _ _ _ _ => (pgd_name 7 sc_Filter___init__.nd)) (fun _ _ _ _ _ => ptsD_nil) (fun _ _ _ _ _ => (pd_callTy call_int1 dcall_int (by rfl) T.f_int (by decide +kernel) (pab_cons (pb_var 7) pab_nil)))))) pab_nil)) sc_Filter___init__.nd)
      (pss_consD (ps_fldD 0 (T.fld_Filter_prime _ (List.mem_singleton_self _)).1 (T.fld_Filter_prime _ (List.mem_singleton_self _)).2 (pd_var 1))
      (pss_consD (ps_fldD 0 (T.fld_Filter_kept _ (List.mem_singleton_self _)).1 (T.fld_Filter_kept _ (List.mem_singleton_self _)).2 (PF.pd (pf_lc [("offset", 7)] rfl sc_Filter___init__.nd (pid_seq (pd_var 6)) (blkOk_by (own := [("offset", 7)]) (N := ["self", "prime", "terms", "sums", "index", "term", "offsets", "offset"]) (sc := defScope (inClass (top 23) 0)) (by decide +kernel)) (fun _ _ _ _ _ => (pgd_name 7 sc_Filter___init__.nd)) (fun _ _ _ _ _ => (ptsD_one (pt_gt (PD.pb (pd_dg hu1 (pb_var 3) (pb_var 7))) (PD.pb pd_int)))) (fun _ _ _ _ _ => (pd_tup (pad_cons (pd_var 7) (pad_cons (pd_dg hu1 (pb_var 3) (pb_var 7)) pad_nil)))))))
      (pss_oneD (ps_fldD 0 (T.fld_Filter_held _ (List.mem_singleton_self _)).1 (T.fld_Filter_held _ (List.mem_singleton_self _)).2 (PF.pd (pf_dictP rfl (by rfl) T.f_dict (pad_cons (pd_fld ["Filter"] T.fld_Filter_kept (pb_var 0)) pad_nil))))))))))))), ?_⟩
  clear hr tk pso hl hu hu1
  rcases hF with ⟨p, d, Z, rfl, hsq, hZ, hp, hl, hq⟩ | ⟨dp, d, rfl, hF⟩
  · have hp0 := isPr_pos hp
    have ll : (Z.map (·.2)).length = Z.length := List.length_map ..
    rcases sq_cases hsq with rfl | rfl | rfl
    all_goals (
      walk_at "d"
      refine ⟨ok_int _, ?_⟩
      simp only [isPrD, bq, hp, F_is_list]
      refine if_run (fun z => absurd z (by decide)) (fun _ => ⟨⟨_, rfl, fun c e => (nomatch e)⟩, if_run (fun z => (nomatch (show false = true from z))) (fun _ => ?_)⟩)
      rw [enumD_eq, show Z.map (·.1) = Z.map (·.1) ++ [] from (List.append_nil _).symm]
      refine init_loop rfl hp0.1 _ _ [] Z [] 0 _ _ n (by rw [List.length_nil]; omega) hZ fun x y => ?_
      walk_at "d"
      rw [enumF, forD_nil]
      obtain ⟨ts, hts⟩ : ∃ ts, ts = Z.map (·.2) := ⟨_, rfl⟩
      rw [← hts] at ll hq ⊢
      have hl' : ts.length < 8000000 := by omega
      have eh : List.foldl (hstep p) [] ts = hsum p ts := rfl
      rw [eh]
      have hlen := hsum_length p ts
      walk_at "d"
      refine lcD_map some _ _ _ (fun d hd K h => ?_) (by simp; omega) ?_
      · obtain ⟨k, _, rfl⟩ := List.mem_map.mp hd
        walk_at "d"
        exact h
      rw [fm_some, List.nil_append, intsD_map]
      intro ms hperm hsort
      obtain rfl := srt_of hperm hsort
      refine ⟨by show 1 < 1000; decide, ?_⟩
      refine lcD_map (keepF (hsum p ts)) _ _ _ (fun d hd K h => ?_) ?_ ?_
      · obtain ⟨k, hk, rfl⟩ := List.mem_map.mp hd
        walk_at "d"
        rw [get_kvp' (hsum_key hk)]
        walk_at "d"
        simp only [keepF] at h
        by_cases c : 0 < getI (hsum p ts) k
        · simp only [c, decide_true, if_true] at h ⊢
          exact ⟨by decide, h⟩
        · simp only [c, decide_false] at h ⊢
          exact h
      · rw [List.length_map, List.length_nil, (srt_perm _).length_eq, List.length_map]
        omega
      · rw [List.nil_append, keepF_eq]
        refine ⟨by show 2 < 1000; decide, ?_⟩
        rw [lk_kept]
        simp only []
        rw [pairs_trm]
        show q (setF "held" (.dct (mergeD [] ((canon p ts).map kvp))) (setF "kept" (.lst ((canon p ts).map trm)) (setF "prime" (.int p) []))) n
        rw [merge_kvp0 (canon_nodup p ts)]
        exact hq)
  · refine dSeq_at fun R1 hR1 => ?_
    walk_at "d"
    have opd : okD dp := by
      rcases hF with ⟨h, _⟩ | ⟨h, _⟩ | ⟨_, _, _, h, _⟩
      · exact h
      · cases dp with
        | int i => exact ok_int i
        | _ => cases h
      · cases dp with
        | int i => exact ok_int i
        | _ => cases h
    refine ⟨opd, ?_⟩
    dsimp only [bq]
    rcases hF with ⟨_, h1, hx⟩ | hF
    · rw [h1]
      exact hx
    have hpr : isPrD dp = true := by
      rcases hF with ⟨h1, _⟩ | ⟨_, _, _, h1, _⟩
      · exact h1
      · exact h1
    rw [hpr, if_neg (by decide)]
    obtain ⟨p, rfl, hp⟩ : ∃ p, dp = .int p ∧ isPr p = true := by
      cases dp with
      | int i => exact ⟨i, rfl, hpr⟩
      | _ => cases hpr
    have hp0 := isPr_pos hp
    subst hR1
    refine dSeq_at fun R1 hR1 => ?_
    walk_at "d"
    rcases hF with ⟨_, od, hn, hx⟩ | ⟨Z, b, r, _, hsq, hZ, hl, ob, hb, hx⟩
    · refine ⟨od, ?_⟩
      dsimp only [bq]
      rw [isLst_no hn]
      exact hx
    refine ⟨okD_seq hsq, ?_⟩
    dsimp only [bq]
    rw [isLst_sqT hsq]
    refine if_run (fun z => absurd z (by decide)) (fun _ => ?_)
    subst hR1
    rcases sq_cases hsq with rfl | rfl | rfl
    all_goals
      walk_at "d"
      rw [enumD_eq]
      refine init_loop rfl hp0.1 _ _ (b :: r) Z [] 0 _ _ n (by rw [List.length_nil]; omega) hZ fun x y => ?_
      rw [enumF, forD_cons, Nat.zero_add]
      walk_at "d"
      refine ⟨ob, ?_⟩
      rw [hb]
      exact hx
theorem ok_Filter___init___d1 (T : Top K mg) : Ig P w K mg base "Filter" 3 3 FG_Filter___init__ [.tup []] := by
  obtain ⟨fd, FD⟩ := T.d_Filter___init__
  obtain ⟨ds0, rv, hb⟩ := FD.binds1 (ps := ["self", "prime", "terms"]) 2 0 (by intro z; cases z) rfl (fun T kV doc pm an cdv ct us its h1 h2 => match us, h1, its, h2 with | [_, _], _, [_], _ => ⟨_, rfl, rfl⟩)
  refine ⟨T.g_Filter, _, fd, ["self", "prime", "terms"], ds0, _, ?_, T.mk_Filter, hb, rv, fun G => .cons (T.dfl_Filter___init__ G) .nil⟩
  refine ok_init FD sc_Filter___init__ rfl ?_
  rintro X E W ds n q xx ⟨cdv, A, outer, s, H, rfl⟩ hr tk pso hl hF
  have hu := hr.units
  have hu1 := hu_of hr
  refine ⟨_, (pss_consD (ps_ifD (ptd_not (pt_valD (PD.pb (pd_call (ok_is_prime T) (hr.mono (by decide)) tk (by rfl) (pad_cons (pd_var 1) pad_nil))))) (pss_oneD (ps_raiseD (xg_BadPrime T) (hr.mono (by decide)) rfl tk (by rfl) (pad_cons (pd_var 1) pad_nil))) pss_nilD)
      (pss_consD (ps_ifD (ptd_not (pt_valD (PD.pb (pd_call (ok_is_list T) (hr.mono (by decide)) tk (by rfl) (pad_cons (pd_var 2) pad_nil))))) (pss_oneD (ps_raiseD (xg_BadTerm T) (hr.mono (by decide)) rfl tk (by rfl) (pad_cons pd_int pad_nil))) pss_nilD)
      (pss_consD (ps_ownD 3 pf_dct0 sc_Filter___init__.nd)
      (pss_consD (ps_forD pso rfl (pid_enumK (by rfl) T.f_enumerate (pad_cons (pd_var 2) pad_nil)) (pgd_tup (m := 2) rfl (pgsd_cons (pgd_name 4 sc_Filter___init__.nd) (pgsd_cons (pgd_name 5 sc_Filter___init__.nd) pgsd_nil))) (pss_consD (ps_ifD (ptd_not (pt_valD (PD.pb (pd_call (ok_is_term T) (hr.mono (by decide)) tk (by rfl) (pad_cons (pd_var 5) pad_nil))))) (pss_oneD (ps_raiseD (xg_BadTerm T) (hr.mono (by decide)) rfl tk (by rfl) (pad_cons (pd_var 4) pad_nil))) pss_nilD)
      (pss_oneD (ps_putD 3 hu1 (PD.pb (pd_ix (pb_var 5) (PD.pb pd_int))) (pd_mod (PD.pb (pd_add (PD.pb (pd_get2 hu1 (pb_var 3) (PD.pb (pd_ix (pb_var 5) (PD.pb pd_int))) pd_int)) (PD.pb (pd_ix (pb_var 5) (PD.pb pd_int))))) (pb_var 1))))))
      (pss_frz 3 (pss_consD (ps_setD 6 (pd_callB cr_sortedI dcall_sorted (by rfl) T.f_sorted (by decide +kernel) (pab_cons (PD.pb (PF.pd (pf_lc [("offset", 7)] rfl sc_Filter___init__.nd (pid_keys (pd_var 3)) (blkOk_by (own := [("offset", 7)]) (N := ["self", "prime", "terms", "sums", "index", "term", "offsets", "offset"]) (sc := defScope (inClass (top 23) 0)) (by decide +kernel)) (fun _ _ _ _ _ => (pgd_name 7 sc_Filter___init__.nd)) (fun _ _ _ _ _ => ptsD_nil) (fun _ _ _ _ _ => (pd_callTy call_int1 dcall_int (by rfl) T.f_int (by decide +kernel) (pab_cons (pb_var 7) pab_nil)))))) pab_nil)) sc_Filter___init__.nd)
      (pss_consD (ps_fldD 0 (T.fld_Filter_prime _ (List.mem_singleton_self _)).1 (T.fld_Filter_prime _ (List.mem_singleton_self _)).2 (pd_var 1))
      (pss_consD (ps_fldD 0 (T.fld_Filter_kept _ (List.mem_singleton_self _)).1 (T.fld_Filter_kept _ (List.mem_singleton_self _)).2 (PF.pd (pf_lc [("offset", 7)] rfl sc_Filter___init__.nd (pid_seq (pd_var 6)) (blkOk_by (own := [("offset", 7)]) (N := ["self", "prime", "terms", "sums", "index", "term", "offsets", "offset"]) (sc := defScope (inClass (top 23) 0)) (by decide +kernel)) (fun _ _ _ _ _ => (pgd_name 7 sc_Filter___init__.nd)) (fun _ _ _ _ _ => (ptsD_one (pt_gt (PD.pb (pd_dg hu1 (pb_var 3) (pb_var 7))) (PD.pb pd_int)))) (fun _ _ _ _ _ => (pd_tup (pad_cons (pd_var 7) (pad_cons (pd_dg hu1 (pb_var 3) (pb_var 7)) pad_nil)))))))
      (pss_oneD (ps_fldD 0 (T.fld_Filter_held _ (List.mem_singleton_self _)).1 (T.fld_Filter_held _ (List.mem_singleton_self _)).2 (PF.pd (pf_dictP rfl (by rfl) T.f_dict (pad_cons (pd_fld ["Filter"] T.fld_Filter_kept (pb_var 0)) pad_nil))))))))))))), ?_⟩
  clear hr tk pso hl hu hu1
  rcases hF with ⟨p, d, Z, rfl, hsq, hZ, hp, hl, hq⟩ | ⟨dp, d, rfl, hF⟩
  · have hp0 := isPr_pos hp
    have ll : (Z.map (·.2)).length = Z.length := List.length_map ..
    rcases sq_cases hsq with rfl | rfl | rfl
    all_goals (
      walk_at "d"
      refine ⟨ok_int _, ?_⟩
      simp only [isPrD, bq, hp, F_is_list]
      refine if_run (fun z => absurd z (by decide)) (fun _ => ⟨⟨_, rfl, fun c e => (nomatch e)⟩, if_run (fun z => (nomatch (show false = true from z))) (fun _ => ?_)⟩)
      rw [enumD_eq, show Z.map (·.1) = Z.map (·.1) ++ [] from (List.append_nil _).symm]
      refine init_loop rfl hp0.1 _ _ [] Z [] 0 _ _ n (by rw [List.length_nil]; omega) hZ fun x y => ?_
      walk_at "d"
      rw [enumF, forD_nil]
      obtain ⟨ts, hts⟩ : ∃ ts, ts = Z.map (·.2) := ⟨_, rfl⟩
      rw [← hts] at ll hq ⊢
      have hl' : ts.length < 8000000 := by omega
      have eh : List.foldl (hstep p) [] ts = hsum p ts := rfl
      rw [eh]
      have hlen := hsum_length p ts
      walk_at "d"
      refine lcD_map some _ _ _ (fun d hd K h => ?_) (by simp; omega) ?_
      · obtain ⟨k, _, rfl⟩ := List.mem_map.mp hd
        walk_at "d"
        exact h
      rw [fm_some, List.nil_append, intsD_map]
      intro ms hperm hsort
      obtain rfl := srt_of hperm hsort
      refine ⟨by show 1 < 1000; decide, ?_⟩
      refine lcD_map (keepF (hsum p ts)) _ _ _ (fun d hd K h => ?_) ?_ ?_
      · obtain ⟨k, hk, rfl⟩ := List.mem_map.mp hd
        walk_at "d"
        rw [get_kvp' (hsum_key hk)]
        walk_at "d"
        simp only [keepF] at h
        by_cases c : 0 < getI (hsum p ts) k
        · simp only [c, decide_true, if_true] at h ⊢
          exact ⟨by decide, h⟩
        · simp only [c, decide_false] at h ⊢
          exact h
      · rw [List.length_map, List.length_nil, (srt_perm _).length_eq, List.length_map]
        omega
      · rw [List.nil_append, keepF_eq]
        refine ⟨by show 2 < 1000; decide, ?_⟩
        rw [lk_kept]
        simp only []
        rw [pairs_trm]
        show q (setF "held" (.dct (mergeD [] ((canon p ts).map kvp))) (setF "kept" (.lst ((canon p ts).map trm)) (setF "prime" (.int p) []))) n
        rw [merge_kvp0 (canon_nodup p ts)]
        exact hq)
  · refine dSeq_at fun R1 hR1 => ?_
    walk_at "d"
    have opd : okD dp := by
      rcases hF with ⟨h, _⟩ | ⟨h, _⟩ | ⟨_, _, _, h, _⟩
      · exact h
      · cases dp with
        | int i => exact ok_int i
        | _ => cases h
      · cases dp with
        | int i => exact ok_int i
        | _ => cases h
    refine ⟨opd, ?_⟩
    dsimp only [bq]
    rcases hF with ⟨_, h1, hx⟩ | hF
    · rw [h1]
      exact hx
    have hpr : isPrD dp = true := by
      rcases hF with ⟨h1, _⟩ | ⟨_, _, _, h1, _⟩
      · exact h1
      · exact h1
    rw [hpr, if_neg (by decide)]
    obtain ⟨p, rfl, hp⟩ : ∃ p, dp = .int p ∧ isPr p = true := by
      cases dp with
      | int i => exact ⟨i, rfl, hpr⟩
      | _ => cases hpr
    have hp0 := isPr_pos hp
    subst hR1
    refine dSeq_at fun R1 hR1 => ?_
    walk_at "d"
    rcases hF with ⟨_, od, hn, hx⟩ | ⟨Z, b, r, _, hsq, hZ, hl, ob, hb, hx⟩
    · refine ⟨od, ?_⟩
      dsimp only [bq]
      rw [isLst_no hn]
      exact hx
    refine ⟨okD_seq hsq, ?_⟩
    dsimp only [bq]
    rw [isLst_sqT hsq]
    refine if_run (fun z => absurd z (by decide)) (fun _ => ?_)
    subst hR1
    rcases sq_cases hsq with rfl | rfl | rfl
    all_goals
      walk_at "d"
      rw [enumD_eq]
      refine init_loop rfl hp0.1 _ _ (b :: r) Z [] 0 _ _ n (by rw [List.length_nil]; omega) hZ fun x y => ?_
      rw [enumF, forD_cons, Nat.zero_add]
      walk_at "d"
      refine ⟨ob, ?_⟩
      rw [hb]
      exact hx
end

end My

namespace My
open PySem PySem.Spec L2 DL
theorem sc__law_clean : FnScope ["_law_p", "_law_pairs", "_law_sums", "_law_offset", "_law_coefficient", "_law_key"] ["_law_p", "_law_pairs"] (defScope (top 34)) := ⟨rfl, rfl, rfl, by decide +kernel, rfl, by decide +kernel, by decide +kernel⟩
section
variable {P : Program} {w : World} {K : PySem.W.Frag} {mg : Str → Option Value} {base : Heap}
theorem clean_loop {E : DEnds} {L : Nat} (hL : L = 2) {p : Int} (hp : 0 < p) (o z : Option Sl) (ts : Tm) : ∀ (m : Tm) (x y : Option Sl) (n : Nat), m.length + ts.length < 10000000 → (∀ x y, E.nx [some (.val (.int p)), o, some (.own (.dct ((ts.foldl (hstep p) m).map kvp))), x, y, z] n) →
    forD (gTn L (gsC (gN 3) (gsC (gN 4) gs0))) (dPut 2 (bVar 3) (dOp fMod (dCB fInt (dCons (dOp fAdd (dGet2 (bVar 2) (bVar 3) (dC (.int 0))) (bVar 4)) dNil)) (bVar 0))) (ts.map trm) E [some (.val (.int p)), o, some (.own (.dct (m.map kvp))), x, y, z] n := by
  subst hL
  induction ts with
  | nil => intro m x y n _ h; exact h x y
  | cons a ts ih =>
    intro m x y n hl h
    rw [List.map_cons, forD_cons]
    walk_at "d"
    rw [List.length_cons] at hl
    refine ⟨hp, by omega, ?_⟩
    refine ih _ _ _ _ ?_ h
    have := putI_length m a.1 ((getI m a.1 + a.2) % p)
    omega
theorem ok__law_clean (T : Top K mg) : Sg P w K mg base "_law_clean" 1 2 FB__law_clean [] := by
  obtain ⟨fd, FD⟩ := T.d__law_clean
  refine ⟨_, fd, ["_law_p", "_law_pairs"], [], [], ?_, T.g__law_clean, FD.kp, FD.bindsN (fun _ _ _ _ _ _ us hl => match us, hl with | [_, _], _ => rfl), .nil, fun _ => .nil⟩
  refine ok_def FD sc__law_clean rfl ?_
  rintro X E W ds n q xx ⟨cdv, A, outer, s, H, rfl⟩ hr tk pso hl hF
  have hu := hr.units
  have hu1 := hu_of hr
  refine ⟨_, (pss_consD (ps_ownD 2 pf_dct0 sc__law_clean.nd)
      (pss_consD (ps_forD pso rfl (pid_seq (pd_var 1)) (pgd_tup (m := 2) rfl (pgsd_cons (pgd_name 3 sc__law_clean.nd) (pgsd_cons (pgd_name 4 sc__law_clean.nd) pgsd_nil))) (pss_oneD (ps_putD 2 hu1 (pb_var 3) (pd_mod (PD.pb (pd_callTy call_int1 dcall_int (by rfl) T.f_int (by decide +kernel) (pab_cons (PD.pb (pd_add (PD.pb (pd_get2 hu1 (pb_var 2) (pb_var 3) pd_int)) (pb_var 4))) pab_nil))) (pb_var 0)))))
      (pss_frz 2 (pss_oneD (ps_retD (PF.pd (pf_lc [("_law_offset", 3)] rfl sc__law_clean.nd (pid_seq (pd_callB cr_sortedI dcall_sorted (by rfl) T.f_sorted (by decide +kernel) (pab_cons (PD.pb (PF.pd (pf_lc [("_law_key", 5)] rfl sc__law_clean.nd (pid_keys (pd_var 2)) (blkOk_by (own := [("_law_key", 5)]) (N := ["_law_p", "_law_pairs", "_law_sums", "_law_offset", "_law_coefficient", "_law_key"]) (sc := defScope (top 34)) (by decide +kernel)) (fun _ _ _ _ _ => (pgd_name 5 sc__law_clean.nd)) (fun _ _ _ _ _ => ptsD_nil) (fun _ _ _ _ _ => (pd_callTy call_int1 dcall_int (by rfl) T.f_int (by decide +kernel) (pab_cons (pb_var 5) pab_nil)))))) pab_nil))) (blkOk_by (own := [("_law_offset", 3)]) (N := ["_law_p", "_law_pairs", "_law_sums", "_law_offset", "_law_coefficient", "_law_key"]) (sc := defScope (top 34)) (by decide +kernel)) (fun _ _ _ _ _ => (pgd_name 3 sc__law_clean.nd)) (fun _ _ _ _ _ => (ptsD_one (pt_gt (PD.pb (pd_dg hu1 (pb_var 2) (pb_var 3))) (PD.pb pd_int)))) (fun _ _ _ _ _ => (pd_tup (pad_cons (pd_var 3) (pad_cons (pd_dg hu1 (pb_var 2) (pb_var 3)) pad_nil))))))))))), ?_⟩
  clear hr tk pso hl hu hu1
  obtain ⟨p, ts, rfl, hp, hl, hq⟩ := hF
  have hp0 := isPr_pos hp
  walk_at "d"
  refine clean_loop rfl hp0.1 _ _ ts [] _ _ n (by rw [List.length_nil]; omega) fun x y => ?_
  walk_at "d"
  have eh : List.foldl (hstep p) [] ts = hsum p ts := rfl
  rw [eh]
  have hlen := hsum_length p ts
  refine lcD_map some _ _ _ (fun d hd K h => ?_) (by simp; omega) ?_
  · obtain ⟨k, _, rfl⟩ := List.mem_map.mp hd
    walk_at "d"
    exact h
  rw [fm_some, List.nil_append, intsD_map]
  intro ms hperm hsort
  obtain rfl := srt_of hperm hsort
  refine lcD_map (keepF (hsum p ts)) _ _ _ (fun d hd K h => ?_) ?_ ?_
  · obtain ⟨k, hk, rfl⟩ := List.mem_map.mp hd
    walk_at "d"
    rw [get_kvp' (hsum_key hk)]
    walk_at "d"
    simp only [keepF] at h
    by_cases c : 0 < getI (hsum p ts) k
    · simp only [c, decide_true, if_true] at h ⊢
      exact ⟨by decide, h⟩
    · simp only [c, decide_false] at h ⊢
      exact h
  · rw [List.length_map, List.length_nil, (srt_perm _).length_eq, List.length_map]
    omega
  · rw [List.nil_append, keepF_eq]
    unfold pk at hq
    rw [can_lp hp0.1] at hq
    exact hq
end

end My

namespace My
open PySem PySem.Spec L2 DL
theorem sc__law_far_filter : FnScope ["_law_box_here", "_law_p", "_law_pairs", "_law_k", "_law_offset"] ["_law_box_here", "_law_p"] (defScope (top 37)) := ⟨rfl, rfl, rfl, by decide +kernel, rfl, by decide +kernel, by decide +kernel⟩
section
variable {P : Program} {w : World} {K : PySem.W.Frag} {mg : Str → Option Value} {base : Heap}
theorem ok__law_far_filter (T : Top K mg) : Sg P w K mg base "_law_far_filter" 2 2 FB__law_far_filter [] := by
  obtain ⟨fd, FD⟩ := T.d__law_far_filter
  refine ⟨_, fd, ["_law_box_here", "_law_p"], [], [], ?_, T.g__law_far_filter, FD.kp, FD.bindsN (fun _ _ _ _ _ _ us hl => match us, hl with | [_, _], _ => rfl), .nil, fun _ => .nil⟩
  refine ok_def FD sc__law_far_filter rfl ?_
  rintro X E W ds n q xx ⟨cdv, A, outer, s, H, rfl⟩ hr tk pso hl hF
  have hu := hr.units
  have hu1 := hu_of hr
  refine ⟨_, (pss_consD (ps_ownD 2 (pf_lst pad_nil) sc__law_far_filter.nd)
      (pss_consD (ps_forD pso rfl (pid_r1 (by rfl) T.f_range (pab_cons (PD.pb (pd_call (ok__law_take T) (hr.mono (by decide)) tk (by rfl) (pad_cons (pd_var 0) (pad_cons pd_int pad_nil)))) pab_nil)) (pgd_name 3 sc__law_far_filter.nd) (pss_consD (ps_setD 4 (pd_sub (PD.pb (pd_call (ok__law_take T) (hr.mono (by decide)) tk (by rfl) (pad_cons (pd_var 0) (pad_cons pd_int pad_nil)))) (PD.pb pd_int)) sc__law_far_filter.nd)
      (pss_consD (ps_ifD (pt_eq hu (PD.pb (pd_call (ok__law_take T) (hr.mono (by decide)) tk (by rfl) (pad_cons (pd_var 0) (pad_cons pd_int pad_nil)))) (PD.pb pd_int)) (pss_oneD (ps_setD 4 (pd_add (PD.pb (pd_mul (pb_var 4) (PD.pb (pd_callTy call_int_str dcall_intS (by rfl) T.f_int (by decide +kernel) (pab_cons (PD.pb (pd_add (PD.pb pd_str) (PD.pb (pd_mulT (PD.pb pd_str) (PD.pb (pd_add (PD.pb pd_int) (PD.pb (pd_call (ok__law_take T) (hr.mono (by decide)) tk (by rfl) (pad_cons (pd_var 0) (pad_cons pd_int pad_nil)))))))))) pab_nil))))) (PD.pb (pd_call (ok__law_take T) (hr.mono (by decide)) tk (by rfl) (pad_cons (pd_var 0) (pad_cons pd_int pad_nil))))) sc__law_far_filter.nd)) pss_nilD)
      (pss_oneD (ps_appD 2 (pd_tup (pad_cons (pd_var 4) (pad_cons (pd_add (PD.pb pd_int) (PD.pb (pd_call (ok__law_take T) (hr.mono (by decide)) tk (by rfl) (pad_cons (pd_var 0) (pad_cons (pd_sub (pb_var 1) (PD.pb pd_int)) pad_nil))))) pad_nil))))))))
      (pss_frz 2 (pss_oneD (ps_retD (pd_call (ok__law_clean T) (hr.mono (by decide)) tk (by rfl) (pad_cons (pd_var 1) (pad_cons (pd_var 2) pad_nil)))))))), ?_⟩
  clear hr tk pso hl hu hu1
  obtain ⟨s0, p, rfl, hW, hp, hn, hq⟩ := hF
  have hp0 := isPr_pos hp
  have p2 : 2 ≤ p := by rcases isPr_cases hp with rfl | rfl | rfl | rfl <;> decide
  walk_at "d"
  refine ⟨by decide, hW, by decide, by decide, by omega, fun j hj => ?_⟩
  walk_at "d"
  rw [Int.toNat_natCast, rngD_map]
  refine ⟨by omega, ?_⟩
  refine forD_pre (List.range j) (fun pr ρ n2 => ∃ (ts : Tm) (y3 y4 : Option Sl), n2 ≤ n + 1 + 5 * pr.length ∧ ts.length = pr.length ∧ (∀ t ∈ ts, -(10 ^ 32) < t.1 ∧ t.1 < 10 ^ 32) ∧ ρ = [some (.val (.hnd s0)), some (.val (.int p)), some (.own (.lst (ts.map trm))), y3, y4]) (fun pr i po e2 ρ n2 K2 hI hK2 => ?_) (fun ρ n2 hI => ?_) ⟨[], _, _, by simp, rfl, (fun t h => nomatch h), rfl⟩
  · obtain ⟨ts, y3, y4, h0, h1, h2, rfl⟩ := hI
    have hlt : pr.length < j := by have := congrArg List.length e2; rw [List.length_range, List.length_append, List.length_cons] at this; omega
    have fin : ∀ (o : Int) (y3 y4 : Option Sl) (n3 : Nat) (c : Int), -(10 ^ 32) < o → o < 10 ^ 32 → n3 ≤ n2 + 5 → K2 [some (.val (.hnd s0)), some (.val (.int p)), some (.own (.lst (ts.map trm ++ [.tup [.int o, .int c]]))), y3, y4] n3 := fun o y3 y4 n3 c b1 b2 hn3 => by
      refine hK2 _ _ ⟨ts ++ [(o, c)], y3, y4, by rw [List.length_append, List.length_singleton]; omega, by rw [List.length_append, List.length_append, h1]; rfl, ?_, ?_⟩
      · intro t ht
        rcases List.mem_append.mp ht with ht | ht
        · exact h2 t ht
        · rw [List.mem_singleton.mp ht]
          exact ⟨b1, b2⟩
      · rw [List.map_append]
        rfl
    walk_at "d"
    refine ⟨hW, by decide, by decide, by omega, fun u hu => ?_⟩
    refine ⟨hW, by decide, by decide, by omega, fun c hc => ?_⟩
    have ne1 : 0 < (Str.ofString "0").length := by decide
    show SeqAt.shaped (pyD (.int (c : Int))) = true ∧ _
    refine ⟨rfl, if_run (fun hc0 => ?_) fun hc0 => ?_⟩
    · refine ⟨hW, by decide, by decide, by omega, fun v hv => ?_⟩
      dsimp only
      obtain ⟨m, e1, e2, e3⟩ := ten_reads v (by omega)
      rw [e1]
      dsimp only
      have l1 : (repS (Str.ofString "0") (1 + (v : Int)).toNat).length ≤ 29 := by
        rw [Str.length_append] at e3
        omega
      refine ⟨⟨ne1, by omega, by omega, ?_⟩, ?_, by omega, .inl (.inl ⟨by omega, by omega⟩), hW, by decide, by decide, by omega, fun w hw => ?_⟩
      · rw [show (Str.ofString "0").length = 1 from rfl]
        omega
      · rw [show (Str.ofString "1").length = 1 from rfl]
        omega
      have b1 : -(10 ^ 32) < ((u : Int) - 12) * (m : Int) + (w : Int) ∧ ((u : Int) - 12) * (m : Int) + (w : Int) < 10 ^ 32 := by
        have u1 : -12 ≤ (u : Int) - 12 := by omega
        have u2 : (u : Int) - 12 ≤ 12 := by omega
        have m0 : (0 : Int) ≤ (m : Int) := by omega
        have m1 := Int.mul_le_mul_of_nonneg_right u1 m0
        have m2 := Int.mul_le_mul_of_nonneg_right u2 m0
        omega
      refine ⟨hW, by omega, by omega, by omega, fun x hx => ?_⟩
      dsimp only
      exact ⟨by decide, by omega, fin _ _ _ _ _ b1.1 b1.2 (by omega)⟩
    · refine ⟨hW, by omega, by omega, by omega, fun x hx => ?_⟩
      dsimp only
      exact ⟨by decide, by omega, fin _ _ _ _ _ (by omega) (by omega) (by omega)⟩
  · obtain ⟨ts, y3, y4, h0, h1, h2, rfl⟩ := hI
    rw [List.length_range] at h1 h0
    walk_at "d"
    refine ⟨p, ts, rfl, hp, by omega, hq _ _ (fun t ht => ?_) ?_ (by omega)⟩
    · obtain ⟨z, hz, e⟩ := List.mem_map.mp (can_keys hp0.1 ht)
      have := can_small hp0.1 _ t ht
      rw [← e]
      exact ⟨h2 z hz, this.1, by omega⟩
    · rw [can_lp hp0.1]
      have := canon_length p ts
      omega
end

end My

namespace My
open PySem PySem.Spec L2 DL
theorem sc__law_pick : FnScope ["_law_box_here", "_law_things"] ["_law_box_here", "_law_things"] (defScope (top 33)) := ⟨rfl, rfl, rfl, by decide +kernel, rfl, by decide +kernel, by decide +kernel⟩
section
variable {P : Program} {w : World} {K : PySem.W.Frag} {mg : Str → Option Value} {base : Heap}
theorem ok__law_pick (T : Top K mg) : Sg P w K mg base "_law_pick" 2 2 F__law_pick [] := by
  obtain ⟨fd, FD⟩ := T.d__law_pick
  refine ⟨_, fd, ["_law_box_here", "_law_things"], [], [], ?_, T.g__law_pick, FD.kp, FD.bindsN (fun _ _ _ _ _ _ us hl => match us, hl with | [_, _], _ => rfl), .nil, fun _ => .nil⟩
  refine ok_def FD sc__law_pick rfl ?_
  rintro X E W ds n q xx ⟨cdv, A, outer, s, H, rfl⟩ hr tk pso hl hF
  have hu := hr.units
  have hu1 := hu_of hr
  refine ⟨_, (pss_oneD (ps_retD (pd_ix (pb_var 1) (PD.pb (pd_call (ok__law_take T) (hr.mono (by decide)) tk (by rfl) (pad_cons (pd_var 0) (pad_cons (pd_callB call_lenD2 dcall_len (by rfl) T.f_len (by decide +kernel) (pab_cons (pb_var 1) pab_nil)) pad_nil))))))), ?_⟩
  clear hr tk pso hl hu hu1
  match ds, hF with
  | [.hnd s, .lst es], hF =>
    obtain ⟨hW, h0, h1, h2, hq⟩ := hF
    walk_at "d"
    refine ⟨hW, by omega, by omega, h2, fun k hk => ?_⟩
    have hk' : k < es.length := by omega
    have e : atI es (k : Int) = some es[k] := atI_nat (List.getElem?_eq_getElem hk')
    show (match atI es (k : Int) with | some d => q d (n + 1) | none => False)
    rw [e]
    exact hq _ (List.getElem_mem hk')
end

end My

namespace My
open PySem PySem.Spec L2 DL
theorem sc__law_prime : FnScope ["_law_box_here"] ["_law_box_here"] (defScope (top 35)) := ⟨rfl, rfl, rfl, by decide +kernel, rfl, by decide +kernel, by decide +kernel⟩
section
variable {P : Program} {w : World} {K : PySem.W.Frag} {mg : Str → Option Value} {base : Heap}
theorem ok__law_prime (T : Top K mg) : Sg P w K mg base "_law_prime" 2 1 FB__law_prime [] := by
  obtain ⟨fd, FD⟩ := T.d__law_prime
  refine ⟨_, fd, ["_law_box_here"], [], [], ?_, T.g__law_prime, FD.kp, FD.bindsN (fun _ _ _ _ _ _ us hl => match us, hl with | [_], _ => rfl), .nil, fun _ => .nil⟩
  refine ok_def FD sc__law_prime rfl ?_
  rintro X E W ds n q xx ⟨cdv, A, outer, s, H, rfl⟩ hr tk pso hl hF
  have hu := hr.units
  have hu1 := hu_of hr
  refine ⟨_, (pss_oneD (ps_retD (pd_ix (PD.pb (PF.pd (pf_lst (pad_cons pd_int (pad_cons pd_int (pad_cons pd_int (pad_cons pd_int pad_nil))))))) (PD.pb (pd_call (ok__law_take T) (hr.mono (by decide)) tk (by rfl) (pad_cons (pd_var 0) (pad_cons pd_int pad_nil))))))), ?_⟩
  clear hr tk pso hl hu hu1
  obtain ⟨s, rfl, hW, hn, hq⟩ := hF
  walk_at "d"
  refine ⟨by decide, hW, by decide, by decide, hn, fun k hk => ?_⟩
  have h4 : k < 4 := by omega
  match k, h4 with
  | 0, _ => exact hq 2 (by decide)
  | 1, _ => exact hq 3 (by decide)
  | 2, _ => exact hq 5 (by decide)
  | 3, _ => exact hq 7 (by decide)
end

end My

namespace My
open PySem PySem.Spec L2 DL
theorem sc__law_integer : FnScope ["_law_word", "_law_figures", "_law_sign"] ["_law_word"] (defScope (top 38)) := ⟨rfl, rfl, rfl, by decide +kernel, rfl, by decide +kernel, by decide +kernel⟩
section
variable {P : Program} {w : World} {K : PySem.W.Frag} {mg : Str → Option Value} {base : Heap}
theorem ok__law_integer (T : Top K mg) : Sg P w K mg base "_law_integer" 1 1 FB__law_integer [] := by
  obtain ⟨fd, FD⟩ := T.d__law_integer
  refine ⟨_, fd, ["_law_word"], [], [], ?_, T.g__law_integer, FD.kp, FD.bindsN (fun _ _ _ _ _ _ us hl => match us, hl with | [_], _ => rfl), .nil, fun _ => .nil⟩
  refine ok_def FD sc__law_integer rfl ?_
  rintro X E W ds n q xx ⟨cdv, A, outer, s, H, rfl⟩ hr tk pso hl hF
  have hu := hr.units
  have hu1 := hu_of hr
  refine ⟨_, (pss_consD (ps_setD 1 (pd_if (pt_eqS (PD.pb (pd_slS (pd_var 0) pdo_none (pdo_some (PD.pb pd_int)))) (PD.pb pd_str)) (pd_slS (pd_var 0) (pdo_some (PD.pb pd_int)) pdo_none) (pd_var 0)) sc__law_integer.nd)
      (pss_consD (ps_ifD (PWD.pt (pwd_or (pt_eqS (pb_var 1) (PD.pb pd_str)) (pwd_or1 (ptd_not (pt_valD (PD.pb (pd_callB (cr_all rfl) dcall_all (by rfl) T.f_all (by decide +kernel) (pab_cons (PD.pb (PF.pd (pf_lc [("_law_sign", 2)] rfl sc__law_integer.nd (pid_str (pd_var 1)) (blkOk_by (own := [("_law_sign", 2)]) (N := ["_law_word", "_law_figures", "_law_sign"]) (sc := defScope (top 38)) (by decide +kernel)) (fun _ _ _ _ _ => (pgd_name 2 sc__law_integer.nd)) (fun _ _ _ _ _ => ptsD_nil) (fun _ _ _ _ _ => (pd_inS (pb_var 2) (PD.pb pd_str)))))) pab_nil)))))))) (pss_oneD (ps_retD pd_non)) pss_nilD)
      (pss_oneD (ps_retD (pd_if (pt_eqS (PD.pb (pd_callTy call_str_int dcall_strI (by rfl) T.f_str (by decide +kernel) (pab_cons (PD.pb (pd_callTy call_int_str dcall_intS (by rfl) T.f_int (by decide +kernel) (pab_cons (pb_var 0) pab_nil))) pab_nil))) (pb_var 0)) (pd_callTy call_int_str dcall_intS (by rfl) T.f_int (by decide +kernel) (pab_cons (pb_var 0) pab_nil)) pd_non))))), ?_⟩
  clear hr tk pso hl hu hu1
  obtain ⟨w, rfl, hl, hq⟩ := hF
  walk_at "d"
  refine ⟨by omega, if_run (fun c => ?_) fun c => ?_⟩
  · have c : cutS w none (some 1) = Str.ofString "-" := of_decide_eq_true c
    have hf : TL.tl (cutS w (some 1) none) = figs (TL.tl w) := by
      have := tl_figT w
      unfold figT at this
      rw [if_pos c] at this
      exact this
    have hz : ((cutS w (some 1) none)).length ≤ 400 := Nat.le_trans (cutS_length ..) hl
    have hz2 := TL.len_tl (cutS w (some 1) none)
    refine ⟨by omega, ?_⟩
    refine if_run (fun a1 => ?_) fun a1 => ?_
    · have a1 : (cutS w (some 1) none) = Str.ofString "" := of_decide_eq_true a1
      have he : figs (TL.tl w) = [] := by
        rw [← hf, a1]
        decide
      have e : wint w = none := if_neg fun z => z.1 he
      rw [e] at hq
      exact hq
    · have a1 : ¬ (cutS w (some 1) none) = Str.ofString "" := of_decide_eq_false a1
      have hne : figs (TL.tl w) ≠ [] := by
        rw [← hf]
        exact fun e => a1 (TL.ext_tl (by rw [e]; decide))
      unfold chrs
      refine lcD_all (fun c => D.str ⟨#[c]⟩) (fun c => D.bl (isDg c)) _ _ (fun c hc K h => ?_) (by show ((cutS w (some 1) none)).length < _; omega) ?_
      · walk_at "d"
        rw [dg_in]
        exact h
      rw [boolsT]
      dsimp only
      refine if_run (fun a3 => ?_) fun a3 => ?_
      · have a3 : (figs (TL.tl w)).all isDg = false := by
          rw [← hf]
          have e := a3
          rw [List.all_map] at e
          exact (Bool.not_eq_true' _).mp e
        have e : wint w = none := if_neg fun z => by rw [z.2.1] at a3; cases a3
        rw [e] at hq
        exact hq
      have a3 : (figs (TL.tl w)).all isDg = true := by
        rw [← hf]
        have e := a3
        rw [List.all_map] at e
        exact (Bool.not_eq_false' _).mp e
      obtain ⟨k, ek, hk⟩ : ∃ k, PySem.intText? w = some k ∧ k.natAbs.log2 < 1920 := word_log hne a3 hl
      rw [ek]
      dsimp only
      have iff := str_back hne a3 hl ek
      refine ⟨by omega, hk, if_run (fun a4 => ?_) fun a4 => ?_⟩
      · have z := iff.mp (of_decide_eq_true a4)
        have e : wint w = some k := by unfold wint; rw [if_pos z, ek]
        rw [e] at hq
        exact ⟨by omega, hq⟩
      · have z : ¬ WOk (TL.tl w) := fun z => of_decide_eq_false a4 (iff.mpr z)
        have e : wint w = none := if_neg z
        rw [e] at hq
        exact hq
  · have c : ¬ cutS w none (some 1) = Str.ofString "-" := of_decide_eq_false c
    have hf : TL.tl w = figs (TL.tl w) := by
      have := tl_figT w
      unfold figT at this
      rw [if_neg c] at this
      exact this
    have hz : (w).length ≤ 400 := hl
    have hz2 := TL.len_tl w
    skip
    refine if_run (fun a1 => ?_) fun a1 => ?_
    · have a1 : w = Str.ofString "" := of_decide_eq_true a1
      have he : figs (TL.tl w) = [] := by
        rw [← hf, a1]
        decide
      have e : wint w = none := if_neg fun z => z.1 he
      rw [e] at hq
      exact hq
    · have a1 : ¬ w = Str.ofString "" := of_decide_eq_false a1
      have hne : figs (TL.tl w) ≠ [] := by
        rw [← hf]
        exact fun e => a1 (TL.ext_tl (by rw [e]; decide))
      unfold chrs
      refine lcD_all (fun c => D.str ⟨#[c]⟩) (fun c => D.bl (isDg c)) _ _ (fun c hc K h => ?_) (by show (w).length < _; omega) ?_
      · walk_at "d"
        rw [dg_in]
        exact h
      rw [boolsT]
      dsimp only
      refine if_run (fun a3 => ?_) fun a3 => ?_
      · have a3 : (figs (TL.tl w)).all isDg = false := by
          rw [← hf]
          have e := a3
          rw [List.all_map] at e
          exact (Bool.not_eq_true' _).mp e
        have e : wint w = none := if_neg fun z => by rw [z.2.1] at a3; cases a3
        rw [e] at hq
        exact hq
      have a3 : (figs (TL.tl w)).all isDg = true := by
        rw [← hf]
        have e := a3
        rw [List.all_map] at e
        exact (Bool.not_eq_false' _).mp e
      obtain ⟨k, ek, hk⟩ : ∃ k, PySem.intText? w = some k ∧ k.natAbs.log2 < 1920 := word_log hne a3 hl
      rw [ek]
      dsimp only
      have iff := str_back hne a3 hl ek
      refine ⟨by omega, hk, if_run (fun a4 => ?_) fun a4 => ?_⟩
      · have z := iff.mp (of_decide_eq_true a4)
        have e : wint w = some k := by unfold wint; rw [if_pos z, ek]
        rw [e] at hq
        exact ⟨by omega, hq⟩
      · have z : ¬ WOk (TL.tl w) := fun z => of_decide_eq_false a4 (iff.mpr z)
        have e : wint w = none := if_neg z
        rw [e] at hq
        exact hq
end

end My

namespace My
open PySem PySem.Spec L2 DL
theorem sc__law_read : FnScope ["_law_p", "_law_text_here", "_law_pairs", "_law_part", "_law_words", "_law_word"] ["_law_p", "_law_text_here"] (defScope (top 39)) := ⟨rfl, rfl, rfl, by decide +kernel, rfl, by decide +kernel, by decide +kernel⟩
section
variable {P : Program} {w : World} {K : PySem.W.Frag} {mg : Str → Option Value} {base : Heap}
theorem ok__law_read (T : Top K mg) : Sg P w K mg base "_law_read" 2 2 FB__law_read [] := by
  obtain ⟨fd, FD⟩ := T.d__law_read
  refine ⟨_, fd, ["_law_p", "_law_text_here"], [], [], ?_, T.g__law_read, FD.kp, FD.bindsN (fun _ _ _ _ _ _ us hl => match us, hl with | [_, _], _ => rfl), .nil, fun _ => .nil⟩
  refine ok_def FD sc__law_read rfl ?_
  rintro X E W ds n q xx ⟨cdv, A, outer, s, H, rfl⟩ hr tk pso hl hF
  have hu := hr.units
  have hu1 := hu_of hr
  refine ⟨_, (pss_consD (ps_ownD 2 (pf_lst pad_nil) sc__law_read.nd)
      (pss_consD (ps_forD pso rfl (pid_seq (pd_if (pt_neS (pb_var 1) (PD.pb pd_str)) (PF.pd (pf_split (pd_var 1) pd_str)) (PF.pd (pf_lst pad_nil)))) (pgd_name 3 sc__law_read.nd) (pss_consD (ps_setLcD 4 [("_law_word", 5)] rfl sc__law_read.nd (pid_seq (PF.pd (pf_split (pd_var 3) pd_str))) (blkOk_by (own := [("_law_word", 5)]) (N := ["_law_p", "_law_text_here", "_law_pairs", "_law_part", "_law_words", "_law_word"]) (sc := defScope (top 39)) (by decide +kernel)) (fun _ _ _ _ _ => (pgd_name 5 sc__law_read.nd)) (fun _ _ _ _ _ => ptsD_nil) (fun _ _ _ _ _ => (pd_call (ok__law_integer T) (hr.mono (by decide)) DL.takes0 (by rfl) (pad_cons (pd_var 5) pad_nil))))
      (pss_consD (ps_ifD (PWD.pt (pwd_or (pt_ne hu (PD.pb (pd_callB call_lenD2 dcall_len (by rfl) T.f_len (by decide +kernel) (pab_cons (pb_var 4) pab_nil))) (PD.pb pd_int)) (pwd_or (pt_in (PD.pb pd_non) (pb_var 4)) (pwd_or1 (ptd_not (pt_leLt (PD.pb pd_int) (PD.pb (pd_ix (pb_var 4) (PD.pb pd_int))) (pb_var 0))))))) (pss_oneD (ps_retD pd_non)) pss_nilD)
      (pss_consD (ps_ifD (PWD.pt (pwd_and (pt_neNil hu (pb_var 2) (PD.pb (PF.pd (pf_lst pad_nil)))) (pwd_and1 (pt_ge (PD.pb (pd_ix (PD.pb (pd_ix (pb_var 2) (PD.pb (pd_neg (PD.pb pd_int))))) (PD.pb pd_int))) (PD.pb (pd_ix (pb_var 4) (PD.pb pd_int))))))) (pss_oneD (ps_retD pd_non)) pss_nilD)
      (pss_oneD (ps_appD 2 (pd_tup (pad_cons (pd_ix (pb_var 4) (PD.pb pd_int)) (pad_cons (pd_ix (pb_var 4) (PD.pb pd_int)) pad_nil)))))))))
      (pss_frz 2 (pss_oneD (ps_retD (pd_var 2)))))), ?_⟩
  clear hr tk pso hl hu hu1
  obtain ⟨p, t, rfl, hp, hl, hq⟩ := hF
  have hpl := parts_le t
  walk_at "d"
  refine ⟨by decide, if_run (fun c0 => ?_) fun c0 => ?_⟩
  · have c0 : ¬ t = Str.ofString "0" := of_decide_eq_false (by simpa using c0)
    have ep : partsT t = Txt.split t (Str.ofString "+") := if_neg c0
    refine ⟨⟨by decide, by omega⟩, ?_⟩
    rw [ep] at hpl
    refine forD_pre (Txt.split t (Str.ofString "+")) (fun pr ρ n2 => ∃ (acc : Tm) (rest : List Str) (y3 y4 y5 : Option Sl), n2 = n ∧ Txt.split t (Str.ofString "+") = pr ++ rest ∧ rd p t = rdGo p rest acc ∧ acc.length = pr.length ∧ ρ = [some (.val (.int p)), some (.val (.str t)), some (.own (.lst (acc.map trm))), y3, y4, y5]) (fun pr w po e2 ρ n2 K2 hI hK2 => ?_) (fun ρ n2 hI => ?_) ⟨[], Txt.split t (Str.ofString "+"), _, _, _, rfl, rfl, by unfold rd; rw [ep], rfl, rfl⟩
    · obtain ⟨acc, rest, y3, y4, y5, rfl, h1, h2, h3, rfl⟩ := hI
      have hr : rest = w :: po := List.append_cancel_left (h1.symm.trans e2)
      subst hr
      have hw : w.length ≤ t.length := hpl.1 w (by rw [e2]; simp)
      have hlen : pr.length < 500 := by
        have := congrArg List.length e2
        rw [List.length_append, List.length_cons] at this
        omega
      walk_at "d"
      refine ⟨⟨by decide, by omega⟩, ?_⟩
      have ha := at_le w
      refine lcD_all D.str (fun x => oi (wint x)) (Txt.split w (Str.ofString "@")) _ (fun x hx K h => ?_) (by omega) ?_
      · walk_at "d"
        exact ⟨x, rfl, by have := ha.1 x hx; omega, h⟩
      generalize eL : Txt.split w (Str.ofString "@") = L
      have h2' : rd p t = match wordD p w with
        | none => none
        | some z => if lateB acc z.1 = true then rdGo p po (acc ++ [z]) else none := h2
      have hnone : wordD p w = none → q .non n2 := fun e => by
        rw [h2', e] at hq
        exact hq
      rw [eqv_int, List.length_map]
      refine if_run (fun c1 => ?_) fun c1 => ?_
      · refine hnone ?_
        unfold wordD
        split
        · rename_i e
          rw [show Txt.split w "@" = Txt.split w (Str.ofString "@") from rfl, eL] at e
          rw [e] at c1
          cases c1
        · rfl
      have l2 : L.length = 2 := by
        have z : decide (((L.length : Nat) : Int) = 2) = true := by simpa using c1
        have := of_decide_eq_true z
        omega
      obtain ⟨a, b, rfl⟩ : ∃ a b, L = [a, b] := by
        match L, l2 with
        | [a, b], _ => exact ⟨a, b, rfl⟩
      have ew : wordD p w = match wint a, wint b with
        | some c, some o => if 1 ≤ c ∧ c < p then some (o, c) else none
        | _, _ => none := by
        unfold wordD
        rw [show Txt.split w "@" = Txt.split w (Str.ofString "@") from rfl, eL]
        try rfl
      rw [List.map_cons, List.map_cons, List.map_nil]
      cases ea : wint a with
      | none => exact ⟨by cases wint b <;> rfl, if_run (fun _ => hnone (by rw [ew, ea])) fun z => absurd (show true = false from z) (by decide)⟩
      | some c =>
        cases eb : wint b with
        | none => exact ⟨rfl, if_run (fun _ => hnone (by rw [ew, ea, eb])) fun z => absurd (show true = false from z) (by decide)⟩
        | some o =>
          rw [ea, eb] at ew
          dsimp only at ew
          refine ⟨rfl, if_run (fun z => absurd (show false = true from z) (by decide)) fun _ => ?_⟩
          rw [show oi (some c) = D.int c from rfl, show oi (some o) = D.int o from rfl, ix0, ix1]
          dsimp only
          refine if_run (fun c2 => ?_) fun c2 => ?_
          · have c2 : (1 : Int) ≤ c := of_decide_eq_true c2
            refine if_run (fun c3 => ?_) fun c3 => ?_
            · have c3 : ¬ c < p := of_decide_eq_false (by simpa using c3)
              exact hnone (by rw [ew, if_neg (by omega)])
            have c3 : c < p := of_decide_eq_true (by simpa using c3)
            rw [if_pos ⟨c2, c3⟩] at ew
            rw [ew] at h2'
            dsimp only at h2'
            have fin : lateB acc o = true → 2 ≤ 16777216 ∧ acc.length < 16777216 ∧ K2 [some (.val (.int p)), some (.val (.str t)), some (.own (.lst (acc.map trm ++ [.tup [.int o, .int c]]))), some (.val (.str w)), some (.val (.lst [.int c, .int o])), y5] n2 := fun z => by
              refine ⟨by decide, by omega, hK2 _ _ ⟨acc ++ [(o, c)], po, some (.val (.str w)), some (.val (.lst [.int c, .int o])), y5, rfl, by rw [e2]; simp, ?_, by rw [List.length_append, List.length_append, h3]; rfl, ?_⟩⟩
              · rw [h2', if_pos z]
              · rw [List.map_append]
                rfl
            refine ⟨by decide, if_run (fun c4 => ?_) fun c4 => ?_⟩
            · cases el : acc.getLast? with
              | none =>
                rw [List.getLast?_eq_none_iff] at el
                subst el
                cases c4
              | some z =>
                have ez : (acc.map trm).getLast? = some (trm z) := by rw [List.getLast?_map, el]; rfl
                rw [atLast ez]
                show (match atI [D.int z.1, D.int z.2] 0 with
                  | some d => _
                  | none => False)
                rw [ix0]
                dsimp only
                refine if_run (fun c5 => ?_) fun c5 => ?_
                · have c5 : o ≤ z.1 := of_decide_eq_true c5
                  rw [if_neg (by unfold lateB; rw [el]; dsimp only; simpa using c5)] at h2'
                  rw [h2'] at hq
                  exact hq
                · have c5 : ¬ o ≤ z.1 := of_decide_eq_false c5
                  exact fin (by unfold lateB; rw [el]; exact decide_eq_true (by omega))
            · cases acc with
              | nil => exact fin rfl
              | cons z acc => cases c4
          · have c2 : ¬ (1 : Int) ≤ c := of_decide_eq_false c2
            exact hnone (by rw [ew, if_neg (by omega)])
    · obtain ⟨acc, rest, y3, y4, y5, rfl, h1, h2, h3, rfl⟩ := hI
      have hr : rest = [] := by simpa using h1
      subst hr
      walk_at "d"
      rw [h2] at hq
      exact hq
  · have c0 : t = Str.ofString "0" := of_decide_eq_true (by simpa using c0)
    have e : rd p t = some [] := by rw [c0]; rfl
    rw [e] at hq
    refine ⟨by decide, ?_⟩
    rw [forD_nil]
    walk_at "d"
    exact hq
end

end My

namespace My
open PySem PySem.Spec L2 DL
theorem sc__law_text : FnScope ["_law_pairs", "_law_parts", "_law_offset", "_law_coefficient"] ["_law_pairs"] (defScope (top 36)) := ⟨rfl, rfl, rfl, by decide +kernel, rfl, by decide +kernel, by decide +kernel⟩
section
variable {P : Program} {w : World} {K : PySem.W.Frag} {mg : Str → Option Value} {base : Heap}
theorem ok__law_text (T : Top K mg) : Sg P w K mg base "_law_text" 1 1 FB__law_text [] := by
  obtain ⟨fd, FD⟩ := T.d__law_text
  refine ⟨_, fd, ["_law_pairs"], [], [], ?_, T.g__law_text, FD.kp, FD.bindsN (fun _ _ _ _ _ _ us hl => match us, hl with | [_], _ => rfl), .nil, fun _ => .nil⟩
  refine ok_def FD sc__law_text rfl ?_
  rintro X E W ds n q xx ⟨cdv, A, outer, s, H, rfl⟩ hr tk pso hl hF
  have hu := hr.units
  have hu1 := hu_of hr
  refine ⟨_, (pss_consD (ps_setLcD 1 [("_law_offset", 2), ("_law_coefficient", 3)] rfl sc__law_text.nd (pid_seq (pd_var 0)) (blkOk_by (own := [("_law_offset", 2), ("_law_coefficient", 3)]) (N := ["_law_pairs", "_law_parts", "_law_offset", "_law_coefficient"]) (sc := defScope (top 36)) (by decide +kernel)) (fun _ _ _ _ _ => (pgd_tup (m := 2) rfl (pgsd_cons (pgd_name 2 sc__law_text.nd) (pgsd_cons (pgd_name 3 sc__law_text.nd) pgsd_nil)))) (fun _ _ _ _ _ => ptsD_nil) (fun _ _ _ _ _ => (pd_add (PD.pb (pd_add (PD.pb (pd_callTy call_str_int dcall_strI (by rfl) T.f_str (by decide +kernel) (pab_cons (pb_var 3) pab_nil))) (PD.pb pd_str))) (PD.pb (pd_callTy call_str_int dcall_strI (by rfl) T.f_str (by decide +kernel) (pab_cons (pb_var 2) pab_nil))))))
      (pss_oneD (ps_retD (pd_if (pt_neNil hu (pb_var 1) (PD.pb (PF.pd (pf_lst pad_nil)))) (pd_join pd_str (pd_var 1)) pd_str)))), ?_⟩
  clear hr tk pso hl hu hu1
  obtain ⟨ts, rfl, hn, hl, hq⟩ := hF
  walk_at "d"
  refine lcD_all trm (fun t => D.str (wordT t)) ts _ (fun t ht K h => ?_) (by omega) ?_
  · walk_at "d"
    have hg := hn.log ht
    have h1 := hn.near t ht
    have e : (Str.ofString "@").length = 1 := rfl
    refine ⟨hg.2, by rw [e]; omega, hg.1, by rw [Str.length_append, e]; omega, ?_⟩
    exact h
  refine ⟨by decide, if_run (fun c => ?_) fun c => ?_⟩
  · have hne : ts ≠ [] := by
      rintro rfl
      cases c
    rw [show ts.map (fun t => D.str (wordT t)) = (ts.map wordT).map D.str by rw [List.map_map]; rfl, strsD_map]
    dsimp only
    have hs := sum_le 42 (ts.map wordT) fun w hw => by
      obtain ⟨t, ht, rfl⟩ := List.mem_map.mp hw
      exact word_len (hn.near t ht)
    rw [List.length_map] at hs
    refine ⟨by rw [List.length_map, show (Str.ofString "+").length = 1 from rfl]; omega, ?_⟩
    unfold txt at hq
    rw [if_neg hne] at hq
    exact hq
  · have hne : ts = [] := by
      cases ts with
      | nil => rfl
      | cons t ts => cases c
    subst hne
    exact hq
end

end My

namespace My
open PySem PySem.Spec L2 DL
theorem sc_Filter_terms : FnScope ["self"] ["self"] (defScope (inClass (top 23) 7)) := ⟨rfl, rfl, rfl, by decide +kernel, rfl, by decide +kernel, by decide +kernel⟩
section
variable {P : Program} {w : World} {K : PySem.W.Frag} {mg : Str → Option Value} {base : Heap}
theorem ok_Filter_terms (T : Top K mg) : Mg P w K mg base "Filter" "terms" 1 1 F_Filter_terms [] := by
  obtain ⟨fd, FD⟩ := T.d_Filter_terms
  refine ⟨T.cl_Filter, _, fd, ["self"], [], [], ?_, T.m_Filter_terms, FD.bindsN (fun _ _ _ _ _ _ us hl => match us, hl with | [_], _ => rfl), .nil, fun _ => .nil⟩
  refine ok_def FD sc_Filter_terms rfl ?_
  rintro X E W ds n q xx ⟨cdv, A, outer, s, H, rfl⟩ hr tk pso hl hF
  have hu := hr.units
  have hu1 := hu_of hr
  refine ⟨_, (pss_oneD (ps_retD (PF.pd (pf_list (by rfl) T.f_list (pab_cons (PD.pb (pd_fld ["Filter"] T.fld_Filter_kept (pb_var 0))) pab_nil))))), ?_⟩
  clear hr tk pso hl hu hu1
  obtain ⟨p, ts, rfl, hq⟩ := hF
  walk_at "d"
  exact hq
end

end My

namespace My
open PySem PySem.Spec L2 DL
theorem sc_check_primes : FnScope ["one", "other"] ["one", "other"] (defScope (top 18)) := ⟨rfl, rfl, rfl, by decide +kernel, rfl, by decide +kernel, by decide +kernel⟩
section
variable {P : Program} {w : World} {K : PySem.W.Frag} {mg : Str → Option Value} {base : Heap}
theorem ok_check_primes (T : Top K mg) : Sg P w K mg base "check_primes" 3 2 F_check_primes [] := by
  obtain ⟨fd, FD⟩ := T.d_check_primes
  refine ⟨_, fd, ["one", "other"], [], [], ?_, T.g_check_primes, FD.kp, FD.bindsN (fun _ _ _ _ _ _ us hl => match us, hl with | [_, _], _ => rfl), .nil, fun _ => .nil⟩
  refine ok_def FD sc_check_primes rfl ?_
  rintro X E W ds n q xx ⟨cdv, A, outer, s, H, rfl⟩ hr tk pso hl hF
  have hu := hr.units
  have hu1 := hu_of hr
  refine ⟨_, (pss_oneD (ps_ifD (pt_ne hu (PD.pb (pd_fld ["Filter"] T.fld_Filter_prime (pb_var 0))) (PD.pb (pd_fld ["Filter"] T.fld_Filter_prime (pb_var 1)))) (pss_oneD (ps_raise0 (xg_UnlikePrimes T) (hr.mono (by decide)) rfl tk (by rfl))) pss_nilD)), ?_⟩
  clear hr tk pso hl hu hu1
  match ds, hF with
  | [.obj c fs, .obj d gs], hF =>
    obtain ⟨hc, hd, p, h1, ⟨h2, hq⟩ | ⟨p', hne, h2, hq⟩⟩ := hF
    · walk_at "d"
      refine ⟨hc, ?_⟩
      rw [h1]
      simp only []
      refine ⟨hd, ?_⟩
      rw [h2]
      refine ⟨rfl, rfl, ?_⟩
      rw [show ((pyD (.int p)).eqv (pyD (.int p))) = true from SeqAt.eqv_refl _ rfl]
      exact hq
    · walk_at "d"
      refine ⟨hc, ?_⟩
      rw [h1]
      simp only []
      refine ⟨hd, ?_⟩
      rw [h2]
      refine ⟨rfl, rfl, ?_⟩
      rw [show (pyD (.int p)).eqv (pyD (.int p')) = decide (p = p') from eqv_int p p', decide_eq_false hne]
      exact hq
end

end My

namespace My
open PySem PySem.Spec L2 DL
theorem sc_Filter___add__ : FnScope ["self", "other"] ["self", "other"] (defScope (inClass (top 23) 12)) := ⟨rfl, rfl, rfl, by decide +kernel, rfl, by decide +kernel, by decide +kernel⟩
section
variable {P : Program} {w : World} {K : PySem.W.Frag} {mg : Str → Option Value} {base : Heap}
theorem ok_Filter___add__ (T : Top K mg) : Mg P w K mg base "Filter" "__add__" 5 2 F_Filter___add__ [] := by
  obtain ⟨fd, FD⟩ := T.d_Filter___add__
  refine ⟨T.cl_Filter, _, fd, ["self", "other"], [], [], ?_, T.m_Filter___add__, FD.bindsN (fun _ _ _ _ _ _ us hl => match us, hl with | [_, _], _ => rfl), .nil, fun _ => .nil⟩
  refine ok_def FD sc_Filter___add__ rfl ?_
  rintro X E W ds n q xx ⟨cdv, A, outer, s, H, rfl⟩ hr tk pso hl hF
  have hu := hr.units
  have hu1 := hu_of hr
  refine ⟨_, (pss_consD (ps_ifD (ptd_not (pt_valD (PD.pb (pd_isiO T.tyf (T.ko_Filter) (by rfl) T.f_isinstance (by rfl) T.g_Filter (pb_var 1))))) (pss_oneD (ps_retD pd_never)) pss_nilD)
      (pss_consD (ps_exprD (PD.pb (pd_call (ok_check_primes T) (hr.mono (by decide)) tk (by rfl) (pad_cons (pd_var 0) (pad_cons (pd_var 1) pad_nil)))))
      (pss_oneD (ps_retD (pd_make (ok_Filter___init__ T) (hr.mono (by decide)) tk (by rfl) (pad_cons (pd_fld ["Filter"] T.fld_Filter_prime (pb_var 0)) (pad_cons (pd_add (PD.pb (pd_fld ["Filter"] T.fld_Filter_kept (pb_var 0))) (PD.pb (pd_fld ["Filter"] T.fld_Filter_kept (pb_var 1)))) pad_nil))))))), ?_⟩
  clear hr tk pso hl hu hu1
  rcases hF with ⟨p, x, y, rfl, hp, hl2, hq⟩ | ⟨p, p', x, y, rfl, hne, hq⟩
  · have hp0 := isPr_pos hp
    unfold nt at hl2
    simp only [fo]
    walk_at "d"
    refine ⟨pc_F, pc_F, p, rfl, .inl ⟨rfl, by omega, ?_⟩⟩
    rw [← List.map_append]
    refine FG_init_trm rfl hp (by rw [List.length_append]; omega) ?_
    rw [can_of hp0.1 (show lp p (can x ++ can y) = x + y by rw [← lp_add, lp_can hp0.1, lp_can hp0.1])]
    exact hq
  · simp only [fo]
    walk_at "d"
    exact ⟨pc_F, pc_F, p, rfl, .inr ⟨p', hne, rfl, hq⟩⟩
end

end My

namespace My
open PySem PySem.Spec L2 DL
theorem sc_Filter___bool__ : FnScope ["self"] ["self"] (defScope (inClass (top 23) 4)) := ⟨rfl, rfl, rfl, by decide +kernel, rfl, by decide +kernel, by decide +kernel⟩
section
variable {P : Program} {w : World} {K : PySem.W.Frag} {mg : Str → Option Value} {base : Heap}
theorem ok_Filter___bool__ (T : Top K mg) : Mg P w K mg base "Filter" "__bool__" 1 1 F_Filter___bool__ [] := by
  obtain ⟨fd, FD⟩ := T.d_Filter___bool__
  refine ⟨T.cl_Filter, _, fd, ["self"], [], [], ?_, T.m_Filter___bool__, FD.bindsN (fun _ _ _ _ _ _ us hl => match us, hl with | [_], _ => rfl), .nil, fun _ => .nil⟩
  refine ok_def FD sc_Filter___bool__ rfl ?_
  rintro X E W ds n q xx ⟨cdv, A, outer, s, H, rfl⟩ hr tk pso hl hF
  have hu := hr.units
  have hu1 := hu_of hr
  refine ⟨_, (pss_oneD (ps_retD (pd_callTy call_boolL dcall_boolL (by rfl) T.f_bool (by decide +kernel) (pab_cons (PD.pb (pd_fld ["Filter"] T.fld_Filter_kept (pb_var 0))) pab_nil)))), ?_⟩
  clear hr tk pso hl hu hu1
  obtain ⟨p, ts, rfl, hq⟩ := hF
  walk_at "d"
  rw [List.isEmpty_map]
  exact hq
end

end My

namespace My
open PySem PySem.Spec L2 DL
theorem sc_Filter_high : FnScope ["self"] ["self"] (defScope (inClass (top 23) 9)) := ⟨rfl, rfl, rfl, by decide +kernel, rfl, by decide +kernel, by decide +kernel⟩
section
variable {P : Program} {w : World} {K : PySem.W.Frag} {mg : Str → Option Value} {base : Heap}
theorem ok_Filter_high (T : Top K mg) : Mg P w K mg base "Filter" "high" 1 1 F_Filter_high [] := by
  obtain ⟨fd, FD⟩ := T.d_Filter_high
  refine ⟨T.cl_Filter, _, fd, ["self"], [], [], ?_, T.m_Filter_high, FD.bindsN (fun _ _ _ _ _ _ us hl => match us, hl with | [_], _ => rfl), .nil, fun _ => .nil⟩
  refine ok_def FD sc_Filter_high rfl ?_
  rintro X E W ds n q xx ⟨cdv, A, outer, s, H, rfl⟩ hr tk pso hl hF
  have hu := hr.units
  have hu1 := hu_of hr
  refine ⟨_, (pss_oneD (ps_retD (pd_if (pt_truD (PD.pb (pd_fld ["Filter"] T.fld_Filter_kept (pb_var 0)))) (pd_ix (PD.pb (pd_ix (PD.pb (pd_fld ["Filter"] T.fld_Filter_kept (pb_var 0))) (PD.pb (pd_neg (PD.pb pd_int))))) (PD.pb pd_int)) pd_non))), ?_⟩
  clear hr tk pso hl hu hu1
  obtain ⟨p, ts, rfl, hq⟩ := hF
  walk_at "d"
  cases e : ts.getLast? with
  | none =>
    obtain rfl := List.getLast?_eq_none_iff.mp e
    exact hq
  | some t =>
    rw [e] at hq
    have e2 : (ts.map trm).getLast? = some (trm t) := by rw [List.getLast?_map, e]; rfl
    have e3 : (ts.map trm).isEmpty = false := by cases ts with | nil => cases e | cons _ _ => rfl
    rw [atLast e2, e3]
    exact hq
end

end My

namespace My
open PySem PySem.Spec L2 DL
theorem sc_written_integer : FnScope ["word", "figures", "sign"] ["word"] (defScope (top 27)) := ⟨rfl, rfl, rfl, by decide +kernel, rfl, by decide +kernel, by decide +kernel⟩
section
variable {P : Program} {w : World} {K : PySem.W.Frag} {mg : Str → Option Value} {base : Heap}
theorem ok_written_integer (T : Top K mg) : Sg P w K mg base "written_integer" 1 1 F_written_integer [] := by
  obtain ⟨fd, FD⟩ := T.d_written_integer
  refine ⟨_, fd, ["word"], [], [], ?_, T.g_written_integer, FD.kp, FD.bindsN (fun _ _ _ _ _ _ us hl => match us, hl with | [_], _ => rfl), .nil, fun _ => .nil⟩
  refine ok_def FD sc_written_integer rfl ?_
  rintro X E W ds n q xx ⟨cdv, A, outer, s, H, rfl⟩ hr tk pso hl hF
  have hu := hr.units
  have hu1 := hu_of hr
  refine ⟨_, (pss_consD (ps_setD 1 (pd_if (pt_eqS (PD.pb (pd_slS (pd_var 0) pdo_none (pdo_some (PD.pb pd_int)))) (PD.pb pd_str)) (pd_slS (pd_var 0) (pdo_some (PD.pb pd_int)) pdo_none) (pd_var 0)) sc_written_integer.nd)
      (pss_consD (ps_ifD (PWD.pt (pwd_or (ptd_not (pt_leLe (PD.pb pd_int) (PD.pb (pd_callB call_len dcall_lenS (by rfl) T.f_len (by decide +kernel) (pab_cons (pb_var 1) pab_nil))) (PD.pb (pd_globI (by rfl) (T.c_MOST_FIGURES))))) (pwd_or1 (ptd_not (pt_valD (PD.pb (pd_callB (cr_all rfl) dcall_all (by rfl) T.f_all (by decide +kernel) (pab_cons (PD.pb (PF.pd (pf_lc [("sign", 2)] rfl sc_written_integer.nd (pid_str (pd_var 1)) (blkOk_by (own := [("sign", 2)]) (N := ["word", "figures", "sign"]) (sc := defScope (top 27)) (by decide +kernel)) (fun _ _ _ _ _ => (pgd_name 2 sc_written_integer.nd)) (fun _ _ _ _ _ => ptsD_nil) (fun _ _ _ _ _ => (pd_inS (pb_var 2) (PD.pb (pd_globS (by rfl) (T.c_FIGURES)))))))) pab_nil)))))))) (pss_oneD (ps_retD pd_non)) pss_nilD)
      (pss_consD (ps_ifD (PWD.pt (pwd_and (pt_eqS (PD.pb (pd_ixS (pb_var 1) (PD.pb pd_int))) (PD.pb pd_str)) (pwd_and1 (pt_neS (pb_var 0) (PD.pb pd_str))))) (pss_oneD (ps_retD pd_non)) pss_nilD)
      (pss_oneD (ps_retD (pd_callTy call_int_str dcall_intS (by rfl) T.f_int (by decide +kernel) (pab_cons (pb_var 0) pab_nil))))))), ?_⟩
  clear hr tk pso hl hu hu1
  obtain ⟨w, rfl, hl, hq⟩ := hF
  walk_at "d"
  refine ⟨by omega, if_run (fun c => ?_) fun c => ?_⟩
  · have c : cutS w none (some 1) = Str.ofString "-" := of_decide_eq_true c
    have hf : TL.tl (cutS w (some 1) none) = figs (TL.tl w) := by
      have := tl_figT w
      unfold figT at this
      rw [if_pos c] at this
      exact this
    have hz : ((cutS w (some 1) none)).length ≤ 400 := Nat.le_trans (cutS_length ..) hl
    have hz2 := TL.len_tl (cutS w (some 1) none)
    refine ⟨by omega, by omega, ?_⟩
    refine if_run (fun a1 => ?_) fun a1 => ?_
    · have a1 : (1 : Int) ≤ ((((cutS w (some 1) none)).length : Nat) : Int) := of_decide_eq_true a1
      have hne : figs (TL.tl w) ≠ [] := by
        rw [← hf]
        intro e
        rw [e, List.length_nil] at hz2
        omega
      refine if_run (fun a2 => ?_) fun a2 => ?_
      · have a2 : ¬ ((((cutS w (some 1) none)).length : Nat) : Int) ≤ 4000 := of_decide_eq_false (by simpa using a2)
        omega
      unfold chrs
      refine lcD_all (fun c => D.str ⟨#[c]⟩) (fun c => D.bl (isDg c)) _ _ (fun c hc K h => ?_) (by show ((cutS w (some 1) none)).length < _; omega) ?_
      · walk_at "d"
        rw [dg_in]
        exact h
      rw [boolsT]
      dsimp only
      refine if_run (fun a3 => ?_) fun a3 => ?_
      · have a3 : (figs (TL.tl w)).all isDg = false := by
          rw [← hf]
          have e := a3
          rw [List.all_map] at e
          exact (Bool.not_eq_true' _).mp e
        have e : wint w = none := if_neg fun z => by rw [z.2.1] at a3; cases a3
        rw [e] at hq
        exact hq
      have a3 : (figs (TL.tl w)).all isDg = true := by
        rw [← hf]
        have e := a3
        rw [List.all_map] at e
        exact (Bool.not_eq_false' _).mp e
      obtain ⟨k, ek⟩ : ∃ k, PySem.intText? w = some k := by
        rcases word_reads hne a3 hl with ⟨_, r⟩ | ⟨_, r⟩ <;> exact ⟨_, r⟩
      cases ec : TL.tl (cutS w (some 1) none) with
      | nil => exact absurd (hf.symm.trans ec) hne
      | cons d l =>
        have e0 : ((cutS w (some 1) none)).cps[(0 : Int).toNat]? = some d := by
          rw [← Array.getElem?_toList]
          show (TL.tl (cutS w (some 1) none))[0]? = _
          rw [ec]
          rfl
        rw [e0]
        dsimp only
        have hd : (figs (TL.tl w)).head? = some d := by rw [← hf, ec]; rfl
        rw [ek]
        dsimp only
        have fin : WOk (TL.tl w) → w.length ≤ 640 ∧ q (.int k) n := fun z => by
          have e : wint w = some k := by unfold wint; rw [if_pos z, ek]
          rw [e] at hq
          exact ⟨by omega, hq⟩
        refine ⟨⟨by omega, by omega, by omega⟩, if_run (fun a4 => if_run (fun a5 => ?_) fun a5 => ?_) fun a4 => ?_⟩
        · have a4 : (⟨#[d]⟩ : Str) = Str.ofString "0" := of_decide_eq_true a4
          have a5 : ¬ w = Str.ofString "0" := of_decide_eq_false (by simpa using a5)
          have d48 : d = 48 := by
            have := congrArg TL.tl a4
            rw [show TL.tl (Str.ofString "0") = [48] by decide] at this
            exact (List.cons.inj this).1
          have e : wint w = none := if_neg fun z => z.2.2 ⟨by rw [hd, d48], fun y => a5 (TL.ext_tl (by rw [y]; decide))⟩
          rw [e] at hq
          exact hq
        · have a5 : w = Str.ofString "0" := of_decide_eq_true (by simpa using a5)
          exact fin ⟨hne, a3, fun z => z.2 (by rw [a5]; decide)⟩
        · have a4 : ¬ (⟨#[d]⟩ : Str) = Str.ofString "0" := of_decide_eq_false a4
          exact fin ⟨hne, a3, fun z => by
            rw [hd] at z
            have e := Option.some.inj z.1
            subst e
            exact a4 (by decide)⟩
    · have a1 : ¬ (1 : Int) ≤ ((((cutS w (some 1) none)).length : Nat) : Int) := of_decide_eq_false a1
      have he : figs (TL.tl w) = [] := by
        rw [← hf]
        exact List.length_eq_zero_iff.mp (by omega)
      have e : wint w = none := if_neg fun z => z.1 he
      rw [e] at hq
      exact hq
  · have c : ¬ cutS w none (some 1) = Str.ofString "-" := of_decide_eq_false c
    have hf : TL.tl w = figs (TL.tl w) := by
      have := tl_figT w
      unfold figT at this
      rw [if_neg c] at this
      exact this
    have hz : (w).length ≤ 400 := hl
    have hz2 := TL.len_tl w
    refine ⟨by omega, ?_⟩
    refine if_run (fun a1 => ?_) fun a1 => ?_
    · have a1 : (1 : Int) ≤ (((w).length : Nat) : Int) := of_decide_eq_true a1
      have hne : figs (TL.tl w) ≠ [] := by
        rw [← hf]
        intro e
        rw [e, List.length_nil] at hz2
        omega
      refine if_run (fun a2 => ?_) fun a2 => ?_
      · have a2 : ¬ (((w).length : Nat) : Int) ≤ 4000 := of_decide_eq_false (by simpa using a2)
        omega
      unfold chrs
      refine lcD_all (fun c => D.str ⟨#[c]⟩) (fun c => D.bl (isDg c)) _ _ (fun c hc K h => ?_) (by show (w).length < _; omega) ?_
      · walk_at "d"
        rw [dg_in]
        exact h
      rw [boolsT]
      dsimp only
      refine if_run (fun a3 => ?_) fun a3 => ?_
      · have a3 : (figs (TL.tl w)).all isDg = false := by
          rw [← hf]
          have e := a3
          rw [List.all_map] at e
          exact (Bool.not_eq_true' _).mp e
        have e : wint w = none := if_neg fun z => by rw [z.2.1] at a3; cases a3
        rw [e] at hq
        exact hq
      have a3 : (figs (TL.tl w)).all isDg = true := by
        rw [← hf]
        have e := a3
        rw [List.all_map] at e
        exact (Bool.not_eq_false' _).mp e
      obtain ⟨k, ek⟩ : ∃ k, PySem.intText? w = some k := by
        rcases word_reads hne a3 hl with ⟨_, r⟩ | ⟨_, r⟩ <;> exact ⟨_, r⟩
      cases ec : TL.tl w with
      | nil => exact absurd (hf.symm.trans ec) hne
      | cons d l =>
        have e0 : (w).cps[(0 : Int).toNat]? = some d := by
          rw [← Array.getElem?_toList]
          show (TL.tl w)[0]? = _
          rw [ec]
          rfl
        rw [e0]
        dsimp only
        have hd : (figs (TL.tl w)).head? = some d := by rw [← hf, ec]; rfl
        rw [ek]
        dsimp only
        have fin : WOk (TL.tl w) → w.length ≤ 640 ∧ q (.int k) n := fun z => by
          have e : wint w = some k := by unfold wint; rw [if_pos z, ek]
          rw [e] at hq
          exact ⟨by omega, hq⟩
        refine ⟨⟨by omega, by omega, by omega⟩, if_run (fun a4 => if_run (fun a5 => ?_) fun a5 => ?_) fun a4 => ?_⟩
        · have a4 : (⟨#[d]⟩ : Str) = Str.ofString "0" := of_decide_eq_true a4
          have a5 : ¬ w = Str.ofString "0" := of_decide_eq_false (by simpa using a5)
          have d48 : d = 48 := by
            have := congrArg TL.tl a4
            rw [show TL.tl (Str.ofString "0") = [48] by decide] at this
            exact (List.cons.inj this).1
          have e : wint w = none := if_neg fun z => z.2.2 ⟨by rw [hd, d48], fun y => a5 (TL.ext_tl (by rw [y]; decide))⟩
          rw [e] at hq
          exact hq
        · have a5 : w = Str.ofString "0" := of_decide_eq_true (by simpa using a5)
          exact fin ⟨hne, a3, fun z => z.2 (by rw [a5]; decide)⟩
        · have a4 : ¬ (⟨#[d]⟩ : Str) = Str.ofString "0" := of_decide_eq_false a4
          exact fin ⟨hne, a3, fun z => by
            rw [hd] at z
            have e := Option.some.inj z.1
            subst e
            exact a4 (by decide)⟩
    · have a1 : ¬ (1 : Int) ≤ (((w).length : Nat) : Int) := of_decide_eq_false a1
      have he : figs (TL.tl w) = [] := by
        rw [← hf]
        exact List.length_eq_zero_iff.mp (by omega)
      have e : wint w = none := if_neg fun z => z.1 he
      rw [e] at hq
      exact hq
end

end My

namespace My
open PySem PySem.Spec L2 DL
theorem sc_read_filter : FnScope ["prime", "text", "found", "part", "words", "coefficient", "offset"] ["prime", "text"] (defScope (top 29)) := ⟨rfl, rfl, rfl, by decide +kernel, rfl, by decide +kernel, by decide +kernel⟩
section
variable {P : Program} {w : World} {K : PySem.W.Frag} {mg : Str → Option Value} {base : Heap}
theorem ok_read_filter (T : Top K mg) : Sg P w K mg base "read_filter" 6 2 F_read_filter [] := by
  obtain ⟨fd, FD⟩ := T.d_read_filter
  refine ⟨_, fd, ["prime", "text"], [], [], ?_, T.g_read_filter, FD.kp, FD.bindsN (fun _ _ _ _ _ _ us hl => match us, hl with | [_, _], _ => rfl), .nil, fun _ => .nil⟩
  refine ok_def FD sc_read_filter rfl ?_
  rintro X E W ds n q xx ⟨cdv, A, outer, s, H, rfl⟩ hr tk pso hl hF
  have hu := hr.units
  have hu1 := hu_of hr
  refine ⟨_, (pss_consD (ps_setD 2 (pd_make (ok_Filter___init___d1 T) (hr.mono (by decide)) tk (by rfl) (pad_cons (pd_var 0) pad_nil)) sc_read_filter.nd)
      (pss_consD (ps_ifD (ptd_not (pt_valD (PD.pb (pd_isiB T.tyf (T.kb_str) (by rfl) T.f_isinstance (by rfl) T.f_str (by decide +kernel) (pb_var 1))))) (pss_oneD (ps_raise0 (xg_BadText T) (hr.mono (by decide)) rfl tk (by rfl))) pss_nilD)
      (pss_consD (ps_forD pso rfl (pid_seq (pd_if (pt_neS (pb_var 1) (PD.pb pd_str)) (PF.pd (pf_split (pd_var 1) pd_str)) (PF.pd (pf_lst pad_nil)))) (pgd_name 3 sc_read_filter.nd) (pss_consD (ps_setD 4 (PF.pd (pf_split (pd_var 3) pd_str)) sc_read_filter.nd)
      (pss_consD (ps_ifD (pt_ne hu (PD.pb (pd_callB call_lenD2 dcall_len (by rfl) T.f_len (by decide +kernel) (pab_cons (pb_var 4) pab_nil))) (PD.pb pd_int)) (pss_oneD (ps_raise0 (xg_BadText T) (hr.mono (by decide)) rfl tk (by rfl))) pss_nilD)
      (pss_consD (ps_parD 5 6 rfl sc_read_filter.nd (pad_cons (pd_call (ok_written_integer T) (hr.mono (by decide)) tk (by rfl) (pad_cons (pd_ix (pb_var 4) (PD.pb pd_int)) pad_nil)) (pad_cons (pd_call (ok_written_integer T) (hr.mono (by decide)) tk (by rfl) (pad_cons (pd_ix (pb_var 4) (PD.pb pd_int)) pad_nil)) pad_nil)))
      (pss_consD (ps_ifD (PWD.pt (pwd_or (pt_is (pb_var 5) (PD.pb pd_non)) (pwd_or (pt_is (pb_var 6) (PD.pb pd_non)) (pwd_or1 (ptd_not (pt_leLt (PD.pb pd_int) (pb_var 5) (pb_var 0))))))) (pss_oneD (ps_raise0 (xg_BadText T) (hr.mono (by decide)) rfl tk (by rfl))) pss_nilD)
      (pss_consD (ps_ifD (PWD.pt (pwd_and (pt_valD (PD.pb (pd_boolO (ok_Filter___bool__ T) (hr.mono (by decide)) tk (pad_cons (pd_var 2) pad_nil) (by rfl) T.f_bool))) (pwd_and1 (pt_ge (PD.pb (pd_meth0 (ok_Filter_high T) (hr.mono (by decide)) tk (pd_var 2))) (pb_var 6))))) (pss_oneD (ps_raise0 (xg_BadText T) (hr.mono (by decide)) rfl tk (by rfl))) pss_nilD)
      (pss_oneD (ps_setD 2 (pd_binO T.op_Filter_Add opI_add (ok_Filter___add__ T) (hr.mono (by decide)) tk (pd_var 2) (pd_make (ok_Filter___init__ T) (hr.mono (by decide)) tk (by rfl) (pad_cons (pd_var 0) (pad_cons (PF.pd (pf_lst (pad_cons (pd_tup (pad_cons (pd_var 6) (pad_cons (pd_var 5) pad_nil))) pad_nil))) pad_nil)))) sc_read_filter.nd))))))))
      (pss_oneD (ps_retD (pd_var 2)))))), ?_⟩
  clear hr tk pso hl hu hu1
  rcases hF with ⟨p, t, rfl, hp, hl, hq⟩ | ⟨p, d, rfl, hp, ⟨ty, hd1, hd2⟩, hs, hx⟩ | ⟨dp, d, rfl, hd, hb, hx⟩
  · have hp0 := isPr_pos hp
    have hpl := parts_le t
    walk_at "d"
    refine FG_init_trm (ts := []) rfl hp (by decide) ?_
    rw [(TmOk.nil p).canon hp0.1]
    rw [isa_ss]
    refine if_run (fun z => absurd (show false = true from z) (by decide)) fun _ => if_run (fun c0 => ?_) fun c0 => ?_
    · have c0 : ¬ t = Str.ofString "0" := of_decide_eq_false (by simpa using c0)
      have ep : partsT t = Txt.split t (Str.ofString "+") := if_neg c0
      refine ⟨⟨by decide, by omega⟩, ?_⟩
      rw [ep] at hpl
      refine forD_pre (Txt.split t (Str.ofString "+")) (fun pr ρ n2 => ∃ (acc : Tm) (rest : List Str) (y3 y4 y5 y6 : Option Sl), n2 = n ∧ Txt.split t (Str.ofString "+") = pr ++ rest ∧ rd p t = rdGo p rest acc ∧ acc.length = pr.length ∧ TmOk p acc ∧ ρ = [some (.val (.int p)), some (.val (.str t)), some (.val (fob p acc)), y3, y4, y5, y6]) (fun pr w po e2 ρ n2 K2 hI hK2 => ?_) (fun ρ n2 hI => ?_) ⟨[], Txt.split t (Str.ofString "+"), _, _, _, _, rfl, rfl, by unfold rd; rw [ep], rfl, TmOk.nil p, rfl⟩
      · obtain ⟨acc, rest, y3, y4, y5, y6, rfl, h1, h2, h3, hok, rfl⟩ := hI
        have hr : rest = w :: po := List.append_cancel_left (h1.symm.trans e2)
        subst hr
        have hw : w.length ≤ t.length := hpl.1 w (by rw [e2]; simp)
        have hlen : pr.length < 500 := by
          have := congrArg List.length e2
          rw [List.length_append, List.length_cons] at this
          omega
        have ha := at_le w
        have h2' : rd p t = match wordD p w with
          | none => none
          | some z => if lateB acc z.1 = true then rdGo p po (acc ++ [z]) else none := h2
        have hnone : wordD p w = none → xx ("BadText", []) n2 := fun e => by
          rw [h2', e] at hq
          exact hq
        walk_at "d"
        refine ⟨⟨by decide, by omega⟩, ?_⟩
        generalize eL : Txt.split w (Str.ofString "@") = L at ha
        rw [eqv_int]
        refine if_run (fun c1 => ?_) fun c1 => ?_
        · refine hnone ?_
          unfold wordD
          split
          · rename_i e
            rw [show Txt.split w "@" = Txt.split w (Str.ofString "@") from rfl, eL] at e
            rw [e] at c1
            cases c1
          · rfl
        have l2 : L.length = 2 := by
          have z : decide (((L.length : Nat) : Int) = 2) = true := by simpa using c1
          have := of_decide_eq_true z
          omega
        obtain ⟨a, b, rfl⟩ : ∃ a b, L = [a, b] := by
          match L, l2 with
          | [a, b], _ => exact ⟨a, b, rfl⟩
        have ew : wordD p w = match wint a, wint b with
          | some c, some o => if 1 ≤ c ∧ c < p then some (o, c) else none
          | _, _ => none := by
          unfold wordD
          rw [show Txt.split w "@" = Txt.split w (Str.ofString "@") from rfl, eL]
          try rfl
        have la := ha.1 a (by simp)
        have lb := ha.1 b (by simp)
        rw [List.map_cons, List.map_cons, List.map_nil, ix0, ix1]
        dsimp only
        refine ⟨a, rfl, by omega, b, rfl, by omega, ?_⟩
        cases ea : wint a with
        | none => exact if_run (fun _ => hnone (by rw [ew, ea])) fun z => absurd (show true = false from z) (by decide)
        | some c =>
          cases eb : wint b with
          | none => exact if_run (fun z => absurd (show false = true from z) (by decide)) fun _ => if_run (fun _ => hnone (by rw [ew, ea, eb])) fun z => absurd (show true = false from z) (by decide)
          | some o =>
            rw [ea, eb] at ew
            dsimp only at ew
            refine if_run (fun z => absurd (show false = true from z) (by decide)) fun _ => if_run (fun z => absurd (show false = true from z) (by decide)) fun _ => ?_
            rw [show oi (some c) = D.int c from rfl, show oi (some o) = D.int o from rfl]
            dsimp only
            refine if_run (fun c2 => ?_) fun c2 => ?_
            · have c2 : (1 : Int) ≤ c := of_decide_eq_true c2
              refine if_run (fun c3 => ?_) fun c3 => ?_
              · have c3 : ¬ c < p := of_decide_eq_false (by simpa using c3)
                exact hnone (by rw [ew, if_neg (by omega)])
              have c3 : c < p := of_decide_eq_true (by simpa using c3)
              rw [if_pos ⟨c2, c3⟩] at ew
              rw [ew] at h2'
              dsimp only at h2'
              have hb : lateB acc o = true → ∀ n3, n3 = n2 → (2 ≤ 16777216 ∧ 1 ≤ 16777216 ∧ FG_Filter___init__ W [.int p, .lst [.tup [.int o, .int c]]] n3 (fun fs n2 => (∃ fs', D.obj (Str.ofString "Filter") (flt p acc) = D.obj (Str.ofString "Filter") fs') ∧ rOk (Str.ofString "Filter") (D.obj (Str.ofString "Filter") fs) ∧ F_Filter___add__ W [D.obj (Str.ofString "Filter") (flt p acc), D.obj (Str.ofString "Filter") fs] n2 (fun d_4 n1 => K2 [some (.val (.int p)), some (.val (.str t)), some (.val d_4), some (.val (.str w)), some (.val (.lst [.str a, .str b])), some (.val (.int c)), some (.val (.int o))] n1) fun e n => xx e n) fun e n => xx e n) := fun z n3 e3 => by
                subst e3
                refine ⟨by decide, by decide, FG_init_trm (ts := [(o, c)]) rfl hp (by show 1 < _; decide) ⟨⟨_, rfl⟩, rfl, ?_⟩⟩
                have ha1 : D.obj (Str.ofString "Filter") (flt p acc) = fo (lp p acc) := TmOk.fo hp0.1 hok
                have ha2 : D.obj (Str.ofString "Filter") (flt p (canon p [(o, c)])) = fo (lp p [(o, c)]) := by
                  unfold fo
                  rw [can_lp hp0.1]
                  rfl
                rw [ha1, ha2]
                have k1 : nt (lp p acc) ≤ acc.length := by unfold nt; rw [can_lp hp0.1]; exact canon_length p acc
                have k2 : nt (lp p [(o, c)]) ≤ 1 := by unfold nt; rw [can_lp hp0.1]; exact canon_length p [(o, c)]
                refine .inl ⟨p, lp p acc, lp p [(o, c)], rfl, hp, by omega, ?_⟩
                rw [lp_add]
                have hok2 := hok.snoc (t := (o, c)) z ⟨c2, c3⟩
                refine hK2 _ _ ⟨acc ++ [(o, c)], po, some (.val (.str w)), some (.val (.lst [.str a, .str b])), some (.val (.int c)), some (.val (.int o)), rfl, by rw [e2]; simp, ?_, by rw [List.length_append, List.length_append, h3]; rfl, hok2, ?_⟩
                · rw [h2', if_pos z]
                · rw [TmOk.fo hp0.1 hok2]
              refine ⟨flt p acc, rfl, p, acc, rfl, ?_⟩
              dsimp only
              refine if_run (fun c4 => ?_) fun c4 => ?_
              · refine ⟨rfl, p, acc, rfl, ?_⟩
                cases el : acc.getLast? with
                | none =>
                  rw [List.getLast?_eq_none_iff] at el
                  subst el
                  cases c4
                | some z =>
                  show if decide (o ≤ z.1) = true then _ else _
                  refine if_run (fun c5 => ?_) fun c5 => ?_
                  · have c5 : o ≤ z.1 := of_decide_eq_true c5
                    rw [if_neg (by unfold lateB; rw [el]; dsimp only; simpa using c5)] at h2'
                    rw [h2'] at hq
                    exact hq
                  · have c5 : ¬ o ≤ z.1 := of_decide_eq_false c5
                    exact hb (by unfold lateB; rw [el]; exact decide_eq_true (by omega)) _ rfl
              · cases acc with
                | nil => exact hb rfl _ rfl
                | cons z acc => cases c4
            · have c2 : ¬ (1 : Int) ≤ c := of_decide_eq_false c2
              exact hnone (by rw [ew, if_neg (by omega)])
      · obtain ⟨acc, rest, y3, y4, y5, y6, rfl, h1, h2, h3, hok, rfl⟩ := hI
        have hr : rest = [] := by simpa using h1
        subst hr
        walk_at "d"
        rw [h2] at hq
        exact hq
    · have c0 : t = Str.ofString "0" := of_decide_eq_true (by simpa using c0)
      have e : rd p t = some [] := by rw [c0]; rfl
      rw [e] at hq
      refine ⟨by decide, ?_⟩
      rw [forD_nil]
      walk_at "d"
      exact hq
  · have hp0 := isPr_pos hp
    walk_at "d"
    refine FG_init_trm (ts := []) rfl hp (by decide) ?_
    rw [hd1]
    refine ⟨hd2, ?_⟩
    rw [isa_sn hd1 hs]
    exact if_pos rfl ▸ hx
  · walk_at "d"
    exact .inr ⟨dp, _, rfl, .inl ⟨hd, hb, hx⟩⟩
end

end My

namespace My
open PySem PySem.Spec L2 DL
theorem sc__law_told : FnScope ["_law_p", "_law_text_here", "_law_found"] ["_law_p", "_law_text_here"] (defScope (top 40)) := ⟨rfl, rfl, rfl, by decide +kernel, rfl, by decide +kernel, by decide +kernel⟩
section
variable {P : Program} {w : World} {K : PySem.W.Frag} {mg : Str → Option Value} {base : Heap}
theorem ok__law_told (T : Top K mg) : Sg P w K mg base "_law_told" 7 2 FB__law_told [] := by
  obtain ⟨fd, FD⟩ := T.d__law_told
  refine ⟨_, fd, ["_law_p", "_law_text_here"], [], [], ?_, T.g__law_told, FD.kp, FD.bindsN (fun _ _ _ _ _ _ us hl => match us, hl with | [_, _], _ => rfl), .nil, fun _ => .nil⟩
  refine ok_def FD sc__law_told rfl ?_
  rintro X E W ds n q xx ⟨cdv, A, outer, s, H, rfl⟩ hr tk pso hl hF
  have hu := hr.units
  have hu1 := hu_of hr
  refine ⟨_, (pss_consD (ps_setD 2 pd_str sc__law_told.nd)
      (pss_consD (ps_tryAD T.xs (by decide) sc__law_told.nd rfl rfl tk (fun _ _ _ tk pso => (pss_oneD (ps_setD 2 (pd_callTy call_list_of dcall_list (by rfl) T.f_list (by decide +kernel) (pab_cons (PD.pb (pd_meth0 (ok_Filter_terms T) (hr.mono (by decide)) tk (pd_call (ok_read_filter T) (hr.mono (by decide)) tk (by rfl) (pad_cons (pd_var 0) (pad_cons (pd_var 1) pad_nil))))) pab_nil)) sc__law_told.nd))) (.plain ⟨rfl, by decide, .inl T.g_BadText⟩ (fun _ _ _ _ _ _ _ => (pss_oneD (ps_setD 2 pd_non sc__law_told.nd))) (.plain ⟨rfl, by decide, .inl T.g_BadPrime⟩ (fun _ _ _ _ _ _ _ => (pss_oneD (ps_setD 2 pd_str sc__law_told.nd))) .nil)))
      (pss_oneD (ps_retD (pd_var 2))))), ?_⟩
  clear hr tk pso hl hu hu1
  rcases hF with ⟨p, t, rfl, hp, hl, hq⟩ | ⟨p, d, rfl, hp, hd, hs, hx⟩ | ⟨dp, d, rfl, hd, hb, hx⟩
  · walk_at "d"
    refine .inl ⟨p, t, rfl, hp, hl, ?_⟩
    cases e : rd p t with
    | none =>
      rw [e] at hq
      exact ⟨by decide, if_run (fun _ _ _ _ => hq) fun z => absurd z (by decide)⟩
    | some ts =>
      rw [e] at hq
      exact ⟨rfl, rfl, p, ts, rfl, hq⟩
  · walk_at "d"
    exact .inr (.inl ⟨p, d, rfl, hp, hd, hs, by decide, if_run (fun _ _ _ _ => hx) fun z => absurd z (by decide)⟩)
  · walk_at "d"
    exact .inr (.inr ⟨dp, d, rfl, hd, hb, (by decide : Str.ofString "BadPrime" ∈ XS), if_run (fun z => absurd (show xsub (Str.ofString "BadPrime") (Str.ofString "BadText") = true from z) (by decide)) fun _ => if_run (fun _ _ _ _ => hx) fun z => absurd (show xsub (Str.ofString "BadPrime") (Str.ofString "BadPrime") = false from z) (by decide)⟩)
end

end My

namespace My
open PySem PySem.Spec L2 DL
theorem sc_write_filter : FnScope ["f", "terms", "offset", "coefficient"] ["f"] (defScope (top 28)) := ⟨rfl, rfl, rfl, by decide +kernel, rfl, by decide +kernel, by decide +kernel⟩
section
variable {P : Program} {w : World} {K : PySem.W.Frag} {mg : Str → Option Value} {base : Heap}
theorem ok_write_filter (T : Top K mg) : Sg P w K mg base "write_filter" 2 1 F_write_filter [] := by
  obtain ⟨fd, FD⟩ := T.d_write_filter
  refine ⟨_, fd, ["f"], [], [], ?_, T.g_write_filter, FD.kp, FD.bindsN (fun _ _ _ _ _ _ us hl => match us, hl with | [_], _ => rfl), .nil, fun _ => .nil⟩
  refine ok_def FD sc_write_filter rfl ?_
  rintro X E W ds n q xx ⟨cdv, A, outer, s, H, rfl⟩ hr tk pso hl hF
  have hu := hr.units
  have hu1 := hu_of hr
  refine ⟨_, (pss_consD (ps_setD 1 (pd_meth0 (ok_Filter_terms T) (hr.mono (by decide)) tk (pd_var 0)) sc_write_filter.nd)
      (pss_oneD (ps_retD (pd_if (pt_neNil hu (pb_var 1) (PD.pb (PF.pd (pf_lst pad_nil)))) (pd_join pd_str (PF.pd (pf_lc [("offset", 2), ("coefficient", 3)] rfl sc_write_filter.nd (pid_seq (pd_var 1)) (blkOk_by (own := [("offset", 2), ("coefficient", 3)]) (N := ["f", "terms", "offset", "coefficient"]) (sc := defScope (top 28)) (by decide +kernel)) (fun _ _ _ _ _ => (pgd_tup (m := 2) rfl (pgsd_cons (pgd_name 2 sc_write_filter.nd) (pgsd_cons (pgd_name 3 sc_write_filter.nd) pgsd_nil)))) (fun _ _ _ _ _ => ptsD_nil) (fun _ _ _ _ _ => (pd_fs (PJD.cons (pd_hole (pd_var 3)) (PJD.cons pd_str (PJD.cons (pd_hole (pd_var 2)) PJD.nil)))))))) pd_str)))), ?_⟩
  clear hr tk pso hl hu hu1
  obtain ⟨p, ts, rfl, hn, hl, hq⟩ := hF
  walk_at "d"
  refine ⟨p, ts, rfl, ?_⟩
  walk_at "d"
  refine ⟨by decide, if_run (fun c => ?_) fun c => ?_⟩
  · have hne : ts ≠ [] := by
      rintro rfl
      cases c
    refine lcD_all trm (fun t => D.str (wordT t)) ts _ (fun t ht K h => ?_) (by omega) ?_
    · walk_at "d"
      have hg := hn.log ht
      have h1 := hn.near t ht
      have e : (Str.ofString "@").length = 1 := rfl
      have e0 : ∀ x : Str, Str.empty ++ x = x := fun x => TL.ext_tl (by rw [TL.tl_append]; rfl)
      rw [e0]
      refine ⟨hg.2, by omega, by rw [Str.length_append, e]; omega, hg.1, by rw [Str.length_append, Str.length_append, e]; omega, ?_⟩
      exact h
    rw [show ts.map (fun t => D.str (wordT t)) = (ts.map wordT).map D.str by rw [List.map_map]; rfl, strsD_map]
    dsimp only
    have hs := sum_le 42 (ts.map wordT) fun w hw => by
      obtain ⟨t, ht, rfl⟩ := List.mem_map.mp hw
      exact word_len (hn.near t ht)
    rw [List.length_map] at hs
    refine ⟨by rw [List.length_map, show (Str.ofString "+").length = 1 from rfl]; omega, ?_⟩
    unfold txt at hq
    rw [if_neg hne] at hq
    exact hq
  · have hne : ts = [] := by
      cases ts with
      | nil => rfl
      | cons t ts => cases c
    subst hne
    exact hq
end

end My

namespace My
open PySem PySem.Spec L2 DL
theorem sc__law_box : FnScope ["_law_script", "_law_cell"] ["_law_script"] (defScope (top 31)) := ⟨rfl, rfl, rfl, by decide +kernel, rfl, by decide +kernel, by decide +kernel⟩
theorem sc_law : FnScope ["_law_script", "_law_box_here", "_law_turn", "_law_p", "_law_pairs", "_law_text_here", "_law_k", "_law_at", "_law_sign", "_law_way", "_law_bent", "_law_odds", "_law_odd"] ["_law_script"] (defScope (top 41)) := ⟨rfl, rfl, rfl, by decide +kernel, rfl, by decide +kernel, by decide +kernel⟩
section
variable {P : Program} {w : World} {K : PySem.W.Frag} {mg : Str → Option Value} {base : Heap}


def spSpring (K : PySem.W.Frag) : Sp := fun vs H Q _ => ∃ (a : Addr) (ns : List Int), vs = [.ref a] ∧ SqL K H a (ns.map V.int) ∧ ns.length ≤ 63 ∧ ∀ (l1 l2 : List Int) (c e s0 : Addr), H c = none → H e = none → H s0 = none → (s0 ≠ c ∧ s0 ≠ e ∧ c ≠ e) → Q (.ref s0) (upd (upd (upd H c (.lst (l1.map V.int))) e (.lst (l2.map V.int))) s0 (.lst [.ref c, .int 0, .ref e, .int 0]))
theorem sqL_upd {H : Hp} {a D : Addr} {o : HO} {xs : List V} (h : SqL K H a xs) (n : H D = none) : SqL K (upd H D o) a xs := by
  rcases h with (h | ⟨x, h⟩) | h
  · exact .inl (.inl (by rw [upd_ne (fun z => by rw [z, n] at h; cases h)]; exact h))
  · exact .inl (.inr ⟨x, by rw [upd_ne (fun z => by rw [z, n] at h; cases h)]; exact h⟩)
  · exact .inr h
theorem ok__law_spring (T : Top K mg) : ∃ fd, FnOk P w K mg base (L2.CX P w) 1 (ca K "_law_box") fd ["_law_script"] (spSpring K) ∧ PySem.W.keepIn K (.ref (ca K "_law_box")) = true ∧ Binds K fd ["_law_script"] [] := by
  obtain ⟨fd, FD⟩ := T.d__law_box
  refine ⟨fd, ?_, FD.kp, FD.bindsN (fun _ _ _ _ _ _ us hl => match us, hl with | [_], _ => rfl)⟩
  refine FD.ok sc__law_box (fun vs H Q E h => ?_) (fun cdv A outer sh H vs Q E hr h => ?_)
  · obtain ⟨a, ns, rfl, _⟩ := h
    rfl
  · obtain ⟨a, ns, rfl, hS, hl, hQ⟩ := h
    refine ⟨_, pss_one (ps_ret (pe_lst (pa_cons (pe_lc (own := [("_law_cell", 1)]) (g := gName 1) (by rfl) sc__law_box.nd (pi_list (pv 0)) (blkOk_by (own := [("_law_cell", 1)]) (N := ["_law_script", "_law_cell"]) (sc := defScope (top 31)) (by decide +kernel)) (fun _ _ _ _ _ => pg_name (i := 1) sc__law_box.nd rfl (Or.inl rfl)) (fun _ _ _ _ _ => pts_one (pt_cmpR op_ge (pv 1) (pe_op op_pow pe_int pe_int) (nomark _))) (fun _ _ _ _ _ => pv 1))
      (pa_cons pe_int (pa_cons (pe_lc (own := [("_law_cell", 1)]) (g := gName 1) (by rfl) sc__law_box.nd (pi_list (pv 0)) (blkOk_by (own := [("_law_cell", 1)]) (N := ["_law_script", "_law_cell"]) (sc := defScope (top 31)) (by decide +kernel)) (fun _ _ _ _ _ => pg_name (i := 1) sc__law_box.nd rfl (Or.inl rfl)) (fun _ _ _ _ _ => pts_one (pt_cmpR op_lt (pv 1) (pe_op op_pow pe_int pe_int) (nomark _))) (fun _ _ _ _ _ => pv 1))
        (pa_cons pe_int pa_nil)))))), ?_⟩
    refine ⟨_, rfl, a, rfl, ⟨_, hS⟩, fun c nc => ?_⟩
    refine lc_list (xs := ns.map V.int) (fun i H' => ∃ l : List Int, H' = upd H c (.lst (l.map V.int)) ∧ l.length ≤ i) ⟨[], rfl, Nat.le_refl _⟩ (fun i H' _ hp => ?_) (fun i x H' hx hp => ?_) (fun H' hp => ?_)
    · obtain ⟨l, rfl, _⟩ := hp
      exact sqL_upd hS nc
    · obtain ⟨l, rfl, hli⟩ := hp
      rw [List.getElem?_map] at hx
      cases e : ns[i]? with
      | none => rw [e] at hx; cases hx
      | some y =>
        rw [e] at hx
        cases hx
        have hi : i < ns.length := (List.getElem?_eq_some_iff.mp e).1
        refine ⟨rfl, ?_⟩
        refine ⟨_, rfl, ?_⟩
        refine ⟨_, _, rfl, rfl, ⟨by decide, by decide, by decide⟩, ?_⟩
        refine ⟨_, _, rfl, rfl, _, rfl, ?_⟩
        refine if_run (fun hb => ?_) (fun hb => ?_)
        · refine ⟨_, rfl, l.map V.int, upd_same, by rw [List.length_map, sizeLine_eq]; omega, l ++ [y], by rw [upd_upd, List.map_append]; rfl, by rw [List.length_append, List.length_singleton]; omega⟩
        · exact ⟨l, rfl, by omega⟩
    obtain ⟨l1, rfl, _⟩ := hp
    refine ⟨_, rfl, a, rfl, ⟨_, sqL_upd hS nc⟩, fun e ne => ?_⟩
    have nec : e ≠ c := fun z => by rw [z, upd_same] at ne; cases ne
    have ne' : H e = none := by rw [upd_ne nec] at ne; exact ne
    refine lc_list (xs := ns.map V.int) (fun i H' => ∃ l : List Int, H' = upd (upd H c (.lst (l1.map V.int))) e (.lst (l.map V.int)) ∧ l.length ≤ i) ⟨[], rfl, Nat.le_refl _⟩ (fun i H' _ hp => ?_) (fun i x H' hx hp => ?_) (fun H' hp => ?_)
    · obtain ⟨l, rfl, _⟩ := hp
      exact sqL_upd (sqL_upd hS nc) ne
    · obtain ⟨l, rfl, hli⟩ := hp
      rw [List.getElem?_map] at hx
      cases e2 : ns[i]? with
      | none => rw [e2] at hx; cases hx
      | some y =>
        rw [e2] at hx
        cases hx
        have hi : i < ns.length := (List.getElem?_eq_some_iff.mp e2).1
        refine ⟨rfl, ?_⟩
        refine ⟨_, rfl, ?_⟩
        refine ⟨_, _, rfl, rfl, ⟨by decide, by decide, by decide⟩, ?_⟩
        refine ⟨_, _, rfl, rfl, _, rfl, ?_⟩
        refine if_run (fun hb => ?_) (fun hb => ?_)
        · refine ⟨_, rfl, l.map V.int, upd_same, by rw [List.length_map, sizeLine_eq]; omega, l ++ [y], by rw [upd_upd, List.map_append]; rfl, by rw [List.length_append, List.length_singleton]; omega⟩
        · exact ⟨l, rfl, by omega⟩
    obtain ⟨l2, rfl, _⟩ := hp
    refine ⟨by show 4 ≤ sizeLine; decide, fun s0 ns0 => ?_⟩
    have n1 : s0 ≠ e := fun z => by rw [z, upd_same] at ns0; cases ns0
    rw [upd_ne n1] at ns0
    have n2 : s0 ≠ c := fun z => by rw [z, upd_same] at ns0; cases ns0
    rw [upd_ne n2] at ns0
    exact hQ l1 l2 c e s0 nc ne' ns0 ⟨n2, n1, Ne.symm nec⟩
def spLaw (K : PySem.W.Frag) : Sp := fun vs H Q _ => ∃ (a : Addr) (ns : List Int), vs = [.ref a] ∧ SqL K H a (ns.map V.int) ∧ ns.length ≤ 63 ∧ (∀ x ∈ tfn, H (He.cT K (x, none)).2 = some (.tbl #[])) ∧ ∀ H', Q (.bl true) H'
theorem ok_law (T : Top K mg) {fd : FuncData} (FD : FunD K "law" "law" (defArgs (top 41)) (defBody (top 41)) (defScope (top 41)) [] [] (ca K "law") fd) (TBS : TBs K mg base) : FnOk P w K mg base (L2.CX P w) 8 (ca K "law") fd ["_law_script"] (spLaw K) := by
  refine okC (p := ("law", none)) FD sc_law (fun vs H Q E h => ?_) (fun cdv A outer sh H vs Q E hcdv hr h => ?_)
  · obtain ⟨a, ns, rfl, _⟩ := h
    rfl
  · obtain ⟨a, ns, rfl, hS, hl, hTb, hQ⟩ := h

    obtain ⟨fdS, okS, kpS, hbS⟩ := ok__law_spring (P := P) (w := w) (base := base) T
    have hu := hr.units
    have hu1 := hu_of hr
    have tk : Takes (cxOf (L2.CX P w) P w K mg base ["_law_script", "_law_box_here", "_law_turn", "_law_p", "_law_pairs", "_law_text_here", "_law_k", "_law_at", "_law_sign", "_law_way", "_law_bent", "_law_odds", "_law_odd"] "law" (defScope (top 41)) (ca K "law") cdv A outer sh H E) (fun c d _ H => E c d H) := takes_of rfl rfl rfl rfl
    have pso : PassesOwn (model P w) (cxOf (L2.CX P w) P w K mg base ["_law_script", "_law_box_here", "_law_turn", "_law_p", "_law_pairs", "_law_text_here", "_law_k", "_law_at", "_law_sign", "_law_way", "_law_bent", "_law_odds", "_law_odd"] "law" (defScope (top 41)) (ca K "law") cdv A outer sh H E).A (cxOf (L2.CX P w) P w K mg base ["_law_script", "_law_box_here", "_law_turn", "_law_p", "_law_pairs", "_law_text_here", "_law_k", "_law_at", "_law_sign", "_law_way", "_law_bent", "_law_odds", "_law_odd"] "law" (defScope (top 41)) (ca K "law") cdv A outer sh H E).env (cxOf (L2.CX P w) P w K mg base ["_law_script", "_law_box_here", "_law_turn", "_law_p", "_law_pairs", "_law_text_here", "_law_k", "_law_at", "_law_sign", "_law_way", "_law_bent", "_law_odds", "_law_odd"] "law" (defScope (top 41)) (ca K "law") cdv A outer sh H E).xe := passes_of rfl
    obtain ⟨δ, ⟨t2, p2, e2⟩, h2⟩ : ∃ δ, PSsD (cxOf (L2.CX P w) P w K mg base ["_law_script", "_law_box_here", "_law_turn", "_law_p", "_law_pairs", "_law_text_here", "_law_k", "_law_at", "_law_sign", "_law_way", "_law_bent", "_law_odds", "_law_odd"] "law" (defScope (top 41)) (ca K "law") cdv A outer sh H E) (fun c d _ H => E c d H) ((defBody (top 41)).drop 1) δ ∧ ∀ (W : Wd) (s0 : Addr) (c : SpC), W = sprW s0 c → (∀ x ∈ tfn, LW K x W) → δ (endsD W (fun d _ => d = .bl true) (fun _ _ => False)) [none, some (.val (.hnd s0)), none, none, none, none, none, none, none, none, none, none, none] 0 := by
      refine ⟨_, (pss_consD (ps_forD pso rfl (pid_r1 (by rfl) T.f_range (pab_cons (PD.pb pd_int) pab_nil)) (pgd_name 2 sc_law.nd) (pss_consD (ps_setD 3 (pd_call (ok__law_prime T) (hr.mono (by decide)) tk (by rfl) (pad_cons (pd_var 1) pad_nil)) sc_law.nd)
      (pss_consD (ps_setD 4 (pd_call (ok__law_far_filter T) (hr.mono (by decide)) tk (by rfl) (pad_cons (pd_var 1) (pad_cons (pd_var 3) pad_nil))) sc_law.nd)
      (pss_consD (ps_setD 5 (pd_call (ok_write_filter T) (hr.mono (by decide)) tk (by rfl) (pad_cons (pd_make (ok_Filter___init__ T) (hr.mono (by decide)) tk (by rfl) (pad_cons (pd_var 3) (pad_cons (pd_var 4) pad_nil))) pad_nil)) sc_law.nd)
      (pss_consD (ps_ifD (PWD.pt (pwd_or (pt_neS (pb_var 5) (PD.pb (pd_call (ok__law_text T) (hr.mono (by decide)) tk (by rfl) (pad_cons (pd_var 4) pad_nil)))) (pwd_or1 (pt_ne hu (PD.pb (pd_call (ok__law_told T) (hr.mono (by decide)) tk (by rfl) (pad_cons (pd_var 3) (pad_cons (pd_var 5) pad_nil)))) (pb_var 4))))) (pss_oneD (ps_retD pd_bl)) pss_nilD)
      (pss_consD (ps_forD pso rfl (pid_r1 (by rfl) T.f_range (pab_cons (PD.pb pd_int) pab_nil)) (pgd_name 6 sc_law.nd) (pss_consD (ps_setD 7 (pd_call (ok__law_take T) (hr.mono (by decide)) tk (by rfl) (pad_cons (pd_var 1) (pad_cons (pd_add (PD.pb (pd_callB call_len dcall_lenS (by rfl) T.f_len (by decide +kernel) (pab_cons (pb_var 5) pab_nil))) (PD.pb pd_int)) pad_nil))) sc_law.nd)
      (pss_consD (ps_parD 8 9 rfl sc_law.nd (pad_cons (pd_call (ok__law_pick T) (hr.mono (by decide)) tk (by rfl) (pad_cons (pd_var 1) (pad_cons (pd_add (PD.pb (PF.pd (pf_listS (k := 0) (hr.mono (by decide)) (by rfl) T.f_list (pad_cons pd_str pad_nil)))) (PD.pb (PF.pd (pf_lst (pad_cons pd_str (pad_cons pd_str (pad_cons pd_str (pad_cons pd_str pad_nil)))))))) pad_nil))) (pad_cons (pd_call (ok__law_take T) (hr.mono (by decide)) tk (by rfl) (pad_cons (pd_var 1) (pad_cons pd_int pad_nil))) pad_nil)))
      (pss_consD (ps_setD 10 (pd_add (PD.pb (pd_add (PD.pb (pd_slS (pd_var 5) pdo_none (pdo_some (pb_var 7)))) (PD.pb (pd_ix (PD.pb (PF.pd (pf_lst (pad_cons pd_str (pad_cons (pd_var 8) (pad_cons (pd_var 8) pad_nil)))))) (pb_var 9))))) (PD.pb (pd_slS (pd_var 5) (pdo_some (PD.pb (pd_add (pb_var 7) (PD.pb (pd_ix (PD.pb (PF.pd (pf_lst (pad_cons pd_int (pad_cons pd_int (pad_cons pd_int pad_nil)))))) (pb_var 9)))))) pdo_none))) sc_law.nd)
      (pss_oneD (ps_ifD (pt_ne hu (PD.pb (pd_call (ok__law_told T) (hr.mono (by decide)) tk (by rfl) (pad_cons (pd_var 3) (pad_cons (pd_var 10) pad_nil)))) (PD.pb (pd_call (ok__law_read T) (hr.mono (by decide)) tk (by rfl) (pad_cons (pd_var 3) (pad_cons (pd_var 10) pad_nil))))) (pss_oneD (ps_retD pd_bl)) pss_nilD))))))
      (pss_consD (ps_setD 11 (PF.pd (pf_lst (pad_cons pd_non (pad_cons pd_int (pad_cons (PF.pd (pf_lst (pad_cons pd_str pad_nil))) (pad_cons (PF.pd pf_dct0) (pad_cons pd_bl (pad_cons pd_str (pad_cons pd_str (pad_cons pd_str (pad_cons pd_str (pad_cons pd_str (pad_cons pd_str (pad_cons (pd_add (PD.pb (pd_callTy call_str_int dcall_strI (by rfl) T.f_str (by decide +kernel) (pab_cons (pb_var 3) pab_nil))) (PD.pb pd_str)) (pad_cons pd_str pad_nil))))))))))))))) sc_law.nd)
      (pss_consD (ps_ifD (ptd_not (pt_valD (PD.pb (pd_callB (cr_all rfl) dcall_all (by rfl) T.f_all (by decide +kernel) (pab_cons (PD.pb (PF.pd (pf_lc [("_law_odd", 12)] rfl sc_law.nd (pid_seq (pd_add (pb_var 11) (PD.pb (PF.pd (pf_lst (pad_cons pd_str (pad_cons pd_str (pad_cons pd_str (pad_cons pd_str pad_nil))))))))) (blkOk_by (own := [("_law_odd", 12)]) (N := ["_law_script", "_law_box_here", "_law_turn", "_law_p", "_law_pairs", "_law_text_here", "_law_k", "_law_at", "_law_sign", "_law_way", "_law_bent", "_law_odds", "_law_odd"]) (sc := defScope (top 41)) (by decide +kernel)) (fun _ _ _ _ _ => (pgd_name 12 sc_law.nd)) (fun _ _ _ _ _ => ptsD_nil) (fun _ _ _ _ _ => (pd_is (PD.pb (pd_call (ok__law_told T) (hr.mono (by decide)) DL.takes0 (by rfl) (pad_cons (pd_var 3) (pad_cons (pd_var 12) pad_nil)))) (PD.pb pd_non)))))) pab_nil))))) (pss_oneD (ps_retD pd_bl)) pss_nilD)
      (pss_oneD (ps_ifD (pt_ne hu (PD.pb (pd_call (ok__law_told T) (hr.mono (by decide)) tk (by rfl) (pad_cons (pd_call (ok__law_pick T) (hr.mono (by decide)) tk (by rfl) (pad_cons (pd_var 1) (pad_cons (PF.pd (pf_lst (pad_cons pd_int (pad_cons pd_int (pad_cons pd_int (pad_cons pd_int (pad_cons pd_non (pad_cons pd_bl (pad_cons pd_str (pad_cons (PF.pd (pf_lst (pad_cons pd_int pad_nil))) pad_nil)))))))))) pad_nil))) (pad_cons pd_str pad_nil)))) (PD.pb pd_str)) (pss_oneD (ps_retD pd_bl)) pss_nilD))))))))))
      (pss_oneD (ps_retD (pd_eqS (PD.pb (pd_call (ok_write_filter T) (hr.mono (by decide)) tk (by rfl) (pad_cons (pd_make (ok_Filter___init__ T) (hr.mono (by decide)) tk (by rfl) (pad_cons pd_int (pad_cons (PF.pd (pf_lst (pad_cons (pd_tup (pad_cons (pd_neg (PD.pb pd_int)) (pad_cons pd_int pad_nil))) (pad_cons (pd_tup (pad_cons pd_int (pad_cons pd_int pad_nil))) (pad_cons (pd_tup (pad_cons pd_int (pad_cons pd_int pad_nil))) pad_nil))))) pad_nil))) pad_nil))) (PD.pb pd_str))))), ?_⟩
      intro W s0 c hW hL
      have hW' : ∃ c, W = sprW s0 c := ⟨c, hW⟩
      classical
      clear hr hu hu1 tk pso okS kpS hbS hS hQ hTb
      refine dSeq_at fun R0 hR0 => ?_
      walk_at "d"
      refine ⟨by decide, ?_⟩
      refine forD_ind (fun ρ n k => (∃ (y_turn y_p y_pairs y_text_here y_k y_at y_sign y_way y_bent y_odds y_odd : Option Sl), ρ = [none, some (.val (.hnd s0)), y_turn, y_p, y_pairs, y_text_here, y_k, y_at, y_sign, y_way, y_bent, y_odds, y_odd]) ∧ n + 1000 * k ≤ 9000) (fun ρ n k d R hI hR => ?_) (fun ρ n hI => ?_) _ _ _ ⟨⟨_, _, _, _, _, _, _, _, _, _, _, rfl⟩, by rw [rng_len]; decide⟩
      · obtain ⟨⟨y_turn, y_p, y_pairs, y_text_here, y_k, y_at, y_sign, y_way, y_bent, y_odds, y_odd, rfl⟩, hn⟩ := hI
        show dSeq _ _ _ _ _
        refine dSeq_at fun R1 hR1 => ?_
        walk_at "d"
        refine ⟨s0, rfl, hW', by omega, fun p hp => ?_⟩
        have hp0 := isPr_pos hp
        subst hR1
        refine dSeq_at fun R1 hR1 => ?_
        walk_at "d"
        refine ⟨s0, p, rfl, hW', hp, by omega, fun x n1 hx hl hn1 => ?_⟩
        subst hR1
        refine dSeq_at fun R1 hR1 => ?_
        walk_at "d"
        unfold pk
        refine FG_init_trm (ts := can x) rfl hp (by omega) ?_
        have hok := TmOk.of_can hp0.1 x
        rw [hok.canon hp0.1]
        refine ⟨p, can x, rfl, hx, hl, ?_⟩
        have htl := txt_len hx.near hl
        have hrd := rd_txt hok hx.near
        generalize hT : txt (can x) = T at htl hrd
        subst hR1
        refine dSeq_at fun R1 hR1 => ?_
        walk_at "d"
        refine ⟨can x, rfl, hx, hl, ?_⟩
        rw [hT]
        dsimp only
        refine if_run (fun z => absurd z (by simp)) fun _ => ?_
        refine .inl ⟨p, T, rfl, hp, by omega, ?_⟩
        rw [hrd]
        refine ⟨sh_tms (some (can x)), sh_trms _, if_run (fun z => ?_) fun _ => ?_⟩
        · rw [show (D.lst ((can x).map trm)) = tmsD (some (can x)) from rfl, eqv_tms] at z
          cases z
        subst hR1
        refine dSeq_at fun R1 hR1 => ?_
        walk_at "d"
        refine ⟨⟨by decide, by decide⟩, ?_⟩
        refine forD_ind (fun ρ n2 k2 => (∃ (y_k y_at y_sign y_way y_bent y_odds y_odd : Option Sl), ρ = [none, some (.val (.hnd s0)), some (.val d), some (.val (.int p)), some (.val (.lst ((can x).map trm))), some (.val (.str T)), y_k, y_at, y_sign, y_way, y_bent, y_odds, y_odd]) ∧ n2 + 10 * k2 ≤ n1 + 40) (fun ρ n2 k2 d2 R2 hI hR2 => ?_) (fun ρ n2 hI => ?_) _ _ _ ⟨⟨_, _, _, _, _, _, _, rfl⟩, by rw [rng_len]; show n1 + 10 * 4 ≤ n1 + 40; omega⟩
        · obtain ⟨⟨y_k, y_at, y_sign, y_way, y_bent, y_odds, y_odd, rfl⟩, hn2⟩ := hI
          walk_at "d"
          refine ⟨by omega, hW', by omega, by omega, by omega, fun at_ hat => ?_⟩
          dsimp only
          have hpick : ∀ d ∈ (chrs (Str.ofString "0123456789@+- ,a") ++ [D.str (Str.ofString "+1@0"), D.str (Str.ofString "00"), D.str (Str.ofString "-0"), D.str (Str.ofString "\n")]), ∃ y : Str, d = .str y ∧ y.length ≤ 4 := fun d hd => by
            rcases List.mem_append.mp hd with hd | hd
            · obtain ⟨z, _, rfl⟩ := List.mem_map.mp hd
              exact ⟨_, rfl, by show 1 ≤ 4; decide⟩
            · simp only [List.mem_cons, List.not_mem_nil, or_false] at hd
              rcases hd with rfl | rfl | rfl | rfl <;> exact ⟨_, rfl, by decide⟩
          refine ⟨by decide, by decide, by decide, hW', by decide, by decide, by omega, fun y hy => ?_⟩
          obtain ⟨y, rfl, hyl⟩ := hpick y hy
          refine ⟨hW', by decide, by decide, by omega, fun w hw => ?_⟩
          obtain ⟨b, j, e1, e2, hb⟩ : ∃ (b : Str) (j : Nat), atI [D.str (Str.ofString ""), D.str y, D.str y] ((w : Nat) : Int) = some (.str b) ∧ atI [D.int 1, D.int 0, D.int 1] ((w : Nat) : Int) = some (.int (j : Int)) ∧ b.length ≤ 4 := by
            have hw3 : w < 3 := by omega
            match w, hw3 with
            | 0, _ => exact ⟨_, 1, rfl, rfl, by decide⟩
            | 1, _ => exact ⟨_, 0, rfl, rfl, hyl⟩
            | 2, _ => exact ⟨_, 1, rfl, rfl, hyl⟩
          dsimp only
          rw [e1, e2]
          dsimp only
          have l1 := cut_fst T at_
          have l2 := cut_snd T (at_ + j)
          rw [Int.natCast_add] at l2
          have l3 : (cutS T none (some (at_ : Int)) ++ b ++ cutS T (some ((at_ : Int) + (j : Int))) none).length ≤ 400 := by
            rw [Str.length_append, Str.length_append]
            omega
          generalize cutS T none (some (at_ : Int)) = c1 at l1 l3
          generalize cutS T (some ((at_ : Int) + (j : Int))) none = c2 at l2 l3
          have l4 : (c1 ++ b).length = c1.length + b.length := Str.length_append ..
          refine ⟨by omega, by decide, by omega, by decide, by omega, by omega, .inl ⟨p, _, rfl, hp, l3, p, _, rfl, hp, l3, sh_tms _, sh_tms _, if_run (fun z => ?_) fun _ => ?_⟩⟩
          · rw [eqv_tms] at z
            cases z
          · exact hR2 _ _ ⟨⟨_, _, _, _, _, _, _, rfl⟩, by omega⟩
        · obtain ⟨⟨y_k, y_at, y_sign, y_way, y_bent, y_odds, y_odd, rfl⟩, hn2⟩ := hI
          subst hR1
          dsimp only
          refine dSeq_at fun R1 hR1 => ?_
          walk_at "d"
          have e0 := len_digit (i := p) (by omega)
          refine ⟨by decide, log_lt (by omega), by rw [show (Str.ofString "@0").length = 2 from rfl]; omega, by decide, ?_⟩
          subst hR1
          refine dSeq_at fun R1 hR1 => ?_
          walk_at "d"
          refine ⟨by decide, by decide, ?_⟩
          have odd : ∀ d ∈ ([D.non, D.int 5, D.lst [D.str (Str.ofString "0")], D.dct [], D.bl true, D.str (Str.ofString ""), D.str (Str.ofString "1"), D.str (Str.ofString "@"), D.str (Str.ofString "1@"), D.str (Str.ofString "1@0+"), D.str (Str.ofString "1@1+1@1"), D.str (Str.ofString (toString p) ++ Str.ofString "@0"), D.str (Str.ofString "-1@0"), D.str (Str.ofString "1@-0"), D.str (Str.ofString "1@0 "), D.str (Str.ofString " 0"), D.str (Str.ofString "0@0")] : List D), (∃ t : Str, d = .str t ∧ t.length ≤ 400 ∧ rd p t = none) ∨ (okD d ∧ isStr d = false) := fun d hd => odds_ok hp d hd
          refine lcD_map yesF _ _ _ (fun d hd K h => ?_) (by show 0 + 17 < _; decide) ?_
          · walk_at "d"
            rcases odd d hd with ⟨t, rfl, h1, h2⟩ | ⟨h1, h2⟩
            · exact .inl ⟨p, t, rfl, hp, h1, by rw [h2]; exact h⟩
            · exact .inr (.inl ⟨p, d, rfl, hp, h1, h2, h⟩)
          rw [List.nil_append, bools_yes]
          dsimp only
          refine if_run (fun z => ?_) fun _ => ?_
          · rw [all_yes] at z
            cases z
          subst hR1
          walk_at "d"
          refine ⟨by decide, by decide, hW', by decide, by decide, by omega, fun d5 hd5 => .inr (.inr ⟨d5, _, rfl, ?_, ?_, by decide +kernel, by decide +kernel, if_run (fun z => absurd z (by decide +kernel)) fun _ => ?_⟩)⟩
          · simp only [List.mem_cons, List.not_mem_nil, or_false] at hd5
            rcases hd5 with rfl | rfl | rfl | rfl | rfl | rfl | rfl | rfl <;> exact ⟨_, rfl, fun c e => nomatch e⟩
          · simp only [List.mem_cons, List.not_mem_nil, or_false] at hd5
            rcases hd5 with rfl | rfl | rfl | rfl | rfl | rfl | rfl | rfl <;> decide
          · exact hR _ _ ⟨⟨_, _, _, _, _, _, _, _, _, _, _, rfl⟩, by omega⟩
      · obtain ⟨⟨y_turn, y_p, y_pairs, y_text_here, y_k, y_at, y_sign, y_way, y_bent, y_odds, y_odd, rfl⟩, hn⟩ := hI
        subst hR0
        walk_at "d"
        refine ⟨by decide, by decide, by decide, by decide, FG_init_trm (ts := [(-3, 6), (0, 0), (2, 8)]) rfl (by decide) (by decide) ?_⟩
        have e : canon 7 [(-3, 6), (0, 0), (2, 8)] = [(-3, 6), (2, 1)] := by
          have z : TmOk 7 [(-3, 6), (2, 1)] := ⟨by decide, by decide⟩
          rw [← z.canon (by decide)]
          refine canon_ext (by decide) fun x => ?_
          simp only [csum_cons, csum_nil]
          split <;> split <;> split <;> omega
        rw [e]
        refine ⟨7, [(-3, 6), (2, 1)], rfl, (fun t ht => ?_), by decide, ?_⟩
        · simp only [List.mem_cons, List.not_mem_nil, or_false] at ht
          rcases ht with rfl | rfl <;> decide
        · have e2 : txt [(-3, 6), (2, 1)] = Str.ofString "6@-3+1@2" := by decide +kernel
          rw [e2]
          show D.bl (decide _) = _
          rw [decide_eq_true rfl]
    refine ⟨_, pss_cons (ps_set (i := 1) sc_law.nd rfl (by first | exact Or.inl rfl | exact Or.inr rfl) (pe_callSD okS (hr.mono (by decide)) (by rfl) T.g__law_box kpS hbS .nil (fun σ => passAt tk σ) (pa_cons (pv 0) pa_nil))) p2, ?_⟩
    refine ⟨_, rfl, a, ns, rfl, hS, hl, fun l1 l2 c e s0 nc ne' ns0 ⟨n1, n2, n3⟩ => ?_⟩
    have nPc : ∀ x ∈ tfn, (He.cT K (x, none)).2 ≠ c := fun x hx => ne_of_none (hTb x hx) nc
    have nPe : ∀ x ∈ tfn, (He.cT K (x, none)).2 ≠ e := fun x hx => ne_of_none (hTb x hx) ne'
    have nPs : ∀ x ∈ tfn, (He.cT K (x, none)).2 ≠ s0 := fun x hx => ne_of_none (hTb x hx) ns0
    have j0 : (sprW s0 ((c, e), tblOf K tfn)).J 0 (upd (upd (upd H c (.lst (l1.map V.int))) e (.lst (l2.map V.int))) s0 (.lst [.ref c, .int 0, .ref e, .int 0])) := ⟨⟨⟨n1, n2, n3⟩, l1, l2, 0, upd_same, by rw [upd_ne (Ne.symm n1), upd_ne n3, upd_same], by rw [upd_ne (Ne.symm n2), upd_same]⟩, fun p hp => by
      obtain ⟨x, hx, rfl⟩ := List.mem_map.mp hp
      exact LamX.TabS.nil (by rw [upd_ne (nPs x hx), upd_ne (nPe x hx), upd_ne (nPc x hx)]; exact hTb x hx)⟩
    refine e2 ⟨sprW s0 ((c, e), tblOf K tfn), K, _, fun _ => none, none⟩ _ _ [none, some (.val (.hnd s0)), none, none, none, none, none, none, none, none, none, none, none] 0 (fun _ => none) (fun _ => 0) _ _ rfl ⟨.refl _ (fun a o e => nomatch e), fun _ _ => rfl, j0, rfl, fun i d h => ?_, fun i d h => ?_, fun i j d e h => ?_, (fun a d h => nomatch h), Gh.nil fun i r gs h => ?_⟩ ?_ (h2 _ s0 ((c, e), tblOf K tfn) rfl (fun x hx => sprW_lam (List.mem_map.mpr ⟨x, hx, rfl⟩) (nodup_at T.tbl (List.mem_map.mpr ⟨x, hx, rfl⟩))))
    · match i, h with
      | 1, h => cases h; exact ⟨_, rfl, .hnd _⟩
      | 0, h => exact nomatch h
      | 2, h => exact nomatch h
      | 3, h => exact nomatch h
      | 4, h => exact nomatch h
      | 5, h => exact nomatch h
      | 6, h => exact nomatch h
      | 7, h => exact nomatch h
      | 8, h => exact nomatch h
      | 9, h => exact nomatch h
      | 10, h => exact nomatch h
      | 11, h => exact nomatch h
      | 12, h => exact nomatch h
      | (i + 13), h => exact nomatch h
    · match i, h with
      | 0, h => exact nomatch h
      | 1, h => exact nomatch h
      | 2, h => exact nomatch h
      | 3, h => exact nomatch h
      | 4, h => exact nomatch h
      | 5, h => exact nomatch h
      | 6, h => exact nomatch h
      | 7, h => exact nomatch h
      | 8, h => exact nomatch h
      | 9, h => exact nomatch h
      | 10, h => exact nomatch h
      | 11, h => exact nomatch h
      | 12, h => exact nomatch h
      | (i + 13), h => exact nomatch h
    · match i, h with
      | 0, h => exact nomatch h
      | 1, h => exact nomatch h
      | 2, h => exact nomatch h
      | 3, h => exact nomatch h
      | 4, h => exact nomatch h
      | 5, h => exact nomatch h
      | 6, h => exact nomatch h
      | 7, h => exact nomatch h
      | 8, h => exact nomatch h
      | 9, h => exact nomatch h
      | 10, h => exact nomatch h
      | 11, h => exact nomatch h
      | 12, h => exact nomatch h
      | (i + 13), h => exact nomatch h
    · match i, h with
      | 0, h => exact nomatch h
      | 1, h => exact nomatch h
      | 2, h => exact nomatch h
      | 3, h => exact nomatch h
      | 4, h => exact nomatch h
      | 5, h => exact nomatch h
      | 6, h => exact nomatch h
      | 7, h => exact nomatch h
      | 8, h => exact nomatch h
      | 9, h => exact nomatch h
      | 10, h => exact nomatch h
      | 11, h => exact nomatch h
      | 12, h => exact nomatch h
      | (i + 13), h => exact nomatch h
    · refine ⟨fun σ H' ρ n' G' α R hq => (nomatch (show D.non = D.bl true from hq)), fun v H' d n' G' st j r hq => ?_, fun _ _ _ _ _ _ _ h => False.elim h, fun _ _ _ _ _ _ _ h => False.elim h, fun c dd σ H' ρ n' G' α e R r hq => False.elim hq, rfl, fun _ _ _ _ _ _ _ _ h => False.elim h⟩
      cases hq
      cases r
      exact hQ _
end

end My

namespace My
open PySem PySem.Spec PyProof.Rows L2 DL
theorem facts {P : Program} {w : World} {K : PySem.W.Frag} {h : Heap} {mg : Str → Option Value} {f : Addr} (X : K.In h) (G : h.Ns mainGlobals mg) (hfa : mg ("law" : Str) = some (.ref f)) (c : He.SaysD fa fn K) (cm : He5.SaysA [] cmf K) (hx : exB K = true) :
    ∃ fd : FuncData, (∀ (s : Shared) (v : Value), BindsTo s fd ⟨[v], []⟩ [("_law_script", v)]) ∧ ∀ base : Heap, K.In base → base.Ns mainGlobals mg → (∀ p ∈ tf.map (He.cT K), LamX.TabB base mg p.1 p.2) → FnOk P w K mg base (L2.CX P w) 8 f fd ["_law_script"] (spLaw K) := by
  have T : Top K mg := ⟨c, hx, cm, h, X, G⟩
  obtain ⟨fd, FD⟩ := T.d_law
  have e := hfa.symm.trans T.g_law
  cases e
  have b := FunD.bindsA (ps := ["_law_script"]) FD fun _ _ _ _ _ _ us hl => match us, hl with | [_], _ => rfl
  exact ⟨fd, fun s v => b s [v] rfl, fun base _ _ hT => ok_law T FD (fun x hx => hT _ (List.mem_map.mpr ⟨(x, none), tf_mem hx, rfl⟩))⟩
end My
open PySem PySem.W PySem.Calls PyProof.Rows
theorem PySem.Challenge.cw_seenrows_k59_filter_texts_holds : PySem.Challenge.rw_seenrows_k59_filter_texts.Holds := by
  refine My.pre fun said => ?_
  refine HandSHeadRun.head_any (r := OpenLaw.row PySem.Challenge.rw_seenrows_k59_filter_texts) (q := view (OpenLaw.row PySem.Challenge.rw_seenrows_k59_filter_texts).prog [41]) (H := My.hk) (ob := My.ob) (M := 14000) (loose := My.names) (d := HandSHeadRun.topDef (OpenLaw.row PySem.Challenge.rw_seenrows_k59_filter_texts).prog 41) (kwd := []) My.ob_eq
    (by kernel_rfl) (fun s => by kernel_rfl) My.run (by kernel_rfl) (by kernel_rfl) (by kernel_rfl) (by rfl) (by first | assumption | decide +kernel) (by decide +kernel) My.pre2 ?hw ?hc
  case hw => w_witness2
  case hc =>
    refine LamX.walk_ofTsE (l := PySem.Challenge.rw_seenrows_k59_filter_texts) (n := 63) (k := 8) (x := "_law_script") (CX := fun w => L2.CX PySem.Challenge.pw_seenrows_k59_filter_texts w) rfl (by decide) (by kernel_rfl) ⟨rfl, by decide, by decide⟩ ?F (fun w H s e s' ⟨_, _, _, _, _, _, _, _, _, _, _, _, z⟩ => z)
    intro w mg fa h Y G hmg0
    obtain ⟨K, KX, c⟩ := Y
    have hmg : mg ("law" : PySem.Str) = some (.ref fa) := by
      have e : (HandSHeadRun.topDef (OpenLaw.row PySem.Challenge.rw_seenrows_k59_filter_texts).prog 41).name = ("law" : PySem.Str) := by kernel_rfl
      rw [← e]
      exact hmg0
    obtain ⟨fd, hb, hF⟩ := My.facts (P := (PySem.Challenge.rw_seenrows_k59_filter_texts).prog) (w := w) KX G hmg c.d c.cm c.more
    refine ⟨K, KX, fd, My.tf.map (He.cT K), My.spLaw K, fun p hp => ?_, fun p hp => ?_, fun p hp => ?_, hb, fun H a ns hl _ hT hS => ⟨a, ns, rfl, hS, hl, fun x hx => hT _ (List.mem_map.mpr ⟨_, My.tf_mem hx, rfl⟩), fun _ => rfl⟩, hF⟩
    · obtain ⟨d, hd, rfl⟩ := List.mem_map.mp hp
      exact (c.tabs d hd).2.2
    · obtain ⟨d, hd, rfl⟩ := List.mem_map.mp hp
      exact (c.tabs d hd).2.1
    · obtain ⟨d, hd, rfl⟩ := List.mem_map.mp hp
      exact PySem.W.codeHd_of_K KX (c.tabs d hd).1
