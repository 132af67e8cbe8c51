import PyProof.Rows.All
import HandS.ForMost
import HandS.ForExc
import HandS.Wide
import HandS.Defaults
import HandS.CallSlots
import HandS.Deep
import HandS.IsInst
import HandS.TupAny
import HandS.Style
import HandS.SortInts
import KE.SortData
import PyProof.ReprRoads
import HandS.WordsDict
import HandS.Star
import HandS.Zip
import HandS.Text
import HandS.TupSets
import HandS.Keys
import HandS.Conv
import HandS.Codes
import HandS.Head0
import HandS.Head1
import HandS.Head2
import HandS.HeadEnd
import HandS.HeadHook1
import HandS.HeadHook2
import HandS.HeadHook4
import KE.KStateDown
import HandS.More
import HandS.Words
import HandS.WordsExc
import PySem.Challenge.RW_howeveritpasses_k83_whole_traffic_that_f
section
set_option Elab.async false
set_option linter.all false
set_option maxRecDepth 100000
set_option autoImplicit true
set_option maxHeartbeats 4000000
/-! L1: data as trees, how they lie in the abstract heap, slots -/
namespace Lw
open PySem L2

/-- a value as data -/
inductive D where
  | non | bl (b : Bool) | int (i : Int) | str (x : Str) | ty (n : String)
  | tup (xs : List D) | lst (xs : List D)
  /-- the script: a list of ints that is read alone -/
  | scr (ns : List Int)
  | dk (ks : List Key) (vs : List D)
  | dt (ks : List (List Key)) (vs : List D)
  deriving Inhabited

/-- what a slot holds: nothing; data that is never changed; a list or dict that this slot alone holds -/
inductive Sl where
  | no | val (d : D) | own (d : D)
  deriving Inhabited
def Sl.d : Sl → D
  | .no => .non
  | .val d => d
  | .own d => d

abbrev SE := List Sl

/-- objects that may be changed -/
def Mu : HO → Prop
  | .lst _ => True
  | .dK _ => True
  | .dT _ => True
  | .ins _ _ _ => True
  | _ => False

/-- the script, read alone -/
def Scr (K : PySem.W.Frag) (H : Hp) (a : Addr) (ns : List Int) : Prop := (∃ o, H a = some (.frz o (.lst (ns.map V.int)))) ∨
  ∃ (o : Obj) (its : Array Value) (n : Nat), K.lookup a = some o ∧ o.cls = .type "list" ∧ o.dict = none ∧ o.data = .seq its n ∧ its.size ≤ sizeLine ∧ Vals (ns.map V.int) its.toList
theorem Scr.sq {K : PySem.W.Frag} {H : Hp} {a : Addr} {ns : List Int} (h : Scr K H a ns) : SqL K H a (ns.map V.int) := by
  rcases h with h | h
  · exact .inl (.inr h)
  · exact .inr h
section
variable (K : PySem.W.Frag) (H : Hp)
mutual
/-- v is d; S: the addresses of what may be changed within -/
inductive Rep : V → D → List Addr → Prop
  | non : Rep .non .non []
  | bl (b) : Rep (.bl b) (.bl b) []
  | int (i) : Rep (.int i) (.int i) []
  | str (x) : Rep (.str x) (.str x) []
  | ty (n) : Rep (.ty n) (.ty n) []
  | tup {a vs ds S} : SqT K H a vs → Reps vs ds S → Rep (.ref a) (.tup ds) S
  | lst {a vs ds S} : H a = some (.lst vs) → Reps vs ds S → Rep (.ref a) (.lst ds) (a :: S)
  | scr {a} {ns : List Int} : Scr K H a ns → Rep (.ref a) (.scr ns) []
  | dk {a ks vs ds S} : H a = some (.dK (ks.zip vs)) → ks.length = vs.length → Reps vs ds S → Rep (.ref a) (.dk ks ds) (a :: S)
  | dt {a ks vs ds S} : H a = some (.dT (ks.zip vs)) → ks.length = vs.length → Reps vs ds S → Rep (.ref a) (.dt ks ds) (a :: S)
inductive Reps : List V → List D → List Addr → Prop
  | nil : Reps [] [] []
  | cons {v d S vs ds S'} : Rep v d S → Reps vs ds S' → Reps (v :: vs) (d :: ds) (S ++ S')
end

/-- the content of v is d; S: what may be changed within, without v's own object -/
inductive Top : V → D → List Addr → Prop
  | sc {v d S} : Rep K H v d S → (match d with | .lst _ => False | .dk _ _ => False | .dt _ _ => False | _ => True) → Top v d S
  | lst {a vs ds S} : H a = some (.lst vs) → Reps K H vs ds S → Top (.ref a) (.lst ds) S
  | dk {a ks vs ds S} : H a = some (.dK (ks.zip vs)) → ks.length = vs.length → Reps K H vs ds S → Top (.ref a) (.dk ks ds) S
  | dt {a ks vs ds S} : H a = some (.dT (ks.zip vs)) → ks.length = vs.length → Reps K H vs ds S → Top (.ref a) (.dt ks ds) S

/-- the object at a is d, and may be changed; S: what may be changed within it -/
inductive OwnR : Addr → D → List Addr → Prop
  | lst {a vs ds S} : H a = some (.lst vs) → Reps K H vs ds S → OwnR a (.lst ds) S
  | dk {a ks vs ds S} : H a = some (.dK (ks.zip vs)) → ks.length = vs.length → Reps K H vs ds S → OwnR a (.dk ks ds) S
  | dt {a ks vs ds S} : H a = some (.dT (ks.zip vs)) → ks.length = vs.length → Reps K H vs ds S → OwnR a (.dt ks ds) S
end

theorem OwnR.top {K H a d S} (h : OwnR K H a d S) : Top K H (.ref a) d S := by
  cases h with
  | lst h1 h2 => exact .lst h1 h2
  | dk h1 h2 h3 => exact .dk h1 h2 h3
  | dt h1 h2 h3 => exact .dt h1 h2 h3
theorem OwnR.mu {K H a d S} (h : OwnR K H a d S) : ∃ o, H a = some o ∧ Mu o := by
  cases h with
  | lst h1 h2 => exact ⟨_, h1, trivial⟩
  | dk h1 h2 h3 => exact ⟨_, h1, trivial⟩
  | dt h1 h2 h3 => exact ⟨_, h1, trivial⟩
theorem OwnR.rep {K H a d S} (h : OwnR K H a d S) : Rep K H (.ref a) d (a :: S) := by
  cases h with
  | lst h1 h2 => exact .lst h1 h2
  | dk h1 h2 h3 => exact .dk h1 h2 h3
  | dt h1 h2 h3 => exact .dt h1 h2 h3
theorem Rep.top {K H v d S} (h : Rep K H v d S) : ∃ S', Top K H v d S' ∧ ∀ a ∈ S', a ∈ S := by
  cases h with
  | lst h1 h2 => exact ⟨_, .lst h1 h2, fun a h => List.mem_cons_of_mem _ h⟩
  | scr h1 => exact ⟨_, .sc (.scr h1) trivial, fun a h => h⟩
  | dk h1 h2 h3 => exact ⟨_, .dk h1 h2 h3, fun a h => List.mem_cons_of_mem _ h⟩
  | dt h1 h2 h3 => exact ⟨_, .dt h1 h2 h3, fun a h => List.mem_cons_of_mem _ h⟩
  | tup h1 h2 => exact ⟨_, .sc (.tup h1 h2) trivial, fun a h => h⟩
  | non => exact ⟨_, .sc .non trivial, fun a h => h⟩
  | bl b => exact ⟨_, .sc (.bl b) trivial, fun a h => h⟩
  | int b => exact ⟨_, .sc (.int b) trivial, fun a h => h⟩
  | str b => exact ⟨_, .sc (.str b) trivial, fun a h => h⟩
  | ty b => exact ⟨_, .sc (.ty b) trivial, fun a h => h⟩

/-- H' keeps: all that can't be changed, and what stands at S -/
def Kp (S : Addr → Prop) (H H' : Hp) : Prop := ∀ a o, H a = some o → (S a ∨ ¬ Mu o) → H' a = some o
theorem Kp.sqT {K H H' a vs} {S : Addr → Prop} (k : Kp S H H') (h : SqT K H a vs) : SqT K H' a vs := by
  rcases h with (h | ⟨o, h⟩) | h
  · exact .inl (.inl (k _ _ h (.inr fun z => z)))
  · exact .inl (.inr ⟨o, k _ _ h (.inr fun z => z)⟩)
  · exact .inr h
theorem Kp.scr {K H H' a ns} {S : Addr → Prop} (k : Kp S H H') (h : Scr K H a ns) : Scr K H' a ns := by
  rcases h with ⟨o, h⟩ | h
  · exact .inl ⟨o, k _ _ h (.inr fun z => z)⟩
  · exact .inr h
mutual
theorem Rep.keep {K H H'} {T : Addr → Prop} (k : Kp T H H') : ∀ {v d S}, Rep K H v d S → (∀ a ∈ S, T a) → Rep K H' v d S
  | _, _, _, .non, _ => .non
  | _, _, _, .bl b, _ => .bl b
  | _, _, _, .int b, _ => .int b
  | _, _, _, .str b, _ => .str b
  | _, _, _, .ty b, _ => .ty b
  | _, _, _, .tup h r, hS => .tup (k.sqT h) (Reps.keep k r hS)
  | _, _, _, .scr h, hS => .scr (k.scr h)
  | _, _, _, .lst h r, hS => .lst (k _ _ h (.inl (hS _ (List.mem_cons_self ..)))) (Reps.keep k r fun a ha => hS a (List.mem_cons_of_mem _ ha))
  | _, _, _, .dk h e r, hS => .dk (k _ _ h (.inl (hS _ (List.mem_cons_self ..)))) e (Reps.keep k r fun a ha => hS a (List.mem_cons_of_mem _ ha))
  | _, _, _, .dt h e r, hS => .dt (k _ _ h (.inl (hS _ (List.mem_cons_self ..)))) e (Reps.keep k r fun a ha => hS a (List.mem_cons_of_mem _ ha))
theorem Reps.keep {K H H'} {T : Addr → Prop} (k : Kp T H H') : ∀ {v d S}, Reps K H v d S → (∀ a ∈ S, T a) → Reps K H' v d S
  | _, _, _, .nil, _ => .nil
  | _, _, _, .cons h r, hS => .cons (Rep.keep k h fun a ha => hS a (List.mem_append_left _ ha)) (Reps.keep k r fun a ha => hS a (List.mem_append_right _ ha))
end
theorem OwnR.keep {K H H' a d S} {T : Addr → Prop} (k : Kp T H H') (h : OwnR K H a d S) (ha : T a) (hS : ∀ a ∈ S, T a) : OwnR K H' a d S := by
  cases h with
  | lst h1 h2 => exact .lst (k _ _ h1 (.inl ha)) (h2.keep k hS)
  | dk h1 h2 h3 => exact .dk (k _ _ h1 (.inl ha)) h2 (h3.keep k hS)
  | dt h1 h2 h3 => exact .dt (k _ _ h1 (.inl ha)) h2 (h3.keep k hS)

mutual
theorem Rep.dom {K H} : ∀ {v d S}, Rep K H v d S → ∀ a ∈ S, ∃ o, H a = some o
  | _, _, _, .non, _, h => nomatch h
  | _, _, _, .bl b, _, h => nomatch h
  | _, _, _, .int b, _, h => nomatch h
  | _, _, _, .str b, _, h => nomatch h
  | _, _, _, .ty b, _, h => nomatch h
  | _, _, _, .tup _ r, a, h => Reps.dom r a h
  | _, _, _, .scr _, _, h => nomatch h
  | _, _, _, .lst q r, a, h => (List.mem_cons.mp h).elim (fun e => by subst e; exact ⟨_, q⟩) (Reps.dom r a)
  | _, _, _, .dk q _ r, a, h => (List.mem_cons.mp h).elim (fun e => by subst e; exact ⟨_, q⟩) (Reps.dom r a)
  | _, _, _, .dt q _ r, a, h => (List.mem_cons.mp h).elim (fun e => by subst e; exact ⟨_, q⟩) (Reps.dom r a)
theorem Reps.dom {K H} : ∀ {v d S}, Reps K H v d S → ∀ a ∈ S, ∃ o, H a = some o
  | _, _, _, .nil, _, h => nomatch h
  | _, _, _, .cons h r, a, hS => (List.mem_append.mp hS).elim (Rep.dom h a) (Reps.dom r a)
end
theorem Reps.length {K H} : ∀ {vs ds S}, Reps K H vs ds S → vs.length = ds.length
  | _, _, _, .nil => rfl
  | _, _, _, .cons _ r => by simp [r.length]
theorem Reps.get {K H} : ∀ {vs ds S} {i : Nat} {d : D}, Reps K H vs ds S → ds[i]? = some d → ∃ v S', vs[i]? = some v ∧ Rep K H v d S' ∧ ∀ a ∈ S', a ∈ S
  | _, _, _, i, d, .nil, e => by simp at e
  | _, _, _, 0, d, .cons h r, e => by simp at e; subst e; exact ⟨_, _, rfl, h, fun a ha => List.mem_append_left _ ha⟩
  | _, _, _, i + 1, d, .cons h r, e => by
    obtain ⟨v, S', e1, h1, h2⟩ := r.get (i := i) (d := d) (by simpa using e)
    exact ⟨v, S', by simpa using e1, h1, fun a ha => List.mem_append_right _ (h2 a ha)⟩
theorem Reps.getV {K H} : ∀ {vs ds S} {i : Nat} {v : V}, Reps K H vs ds S → vs[i]? = some v → ∃ d S', ds[i]? = some d ∧ Rep K H v d S' ∧ ∀ a ∈ S', a ∈ S := fun {vs ds S i v} h e => by
  have hi : i < ds.length := by rw [← h.length]; exact (List.getElem?_eq_some_iff.mp e).1
  obtain ⟨v', S', e1, h1, h2⟩ := h.get (i := i) (d := ds[i]) (by simp [hi])
  rw [e] at e1; cases e1
  exact ⟨_, S', by simp [hi], h1, h2⟩
/-- Reps with any bound of the addresses -/
def RepsB (K : PySem.W.Frag) (H : Hp) (T : Addr → Prop) (vs : List V) (ds : List D) : Prop := ∃ S, Reps K H vs ds S ∧ ∀ a ∈ S, T a
def RepB (K : PySem.W.Frag) (H : Hp) (T : Addr → Prop) (v : V) (d : D) : Prop := ∃ S, Rep K H v d S ∧ ∀ a ∈ S, T a
def TopB (K : PySem.W.Frag) (H : Hp) (T : Addr → Prop) (v : V) (d : D) : Prop := ∃ S, Top K H v d S ∧ ∀ a ∈ S, T a
def OwnB (K : PySem.W.Frag) (H : Hp) (T : Addr → Prop) (a : Addr) (d : D) : Prop := ∃ S, OwnR K H a d S ∧ ∀ b ∈ S, T b
section
variable {K : PySem.W.Frag} {H H' : Hp} {T : Addr → Prop}
theorem RepsB.nil : RepsB K H T [] [] := ⟨[], .nil, fun _ h => nomatch h⟩
theorem RepsB.cons {v d vs ds} (h : RepB K H T v d) (r : RepsB K H T vs ds) : RepsB K H T (v :: vs) (d :: ds) := by
  obtain ⟨S, h1, h2⟩ := h
  obtain ⟨S', h3, h4⟩ := r
  exact ⟨S ++ S', .cons h1 h3, fun a ha => (List.mem_append.mp ha).elim (h2 a) (h4 a)⟩
theorem RepsB.uncons {v d vs ds} (h : RepsB K H T (v :: vs) (d :: ds)) : RepB K H T v d ∧ RepsB K H T vs ds := by
  obtain ⟨S, h1, h2⟩ := h
  cases h1 with
  | cons h r => exact ⟨⟨_, h, fun a ha => h2 a (List.mem_append_left _ ha)⟩, ⟨_, r, fun a ha => h2 a (List.mem_append_right _ ha)⟩⟩
theorem RepsB.length {vs ds} (h : RepsB K H T vs ds) : vs.length = ds.length := let ⟨_, h, _⟩ := h; h.length
theorem RepsB.append : ∀ {vs ds vs' ds'}, RepsB K H T vs ds → RepsB K H T vs' ds' → RepsB K H T (vs ++ vs') (ds ++ ds')
  | [], [], _, _, _, r => r
  | v :: vs, d :: ds, _, _, h, r => by
    obtain ⟨h1, h2⟩ := h.uncons
    exact .cons h1 (RepsB.append h2 r)
  | [], d :: ds, _, _, h, r => by have := h.length; simp at this
  | v :: vs, [], _, _, h, r => by have := h.length; simp at this
theorem RepsB.get {vs ds} {i : Nat} {d : D} (h : RepsB K H T vs ds) (e : ds[i]? = some d) : ∃ v, vs[i]? = some v ∧ RepB K H T v d := by
  obtain ⟨S, h1, h2⟩ := h
  obtain ⟨v, S', e1, h3, h4⟩ := h1.get e
  exact ⟨v, e1, S', h3, fun a ha => h2 a (h4 a ha)⟩
theorem RepsB.getV {vs ds} {i : Nat} {v : V} (h : RepsB K H T vs ds) (e : vs[i]? = some v) : ∃ d, ds[i]? = some d ∧ RepB K H T v d := by
  obtain ⟨S, h1, h2⟩ := h
  obtain ⟨v, S', e1, h3, h4⟩ := h1.getV e
  exact ⟨v, e1, S', h3, fun a ha => h2 a (h4 a ha)⟩
theorem RepsB.of_get {vs : List V} {ds : List D} (hl : vs.length = ds.length) (h : ∀ (i : Nat) v d, vs[i]? = some v → ds[i]? = some d → RepB K H T v d) : RepsB K H T vs ds := by
  induction vs generalizing ds with
  | nil => cases ds with
    | nil => exact .nil
    | cons d ds => simp at hl
  | cons v vs ih => cases ds with
    | nil => simp at hl
    | cons d ds => exact .cons (h 0 v d rfl rfl) (ih (by simpa using hl) fun i v d e1 e2 => h (i + 1) v d (by simpa using e1) (by simpa using e2))
theorem RepsB.set {vs ds} {i : Nat} {v : V} {d : D} (h : RepsB K H T vs ds) (r : RepB K H T v d) : RepsB K H T (vs.set i v) (ds.set i d) := by
  refine .of_get (by simp [h.length]) fun j v' d' e1 e2 => ?_
  by_cases hj : i = j
  · subst hj
    have hi : i < vs.length := by have := (List.getElem?_eq_some_iff.mp e1).1; simpa using this
    rw [List.getElem?_set_self hi] at e1; cases e1
    rw [List.getElem?_set_self (by rw [← h.length]; exact hi)] at e2; cases e2
    exact r
  · rw [List.getElem?_set_ne hj] at e1 e2
    obtain ⟨d2, e3, h3⟩ := h.getV e1
    rw [e2] at e3; cases e3
    exact h3
theorem RepsB.take {vs ds} (n : Nat) (h : RepsB K H T vs ds) : RepsB K H T (vs.take n) (ds.take n) := by
  refine .of_get (by simp [h.length]) fun j v d e1 e2 => ?_
  have hj : j < n := by
    have := (List.getElem?_eq_some_iff.mp e1).1
    rw [List.length_take] at this; omega
  rw [List.getElem?_take_of_lt hj] at e1 e2
  obtain ⟨d2, e3, h3⟩ := h.getV e1
  rw [e2] at e3; cases e3
  exact h3
theorem RepsB.drop {vs ds} (n : Nat) (h : RepsB K H T vs ds) : RepsB K H T (vs.drop n) (ds.drop n) := by
  refine .of_get (by simp [h.length]) fun j v d e1 e2 => ?_
  rw [List.getElem?_drop] at e1 e2
  obtain ⟨d2, e3, h3⟩ := h.getV e1
  rw [e2] at e3; cases e3
  exact h3
theorem RepsB.dropLast {vs ds} (h : RepsB K H T vs ds) : RepsB K H T vs.dropLast ds.dropLast := by
  rw [List.dropLast_eq_take, List.dropLast_eq_take, h.length]; exact h.take _
theorem RepsB.reverse {vs ds} (h : RepsB K H T vs ds) : RepsB K H T vs.reverse ds.reverse := by
  refine .of_get (by simp [h.length]) fun j v d e1 e2 => ?_
  have hj : j < vs.length := by have := (List.getElem?_eq_some_iff.mp e1).1; simpa using this
  rw [List.getElem?_reverse hj] at e1
  rw [List.getElem?_reverse (by rw [← h.length]; exact hj), ← h.length] at e2
  obtain ⟨d2, e3, h3⟩ := h.getV e1
  rw [e2] at e3; cases e3
  exact h3
theorem RepB.mono {T' : Addr → Prop} {v d} (h : RepB K H T v d) (m : ∀ a, T a → T' a) : RepB K H T' v d := let ⟨S, h1, h2⟩ := h; ⟨S, h1, fun a ha => m a (h2 a ha)⟩
theorem RepsB.mono {T' : Addr → Prop} {v d} (h : RepsB K H T v d) (m : ∀ a, T a → T' a) : RepsB K H T' v d := let ⟨S, h1, h2⟩ := h; ⟨S, h1, fun a ha => m a (h2 a ha)⟩
theorem TopB.mono {T' : Addr → Prop} {v d} (h : TopB K H T v d) (m : ∀ a, T a → T' a) : TopB K H T' v d := let ⟨S, h1, h2⟩ := h; ⟨S, h1, fun a ha => m a (h2 a ha)⟩
theorem RepB.monoD {T' : Addr → Prop} {v d} (h : RepB K H T v d) (m : ∀ a o, H a = some o → T a → T' a) : RepB K H T' v d := let ⟨S, h1, h2⟩ := h; ⟨S, h1, fun a ha => let ⟨o, e⟩ := h1.dom a ha; m a o e (h2 a ha)⟩
theorem RepsB.monoD {T' : Addr → Prop} {v d} (h : RepsB K H T v d) (m : ∀ a o, H a = some o → T a → T' a) : RepsB K H T' v d := let ⟨S, h1, h2⟩ := h; ⟨S, h1, fun a ha => let ⟨o, e⟩ := h1.dom a ha; m a o e (h2 a ha)⟩
theorem OwnB.monoD {T' : Addr → Prop} {a d} (h : OwnB K H T a d) (m : ∀ b o, H b = some o → T b → T' b) : OwnB K H T' a d := let ⟨S, h1, h2⟩ := h; ⟨S, h1, fun b hb => let ⟨o, e⟩ := h1.rep.dom b (List.mem_cons_of_mem _ hb); m b o e (h2 b hb)⟩
theorem RepB.keep {v d} (h : RepB K H T v d) (k : Kp T H H') : RepB K H' T v d := let ⟨S, h1, h2⟩ := h; ⟨S, h1.keep k h2, h2⟩
theorem RepsB.keep {v d} (h : RepsB K H T v d) (k : Kp T H H') : RepsB K H' T v d := let ⟨S, h1, h2⟩ := h; ⟨S, h1.keep k h2, h2⟩
theorem OwnB.keep {a d} (h : OwnB K H T a d) (k : Kp (fun b => T b ∨ b = a) H H') : OwnB K H' T a d := let ⟨S, h1, h2⟩ := h; ⟨S, h1.keep k (.inr rfl) (fun b hb => .inl (h2 b hb)), h2⟩
theorem RepB.top {v d} (h : RepB K H T v d) : TopB K H T v d := let ⟨S, h1, h2⟩ := h; let ⟨S', h3, h4⟩ := h1.top; ⟨S', h3, fun a ha => h2 a (h4 a ha)⟩
theorem OwnB.top {a d} (h : OwnB K H T a d) : TopB K H T (.ref a) d := let ⟨S, h1, h2⟩ := h; ⟨S, h1.top, h2⟩
theorem RepB.non : RepB K H T .non .non := ⟨_, .non, fun _ h => nomatch h⟩
theorem RepB.bl (b) : RepB K H T (.bl b) (.bl b) := ⟨_, .bl b, fun _ h => nomatch h⟩
theorem RepB.int (b) : RepB K H T (.int b) (.int b) := ⟨_, .int b, fun _ h => nomatch h⟩
theorem RepB.str (b) : RepB K H T (.str b) (.str b) := ⟨_, .str b, fun _ h => nomatch h⟩
theorem RepB.ty (b) : RepB K H T (.ty b) (.ty b) := ⟨_, .ty b, fun _ h => nomatch h⟩
theorem RepB.tup {a vs ds} (h : SqT K H a vs) (r : RepsB K H T vs ds) : RepB K H T (.ref a) (.tup ds) := let ⟨S, h1, h2⟩ := r; ⟨S, .tup h h1, h2⟩
theorem OwnB.lst {a vs ds} (h : H a = some (.lst vs)) (r : RepsB K H T vs ds) : OwnB K H T a (.lst ds) := let ⟨S, h1, h2⟩ := r; ⟨S, .lst h h1, h2⟩
end
theorem Kp.of {H H' : Hp} {T : Addr → Prop} (h : ∀ a o, H a = some o → H' a = some o) : Kp T H H' := fun a o e _ => h a o e
theorem Kp.refl {H : Hp} {T : Addr → Prop} : Kp T H H := fun _ _ e _ => e
theorem ext_upd {H : Hp} {p : Addr} {o : HO} (hp : H p = none) : ∀ a u, H a = some u → upd H p o a = some u := fun a u e => by
  rw [upd_ne (ne_of_none e hp)]; exact e
end Lw
end

section
set_option Elab.async false
set_option linter.all false
set_option maxRecDepth 100000
set_option maxHeartbeats 4000000
/-! L2: what holds of the slots and the heap; results; operands -/
namespace Lw
open PySem L2

/-- what a piece of code comes to: a value and the slots; an exception of a class with its value; or nothing is said -/
inductive R (α : Type) where
  | ok (a : α) (E : SE)
  | exc (C : Str) (x : D) (E : SE)
  | bad
abbrev M (α : Type) := SE → R α
def M.pure {α} (a : α) : M α := fun E => .ok a E
def R.bind {α β} (r : R α) (f : α → M β) : R β := match r with
  | .ok a E => f a E
  | .exc C x E => .exc C x E
  | .bad => .bad
def M.bind {α β} (m : M α) (f : α → M β) : M β := fun E => (m E).bind f
def M.bad {α} : M α := fun _ => .bad
instance : Monad M where
  pure := M.pure
  bind := M.bind

/-- a is held by a slot -/
def OwnS (σ : St) (E : SE) (a : Addr) : Prop := ∃ (i : Nat) (d : D), E[i]? = some (.own d) ∧ σ[i]? = some (some (.ref a))
/-- neither protected nor held -/
def Fz (P : Addr → Prop) (σ : St) (E : SE) (a : Addr) : Prop := ¬ P a ∧ ¬ OwnS σ E a
structure Good (K : PySem.W.Frag) (P : Addr → Prop) (H : Hp) (σ : St) (E : SE) : Prop where
  len : σ.length = E.length
  dom : ∀ a, P a → ∃ o, H a = some o
  val : ∀ (i : Nat) (d : D), E[i]? = some (.val d) → ∃ v, σ[i]? = some (some v) ∧ RepB K H (Fz P σ E) v d
  own : ∀ (i : Nat) (d : D), E[i]? = some (.own d) → ∃ a, σ[i]? = some (some (.ref a)) ∧ OwnB K H (Fz P σ E) a d
  dis : ∀ a, OwnS σ E a → ¬ P a
  inj : ∀ (i j : Nat) (d d' : D) (a : Addr), E[i]? = some (.own d) → E[j]? = some (.own d') → σ[i]? = some (some (.ref a)) → σ[j]? = some (some (.ref a)) → i = j
structure Lnk (P : Addr → Prop) (σ : St) (E : SE) (H : Hp) (P' : Addr → Prop) (σ' : St) (E' : SE) (H' : Hp) : Prop where
  keep : ∀ a o, H a = some o → ¬ OwnS σ E a → H' a = some o
  new : ∀ a, OwnS σ' E' a → OwnS σ E a ∨ H a = none
  pr : ∀ a, P' a → P a ∨ OwnS σ E a ∨ H a = none

section
variable {K : PySem.W.Frag} {P P' P1 : Addr → Prop} {H H' H1 : Hp} {σ σ' σ1 : St} {E E' E1 : SE}
theorem Good.ownD (g : Good K P H σ E) {a} (h : OwnS σ E a) : ∃ o, H a = some o ∧ Mu o := by
  obtain ⟨i, d, e1, e2⟩ := h
  obtain ⟨b, e3, S, h1, h2⟩ := g.own i d e1
  rw [e2] at e3; cases e3
  exact h1.mu
theorem Lnk.refl : Lnk P σ E H P σ E H := ⟨fun _ _ e _ => e, fun _ h => .inl h, fun _ h => .inl h⟩
theorem Lnk.none (l : Lnk P σ E H P' σ' E' H') {a} (h : H' a = none) : OwnS σ E a ∨ H a = none := by
  by_cases q : OwnS σ E a
  · exact .inl q
  · cases e : H a with
    | none => exact .inr rfl
    | some o => rw [l.keep a o e q] at h; cases h
theorem Lnk.trans (a : Lnk P σ E H P1 σ1 E1 H1) (b : Lnk P1 σ1 E1 H1 P' σ' E' H') : Lnk P σ E H P' σ' E' H' where
  keep := fun c o e n => b.keep c o (a.keep c o e n) fun h => (a.new c h).elim n fun z => by rw [e] at z; cases z
  new := fun c h => (b.new c h).elim (a.new c) a.none
  pr := fun c h => (b.pr c h).elim (a.pr c) fun q => .inr (q.elim (a.new c) a.none)
theorem Lnk.ext (h : ∀ a o, H a = some o → H' a = some o) : Lnk P σ E H P σ E H' := ⟨fun a o e _ => h a o e, fun _ h => .inl h, fun _ h => .inl h⟩
theorem Lnk.less (l : Lnk P σ E H P1 σ' E' H') (h : ∀ a, P' a → P1 a) : Lnk P σ E H P' σ' E' H' := ⟨l.keep, l.new, fun a z => l.pr a (h a z)⟩
/-- what is neither protected nor held stays -/
theorem Good.kp (g : Good K P H σ E) (l : Lnk P σ E H P' σ' E' H') : Kp (fun a => ¬ OwnS σ E a) H H' := fun a o e h => l.keep a o e fun q => by
  rcases h with h | h
  · exact h q
  · obtain ⟨u, e1, m⟩ := g.ownD q
    rw [e] at e1; cases e1
    exact h m
theorem Lnk.fz (l : Lnk P σ E H P' σ' E' H') {a o} (e : H a = some o) (h : Fz P σ E a) : Fz P' σ' E' a :=
  ⟨fun q => (l.pr a q).elim h.1 fun z => z.elim h.2 fun z => (by rw [e] at z; cases z), fun q => (l.new a q).elim h.2 fun z => by rw [e] at z; cases z⟩
theorem RepB.lnk {v d} (h : RepB K H (Fz P σ E) v d) (g : Good K P H σ E) (l : Lnk P σ E H P' σ' E' H') : RepB K H' (Fz P' σ' E') v d :=
  ((h.monoD fun a o e z => ⟨z, l.fz e z⟩ : RepB K H (fun a => Fz P σ E a ∧ Fz P' σ' E' a) v d).keep (fun a o e z => g.kp l a o e (z.imp (·.1.2) id))).mono fun _ z => z.2
theorem RepsB.lnk {v d} (h : RepsB K H (Fz P σ E) v d) (g : Good K P H σ E) (l : Lnk P σ E H P' σ' E' H') : RepsB K H' (Fz P' σ' E') v d :=
  ((h.monoD fun a o e z => ⟨z, l.fz e z⟩ : RepsB K H (fun a => Fz P σ E a ∧ Fz P' σ' E' a) v d).keep (fun a o e z => g.kp l a o e (z.imp (·.1.2) id))).mono fun _ z => z.2
theorem OwnB.lnk {a d} (h : OwnB K H (Fz P σ E) a d) (g : Good K P H σ E) (l : Lnk P σ E H P' σ' E' H') (ha : ¬ OwnS σ E a) : OwnB K H' (Fz P' σ' E') a d :=
  ((h.monoD fun b o e z => ⟨z, l.fz e z⟩ : OwnB K H (fun b => Fz P σ E b ∧ Fz P' σ' E' b) a d).keep (fun b o e z => g.kp l b o e (z.imp (fun z => z.elim (·.1.2) fun z => by rw [z]; exact ha) id))).monoD fun _ _ _ z => z.2
/-- the heap grows -/
theorem Good.ext (g : Good K P H σ E) (h : ∀ a o, H a = some o → H' a = some o) : Good K P H' σ E where
  len := g.len
  dom := fun a p => let ⟨o, e⟩ := g.dom a p; ⟨o, h a o e⟩
  val := fun i d e => let ⟨v, e1, r⟩ := g.val i d e; ⟨v, e1, r.keep (Kp.of h)⟩
  own := fun i d e => let ⟨v, e1, r⟩ := g.own i d e; ⟨v, e1, r.keep (Kp.of h)⟩
  dis := g.dis
  inj := g.inj
/-- less is protected -/
theorem Good.less (g : Good K P H σ E) (h : ∀ a, P' a → P a) : Good K P' H σ E where
  len := g.len
  dom := fun a p => g.dom a (h a p)
  val := fun i d e => let ⟨v, e1, r⟩ := g.val i d e; ⟨v, e1, r.mono fun a z => ⟨fun q => z.1 (h a q), z.2⟩⟩
  own := fun i d e => let ⟨v, e1, r⟩ := g.own i d e; ⟨v, e1, r.monoD fun a _ _ z => ⟨fun q => z.1 (h a q), z.2⟩⟩
  dis := fun a o p => g.dis a o (h a p)
  inj := g.inj
/-- a new object is protected -/
theorem Good.fresh (g : Good K P H σ E) {a o} (ha : H a = Option.none) (e : ∀ b u, H b = some u → H' b = some u) (e2 : H' a = some o) : Good K (fun b => P b ∨ b = a) H' σ E where
  len := g.len
  dom := fun b p => p.elim (fun p => let ⟨o, q⟩ := g.dom b p; ⟨o, e b o q⟩) fun z => ⟨o, by rw [z]; exact e2⟩
  val := fun i d e1 => let ⟨v, e2, r⟩ := g.val i d e1; ⟨v, e2, (r.monoD fun b u q z => ⟨fun p => p.elim z.1 fun y => (by rw [y, ha] at q; cases q), z.2⟩ : RepB K H (Fz (fun b => P b ∨ b = a) σ E) v d).keep (Kp.of e)⟩
  own := fun i d e1 => let ⟨v, e2, r⟩ := g.own i d e1; ⟨v, e2, (r.monoD fun b u q z => ⟨fun p => p.elim z.1 fun y => (by rw [y, ha] at q; cases q), z.2⟩ : OwnB K H (Fz (fun b => P b ∨ b = a) σ E) v d).keep (Kp.of e)⟩
  dis := fun b o p => p.elim (g.dis b o) fun z => by
    obtain ⟨u, q, _⟩ := g.ownD o
    rw [z, ha] at q; cases q
  inj := g.inj
end

/-- the address that a result holds by itself -/
def HeldBy (v : V) : Sl → Addr → Prop
  | .own _, a => v = .ref a
  | _, _ => False
def Pl (P : Addr → Prop) (v : V) (s : Sl) (a : Addr) : Prop := P a ∨ HeldBy v s a
/-- a result; P: with what it holds -/
def ResR (K : PySem.W.Frag) (P : Addr → Prop) (σ : St) (E : SE) (H : Hp) (v : V) : Sl → Prop
  | .no => False
  | .val d => RepB K H (Fz P σ E) v d
  | .own d => ∃ a, v = .ref a ∧ OwnB K H (Fz P σ E) a d

/-- how an exception lies: its class, its dict -/
def ExcR (K : PySem.W.Frag) (mg : Str → Option Value) (T : Addr → Prop) (H : Hp) (C : Str) (x : D) (cls : Value) (d : Option Addr) : Prop :=
  ∃ (a b : Addr) (v : V), mg C = some (.ref a) ∧ cls = .ref a ∧ d = some b ∧ H b = some (.xd [(("value" : Str), v)]) ∧ RepB K H T v x

section
variable (K : PySem.W.Frag) (mg : Str → Option Value) (W : WX)
/-- what is wanted of an expression's result -/
def PostE (P : Addr → Prop) (σ : St) (E : SE) (H : Hp) (Q : VK) : R Sl → Prop
  | .ok s E' => ∀ v H', Good K (Pl P v s) H' σ E' → Lnk P σ E H (Pl P v s) σ E' H' → ResR K (Pl P v s) σ E' H' v s → (∀ a, HeldBy v s a → ¬ P a) → Q v H'
  | .exc C x E' => ∀ H' cls d, Good K P H' σ E' → Lnk P σ E H P σ E' H' → ExcR K mg (Fz P σ E') H' C x cls d → W cls d σ H'
  | .bad => False
/-- an expression's reading -/
def TEof (f : M Sl) : TE := fun σ H Q => ∃ P E, Good K P H σ E ∧ PostE K mg W P σ E H Q (f E)
/-- data by their contents, one by one -/
def TopsB (H : Hp) (T : Addr → Prop) : List V → List D → Prop := Paired (TopB K H T)
def PostA (P : Addr → Prop) (σ : St) (E : SE) (H : Hp) (Q : List V → Hp → Prop) : R (List D) → Prop
  | .ok ds E' => ∀ vs H' P', (∀ a, P a → P' a) → Good K P' H' σ E' → Lnk P σ E H P' σ E' H' → TopsB K H' (Fz P' σ E') vs ds → Q vs H'
  | .exc C x E' => ∀ H' cls d, Good K P H' σ E' → Lnk P σ E H P σ E' H' → ExcR K mg (Fz P σ E') H' C x cls d → W cls d σ H'
  | .bad => False
/-- an argument list's reading -/
def TAof (f : M (List D)) : TA := fun σ H Q => ∃ P E, Good K P H σ E ∧ PostA K mg W P σ E H Q (f E)
def PostT (P : Addr → Prop) (σ : St) (E : SE) (H : Hp) (Q : Bool → Hp → Prop) : R Bool → Prop
  | .ok b E' => ∀ H', Good K P H' σ E' → Lnk P σ E H P σ E' H' → Q b H'
  | .exc C x E' => ∀ H' cls d, Good K P H' σ E' → Lnk P σ E H P σ E' H' → ExcR K mg (Fz P σ E') H' C x cls d → W cls d σ H'
  | .bad => False
/-- a test's reading -/
def TTof (f : M Bool) : TT := fun σ H Q => ∃ P E, Good K P H σ E ∧ PostT K mg W P σ E H Q (f E)
end

/-- an operand: a slot (read when the operation is done), or an expression -/
inductive Opd where
  | slot (i : Nat)
  | ex (f : M Sl)
def slotAt (i : Nat) : M D := fun E => match E[i]? with
  | some (.val d) => .ok d E
  | some (.own d) => .ok d E
  | _ => .bad
def evA : List Opd → M (List D)
  | [] => M.pure []
  | .slot i :: r => do let _ ← slotAt i; let ds ← evA r; let d ← slotAt i; M.pure (d :: ds)
  | .ex f :: r => do let s ← f; let ds ← evA r; M.pure (s.d :: ds)
def tOpd (K : PySem.W.Frag) (mg : Str → Option Value) (W : WX) : Opd → TE
  | .slot i => tVar i
  | .ex f => TEof K mg W f
def tOpds (K : PySem.W.Frag) (mg : Str → Option Value) (W : WX) : List Opd → TA
  | [] => tNil
  | o :: r => tCons (tOpd K mg W o) (tOpds K mg W r)

section
variable {K : PySem.W.Frag} {mg : Str → Option Value} {W : WX} {P P' P1 : Addr → Prop} {H H' H1 : Hp} {σ σ' σ1 : St} {E E' E1 : SE}
theorem Good.slotV (g : Good K P H σ E) {i : Nat} {d : D} {E' : SE} (h : slotAt i E = .ok d E') : E' = E ∧ ∃ v, σ[i]? = some (some v) ∧ TopB K H (Fz P σ E) v d := by
  unfold slotAt at h
  split at h
  · rename_i d' e
    injection h with h1 h2; subst h1; subst h2
    obtain ⟨v, e1, r⟩ := g.val i _ e
    exact ⟨rfl, v, e1, r.top⟩
  · rename_i d' e
    injection h with h1 h2; subst h1; subst h2
    obtain ⟨v, e1, r⟩ := g.own i _ e
    exact ⟨rfl, _, e1, r.top⟩
  · cases h
theorem TopB.lnkR {s : Sl} {v : V} (r : ResR K P σ E H v s) (g : Good K P H σ E) (l : Lnk P σ E H P' σ' E' H') (hh : ∀ a, HeldBy v s a → P a) : TopB K H' (Fz P' σ' E') v s.d := by
  cases s with
  | no => exact r.elim
  | val d => exact (RepB.lnk r g l).top
  | own d =>
    obtain ⟨a, rfl, r⟩ := r
    exact (r.lnk g l fun q => g.dis a q (hh a rfl)).top
theorem R.bind_ok {α β} {r : R α} {f : α → M β} {b : β} {E : SE} (h : r.bind f = .ok b E) : ∃ a E1, r = .ok a E1 ∧ f a E1 = .ok b E := by
  cases r with
  | ok a E1 => exact ⟨a, E1, rfl, h⟩
  | exc C x E1 => cases h
  | bad => cases h
theorem evA_slot {i : Nat} {r : List Opd} {E : SE} : evA (.slot i :: r) E = (slotAt i E).bind fun _ => fun E1 => (evA r E1).bind fun ds => fun E2 => (slotAt i E2).bind fun d => fun E3 => .ok (d :: ds) E3 := rfl
theorem evA_ex {f : M Sl} {r : List Opd} {E : SE} : evA (.ex f :: r) E = (f E).bind fun s => fun E1 => (evA r E1).bind fun ds => fun E2 => .ok (s.d :: ds) E2 := rfl
theorem slotAt_cases (i : Nat) (E : SE) : (∃ d, slotAt i E = .ok d E) ∨ slotAt i E = .bad := by
  unfold slotAt
  split
  · exact .inl ⟨_, rfl⟩
  · exact .inl ⟨_, rfl⟩
  · exact .inr rfl
/-- operands, from the left -/
theorem argsL : ∀ (ops : List Opd) (σ : St) (H : Hp) (Q : List V → Hp → Prop), TAof K mg W (evA ops) σ H Q → tOpds K mg W ops σ H Q := by
  intro ops
  induction ops with
  | nil =>
    intro σ H Q ⟨P, E, g, h⟩
    exact h [] H P (fun _ z => z) g Lnk.refl .nil
  | cons o r ih =>
    intro σ H Q ⟨P, E, g, h⟩
    cases o with
    | slot i =>
      rw [evA_slot] at h
      rcases slotAt_cases i E with ⟨d0, e0⟩ | e0
      · rw [e0] at h
        obtain ⟨_, v, ev, tv⟩ := g.slotV e0
        refine ⟨v, ev, ih σ H _ ⟨P, E, g, ?_⟩⟩
        change PostA K mg W P σ E H Q ((evA r E).bind _) at h
        cases e1 : evA r E with
        | bad => rw [e1] at h; exact h
        | exc C x E1 => rw [e1] at h; exact h
        | ok ds E1 =>
          rw [e1] at h
          change PostA K mg W P σ E H Q ((slotAt i E1).bind _) at h
          rcases slotAt_cases i E1 with ⟨d1, e2⟩ | e2
          · rw [e2] at h
            intro vs H' P' hp g' l ts
            obtain ⟨_, v', ev', tv'⟩ := g'.slotV e2
            rw [ev] at ev'
            cases ev'
            exact h (v :: vs) H' P' hp g' l (.cons tv' ts)
          · rw [e2] at h; exact h.elim
      · rw [e0] at h; exact h.elim
    | ex f =>
      rw [evA_ex] at h
      show TEof K mg W f σ H _
      refine ⟨P, E, g, ?_⟩
      cases e1 : f E with
      | bad => rw [e1] at h; exact h
      | exc C x E1 => rw [e1] at h; exact h
      | ok s E1 =>
        rw [e1] at h
        intro v H1 g1 l1 r1 n1
        refine ih σ H1 _ ⟨_, E1, g1, ?_⟩
        change PostA K mg W P σ E H Q ((evA r E1).bind _) at h
        cases e2 : evA r E1 with
        | bad => rw [e2] at h; exact h
        | exc C x E2 =>
          rw [e2] at h
          intro H2 cls d g2 l2 x2
          refine h H2 cls d (g2.less fun a z => .inl z) ((l1.trans l2).less fun a z => .inl z) ?_
          obtain ⟨a, b, w, q1, q2, q3, q4, q5⟩ := x2
          exact ⟨a, b, w, q1, q2, q3, q4, q5.mono fun c z => ⟨fun p => z.1 (.inl p), z.2⟩⟩
        | ok ds E2 =>
          rw [e2] at h
          intro vs H2 P2 hp g2 l2 ts
          exact h (v :: vs) H2 P2 (fun a z => hp a (.inl z)) g2 (l1.trans l2) (.cons (TopB.lnkR r1 g1 l2 fun a z => .inr z) ts)
end
end Lw
end

section
set_option Elab.async false
set_option linter.all false
set_option maxRecDepth 100000
set_option maxHeartbeats 4000000
/-! L3: operators and built-ins upon data, and that the hand layer's rules keep them -/
namespace Lw
open PySem L2

mutual
/-- as the library's data (no dicts) -/
def D.py : D → Option PyData
  | .non => some .none
  | .bl b => some (.bool b)
  | .int i => some (.int i)
  | .str x => some (.str x)
  | .tup xs => (D.pys xs).map .tuple
  | .lst xs => (D.pys xs).map .list
  | .scr ns => some (.list (ns.map .int))
  | _ => none
def D.pys : List D → Option (List PyData)
  | [] => some []
  | d :: ds => match D.py d, D.pys ds with
    | some p, some ps => some (p :: ps)
    | _, _ => none
end

def okD (a : D) : Option PyData := match a.py with
  | some p => if SeqAt.shaped p then some p else none
  | none => none
/-- == -/
def eqD (a b : D) : Option Bool := match okD a, okD b with
  | some p, some q => some (PyData.eqv p q)
  | _, _ => none
/-- x in a list -/
def inD (x : D) (ys : List D) : Option Bool := match okD x, okD (.lst ys) with
  | some p, some (.list qs) => some (qs.any fun z => PyData.eqv z p)
  | _, _ => none
def flatD : D → Bool
  | .non | .bl _ | .int _ | .str _ => true
  | _ => false
/-- == of flat data -/
def eqF : D → D → Bool
  | .non, .non => true
  | .bl a, .bl b => a == b
  | .bl a, .int j => (if a then 1 else 0) == j
  | .int i, .bl b => i == (if b then 1 else 0)
  | .int i, .int j => i == j
  | .str x, .str y => x == y
  | _, _ => false

def isNonD : D → Bool
  | .non => true
  | _ => false
def vB (b : Bool) : Sl := .val (.bl b)
def vI (i : Int) : Sl := .val (.int i)
def mulOk (i j : Int) : Bool := decide (i.natAbs.log2 + j.natAbs.log2 < 1000000)
def bopS (o : Operator) (a b : D) : Option Sl := match o, a, b with
  | .Add, .int i, .int j => some (vI (i + j))
  | .Add, .str x, .str y => if x.length + y.length ≤ sizeLine then some (.val (.str (x ++ y))) else none
  | .Add, .tup xs, .tup ys => if xs.length + ys.length ≤ sizeLine then some (.val (.tup (xs ++ ys))) else none
  | .Add, .lst xs, .lst ys => if xs.length + ys.length ≤ sizeLine then some (.own (.lst (xs ++ ys))) else none
  | .Sub, .int i, .int j => some (vI (i - j))
  | .Mult, .int i, .int j => if mulOk i j then some (vI (i * j)) else none
  | .Mult, .lst xs, .int k => if -(2 ^ 63) ≤ k ∧ k < 2 ^ 63 ∧ xs.length * k.toNat ≤ sizeLine then some (.own (.lst (List.replicate k.toNat xs).flatten)) else none
  | .FloorDiv, .int i, .int j => if 0 < j ∧ j.natAbs.log2 < 9000 then some (vI (i / j)) else none
  | .Mod, .int i, .int j => if 0 < j then some (vI (i % j)) else none
  | .Pow, .int i, .int j => if 0 ≤ j ∧ Builtin.Int.intBits i * j ≤ 2 ^ 27 then some (vI (i ^ j.toNat)) else none
  | _, _, _ => none
def cmpS (o : CmpOp) (a b : D) : Option Sl := match o with
  | .Eq => (eqD a b).map vB
  | .NotEq => (eqD a b).map fun k => vB (!k)
  | .Lt => match a, b with
    | .int i, .int j => some (vB (decide (i < j)))
    | _, _ => none
  | .LtE => match a, b with
    | .int i, .int j => some (vB (decide (i ≤ j)))
    | _, _ => none
  | .Gt => match a, b with
    | .int i, .int j => some (vB (decide (j < i)))
    | _, _ => none
  | .GtE => match a, b with
    | .int i, .int j => some (vB (decide (j ≤ i)))
    | _, _ => none
  | .Is => match b with
    | .non => some (vB (isNonD a))
    | _ => none
  | .IsNot => match b with
    | .non => some (vB (!isNonD a))
    | _ => none
  | .In => match b with
    | .lst ys => (inD a ys).map vB
    | .tup ys => if flatD a && ys.all flatD then some (vB (ys.any fun y => eqF y a)) else none
    | _ => none
  | .NotIn => match b with
    | .lst ys => (inD a ys).map fun k => vB (!k)
    | .tup ys => if flatD a && ys.all flatD then some (vB (!ys.any fun y => eqF y a)) else none
    | _ => none

section
variable {K : PySem.W.Frag} {H H' : Hp} {T : Addr → Prop}
/-! ### what the data say of the value -/
theorem Top.non {v S} (h : Top K H v .non S) : v = .non := by
  cases h with
  | sc h _ => cases h; rfl
theorem Top.bl {v b S} (h : Top K H v (.bl b) S) : v = .bl b := by
  cases h with
  | sc h _ => cases h; rfl
theorem Top.int {v b S} (h : Top K H v (.int b) S) : v = .int b := by
  cases h with
  | sc h _ => cases h; rfl
theorem Top.str {v b S} (h : Top K H v (.str b) S) : v = .str b := by
  cases h with
  | sc h _ => cases h; rfl
theorem Top.ty {v b S} (h : Top K H v (.ty b) S) : v = .ty b := by
  cases h with
  | sc h _ => cases h; rfl
theorem TopB.non {v} (h : TopB K H T v .non) : v = .non := let ⟨_, h, _⟩ := h; h.non
theorem TopB.bl {v b} (h : TopB K H T v (.bl b)) : v = .bl b := let ⟨_, h, _⟩ := h; h.bl
theorem TopB.int {v b} (h : TopB K H T v (.int b)) : v = .int b := let ⟨_, h, _⟩ := h; h.int
theorem TopB.str {v b} (h : TopB K H T v (.str b)) : v = .str b := let ⟨_, h, _⟩ := h; h.str
theorem TopB.ty {v b} (h : TopB K H T v (.ty b)) : v = .ty b := let ⟨_, h, _⟩ := h; h.ty
theorem TopB.tup {v ds} (h : TopB K H T v (.tup ds)) : ∃ a vs, v = .ref a ∧ SqT K H a vs ∧ RepsB K H T vs ds := by
  obtain ⟨S, h, hS⟩ := h
  cases h with
  | sc h _ => cases h with
    | tup h1 h2 => exact ⟨_, _, rfl, h1, S, h2, hS⟩
theorem TopB.lst {v ds} (h : TopB K H T v (.lst ds)) : ∃ a vs, v = .ref a ∧ H a = some (.lst vs) ∧ RepsB K H T vs ds := by
  obtain ⟨S, h, hS⟩ := h
  cases h with
  | sc h q => exact q.elim
  | lst h1 h2 => exact ⟨_, _, rfl, h1, S, h2, hS⟩
theorem TopB.scr {v ns} (h : TopB K H T v (.scr ns)) : ∃ a, v = .ref a ∧ Scr K H a ns := by
  obtain ⟨S, h, hS⟩ := h
  cases h with
  | sc h _ => cases h with
    | scr h1 => exact ⟨_, rfl, h1⟩
theorem TopB.dk {v ks ds} (h : TopB K H T v (.dk ks ds)) : ∃ a vs, v = .ref a ∧ H a = some (.dK (ks.zip vs)) ∧ ks.length = vs.length ∧ RepsB K H T vs ds := by
  obtain ⟨S, h, hS⟩ := h
  cases h with
  | sc h q => exact q.elim
  | dk h1 h2 h3 => exact ⟨_, _, rfl, h1, h2, S, h3, hS⟩
theorem TopB.dt {v ks ds} (h : TopB K H T v (.dt ks ds)) : ∃ a vs, v = .ref a ∧ H a = some (.dT (ks.zip vs)) ∧ ks.length = vs.length ∧ RepsB K H T vs ds := by
  obtain ⟨S, h, hS⟩ := h
  cases h with
  | sc h q => exact q.elim
  | dt h1 h2 h3 => exact ⟨_, _, rfl, h1, h2, S, h3, hS⟩

theorem pys_cons {d : D} {ds : List D} {ps : List PyData} (h : D.pys (d :: ds) = some ps) : ∃ p qs, D.py d = some p ∧ D.pys ds = some qs ∧ ps = p :: qs := by
  unfold D.pys at h
  split at h
  · rename_i p qs h1 h2
    exact ⟨p, qs, h1, h2, (Option.some.inj h).symm⟩
  · cases h
theorem dpAll_ints {K H} : ∀ ns : List Int, DpAll K H (ns.map V.int) (ns.map PyData.int)
  | [] => .nil
  | n :: ns => .cons (.int n) (dpAll_ints ns)
mutual
theorem Rep.dp {K H} : ∀ {v d S p}, Rep K H v d S → D.py d = some p → Dp K H v p
  | _, _, _, _, .non, e => by cases e; exact .non
  | _, _, _, _, .bl b, e => by cases e; exact .bl b
  | _, _, _, _, .int b, e => by cases e; exact .int b
  | _, _, _, _, .str b, e => by cases e; exact .str b
  | _, _, _, _, .ty b, e => by cases e
  | _, _, _, _, .scr h, e => by cases e; exact .lst h.sq (dpAll_ints _)
  | _, _, _, _, .tup (ds := ds) h r, e => by
    cases e1 : D.pys ds with
    | none => simp [D.py, e1] at e
    | some ps =>
      simp [D.py, e1] at e
      subst e
      exact .tup h (Reps.dp r e1)
  | _, _, _, _, .lst (ds := ds) h r, e => by
    cases e1 : D.pys ds with
    | none => simp [D.py, e1] at e
    | some ps =>
      simp [D.py, e1] at e
      subst e
      exact .lst (SqL.of h) (Reps.dp r e1)
  | _, _, _, _, .dk _ _ _, e => by cases e
  | _, _, _, _, .dt _ _ _, e => by cases e
theorem Reps.dp {K H} : ∀ {v d S p}, Reps K H v d S → D.pys d = some p → DpAll K H v p
  | _, _, _, _, .nil, e => by cases e; exact .nil
  | _, _, _, _, .cons h r, e => by
    obtain ⟨p, qs, e1, e2, rfl⟩ := pys_cons e
    exact .cons (Rep.dp h e1) (Reps.dp r e2)
end
theorem Top.dp {v d S p} (h : Top K H v d S) (e : D.py d = some p) : Dp K H v p := by
  cases h with
  | sc h _ => exact h.dp e
  | lst h1 h2 => exact (Rep.lst h1 h2).dp e
  | dk h1 h2 h3 => cases e
  | dt h1 h2 h3 => cases e
theorem TopB.dp {v d p} (h : TopB K H T v d) (e : D.py d = some p) : Dp K H v p := let ⟨_, h, _⟩ := h; h.dp e
theorem okD_of {d p} (h : okD d = some p) : D.py d = some p ∧ SeqAt.shaped p = true := by
  unfold okD at h
  split at h
  · rename_i q e
    split at h
    · rename_i hs
      cases h
      exact ⟨e, hs⟩
    · cases h
  · cases h
end

/-- what an operation's result is to be -/
def PRes (K : PySem.W.Frag) (H H' : Hp) (T : Addr → Prop) (v : V) : Sl → Prop
  | .no => False
  | .val d => RepB K H' T v d
  | .own d => ∃ a, v = .ref a ∧ H a = none ∧ OwnB K H' (fun b => T b ∧ b ≠ a) a d
def PostP (K : PySem.W.Frag) (H : Hp) (T : Addr → Prop) (Q : VK) : Option Sl → Prop
  | some s => ∀ v H', (∀ a o, H a = some o → H' a = some o) → PRes K H H' T v s → Q v H'
  | none => False
/-- an operation of two data by the hand layer -/
def r2D (K : PySem.W.Frag) (f : D → D → Option Sl) : R2 := fun x y H Q => ∃ T a b, TopB K H T x a ∧ TopB K H T y b ∧ PostP K H T Q (f a b)
def r1D (K : PySem.W.Frag) (f : D → Option Sl) : V → Hp → VK → Prop := fun x H Q => ∃ T a, TopB K H T x a ∧ PostP K H T Q (f a)
def rnD (K : PySem.W.Frag) (f : List D → Option Sl) : List V → Hp → VK → Prop := fun xs H Q => ∃ T ds, TopsB K H T xs ds ∧ PostP K H T Q (f ds)

section
variable {K : PySem.W.Frag} {H H' : Hp} {T : Addr → Prop} {Q : VK}
theorem PostP.v {v d} (h : PostP K H T Q (some (.val d))) (r : RepB K H T v d) : Q v H := h v H (fun _ _ e => e) r
theorem PostP.newTup {p : Addr} {vs ds} (h : PostP K H T Q (some (.val (.tup ds)))) (hp : H p = none) (r : RepsB K H T vs ds) : Q (.ref p) (upd H p (.tup vs)) :=
  h _ _ (ext_upd hp) (RepB.tup (SqT.of upd_same) (r.keep (Kp.of (ext_upd hp))))
theorem PostP.newLst {p : Addr} {vs ds} (h : PostP K H T Q (some (.own (.lst ds)))) (hp : H p = none) (r : RepsB K H T vs ds) : Q (.ref p) (upd H p (.lst vs)) :=
  h _ _ (ext_upd hp) ⟨p, rfl, hp, OwnB.lst upd_same ((r.monoD fun b o e z => ⟨z, ne_of_none e hp⟩ : RepsB K H (fun b => T b ∧ b ≠ p) vs ds).keep (Kp.of (ext_upd hp)))⟩
end

section
variable {X : Cx} {k : Nat}
theorem RepsB.flat {K H T vs ds} (h : RepsB K H T vs ds) : ∀ n : Nat, RepsB K H T (List.replicate n vs).flatten (List.replicate n ds).flatten
  | 0 => .nil
  | n + 1 => by
    rw [List.replicate_succ, List.replicate_succ, List.flatten_cons, List.flatten_cons]
    exact h.append (h.flat n)
theorem bop_ok (o : Operator) : OpR X (binaryOp o) (r2D X.K (bopS o)) := by
  intro pins s σ H x y v u Q I rx ry ⟨T, a, b, ha, hb, h⟩
  unfold bopS at h
  split at h
  · -- int + int
    have ex := ha.int; have ey := hb.int; subst ex; subst ey
    exact op_add pins s σ H _ _ v u Q I rx ry ⟨_, _, rfl, rfl, h.v (.int _)⟩
  · have ex := ha.str; have ey := hb.str; subst ex; subst ey
    split at h
    · exact op_add_str pins s σ H _ _ v u Q I rx ry ⟨_, _, rfl, rfl, by assumption, h.v (.str _)⟩
    · exact h.elim
  · split at h
    · rename_i hz
      obtain ⟨p, xs, rfl, h1, r1⟩ := ha.tup
      obtain ⟨q, ys, rfl, h2, r2⟩ := hb.tup
      refine op_catA pins s σ H _ _ v u Q I rx ry ⟨p, q, xs, ys, rfl, rfl, h1, h2, by rw [r1.length, r2.length]; exact hz, fun e => ?_, fun e e2 => ?_, fun _ _ p hp => h.newTup hp (r1.append r2)⟩
      · refine h.v (.tup h2 ?_)
        have := r1.append r2
        rwa [e, List.nil_append] at this
      · refine h.v (.tup h1 ?_)
        have := r1.append r2
        rwa [e2, List.append_nil] at this
    · exact h.elim
  · split at h
    · rename_i hz
      obtain ⟨p, xs, rfl, h1, r1⟩ := ha.lst
      obtain ⟨q, ys, rfl, h2, r2⟩ := hb.lst
      exact op_cat pins s σ H _ _ v u Q I rx ry ⟨p, q, xs, ys, rfl, rfl, h1, h2, by rw [r1.length, r2.length]; exact hz, fun p hp => h.newLst hp (r1.append r2)⟩
    · exact h.elim
  · have ex := ha.int; have ey := hb.int; subst ex; subst ey
    exact op_sub pins s σ H _ _ v u Q I rx ry ⟨_, _, rfl, rfl, h.v (.int _)⟩
  · have ex := ha.int; have ey := hb.int; subst ex; subst ey
    split at h
    · rename_i hm
      exact op_mulW pins s σ H _ _ v u Q I rx ry ⟨_, _, rfl, rfl, (by have z : _ < 1000000 := of_decide_eq_true hm; exact z), h.v (.int _)⟩
    · exact h.elim
  · split at h
    · rename_i hz
      obtain ⟨p, xs, rfl, h1, r1⟩ := ha.lst
      have ey := hb.int; subst ey
      exact op_rep pins s σ H _ _ v u Q I rx ry ⟨p, _, xs, rfl, rfl, h1, hz.1, hz.2.1, by rw [r1.length]; exact hz.2.2, fun p hp => h.newLst hp (r1.flat _)⟩
    · exact h.elim
  · have ex := ha.int; have ey := hb.int; subst ex; subst ey
    split at h
    · rename_i hm
      exact op_fdivW pins s σ H _ _ v u Q I rx ry ⟨_, _, rfl, rfl, hm, h.v (.int _)⟩
    · exact h.elim
  · have ex := ha.int; have ey := hb.int; subst ex; subst ey
    split at h
    · rename_i hm
      exact op_mod pins s σ H _ _ v u Q I rx ry ⟨_, _, rfl, rfl, hm, h.v (.int _)⟩
    · exact h.elim
  · have ex := ha.int; have ey := hb.int; subst ex; subst ey
    split at h
    · rename_i hm
      obtain ⟨t, rfl⟩ := rx
      obtain ⟨t', rfl⟩ := ry
      exact PyProof.Rows.pow_int hm.1 hm.2 ⟨.int _, H, I.tok _, ⟨_, rfl⟩, h.v (.int _)⟩
    · exact h.elim
  · exact h.elim

theorem eqF_V {K H T x y a b} (hx : RepB K H T x a) (hy : RepB K H T y b) (fa : flatD a = true) (fb : flatD b = true) : eqV x y = eqF a b ∧ flatV x = true := by
  obtain ⟨S, hx, _⟩ := hx
  obtain ⟨S', hy, _⟩ := hy
  cases hx <;> simp [flatD] at fa <;> cases hy <;> simp [flatD] at fb <;> simp [eqF, eqV, flatV]
theorem in_flat {K H T y b} (hy : RepB K H T y b) (fb : flatD b = true) : ∀ {xs as}, RepsB K H T xs as → as.all flatD = true → xs.all flatV = true ∧ inV y xs = as.any fun d => eqF d b
  | [], [], _, _ => ⟨rfl, rfl⟩
  | x :: xs, a :: as, h, f => by
    obtain ⟨h1, h2⟩ := h.uncons
    simp only [List.all_cons, Bool.and_eq_true] at f
    obtain ⟨e1, e2⟩ := in_flat hy fb h2 f.2
    obtain ⟨e3, e4⟩ := eqF_V h1 hy f.1 fb
    obtain ⟨e5, e6⟩ := eqF_V hy h1 fb f.1
    refine ⟨by simp [e4, e1], ?_⟩
    show (eqV x y || inV y xs) = _
    rw [e3, e2, List.any_cons]
  | [], a :: as, h, _ => by have := h.length; simp at this
  | x :: xs, [], h, _ => by have := h.length; simp at this
theorem flatTop {K H T x a} (h : TopB K H T x a) (f : flatD a = true) : RepB K H T x a := by
  obtain ⟨S, h, hS⟩ := h
  cases h with
  | sc h _ => exact ⟨S, h, hS⟩
  | lst h1 h2 => cases f
  | dk h1 h2 h3 => cases f
  | dt h1 h2 h3 => cases f
theorem isN_dec {K H T x a} (h : TopB K H T x a) : decide (x = .non) = isNonD a := by
  obtain ⟨S, h, hS⟩ := h
  cases h with
  | sc h _ => cases h <;> rfl
  | lst h1 h2 => rfl
  | dk h1 h2 h3 => rfl
  | dt h1 h2 h3 => rfl
theorem cmp_ok (hr : Room k X.A) (o : CmpOp) : OpR X (compareOp o) (r2D X.K (cmpS o)) := by
  have hu : X.A.units + 65 < cLine := by have := hr.un; omega
  intro pins s σ H x y v u Q I rx ry ⟨T, a, b, ha, hb, h⟩
  cases o with
  | Eq =>
    simp only [cmpS, eqD] at h
    cases e1 : okD a with
    | none => rw [e1] at h; exact h.elim
    | some p => cases e2 : okD b with
      | none => rw [e1, e2] at h; exact h.elim
      | some q =>
        rw [e1, e2] at h
        exact op_eqD (by omega) pins s σ H _ _ v u Q I rx ry ⟨p, q, ha.dp (okD_of e1).1, hb.dp (okD_of e2).1, (okD_of e1).2, (okD_of e2).2, PostP.v h (.bl _)⟩
  | NotEq =>
    simp only [cmpS, eqD] at h
    cases e1 : okD a with
    | none => rw [e1] at h; exact h.elim
    | some p => cases e2 : okD b with
      | none => rw [e1, e2] at h; exact h.elim
      | some q =>
        rw [e1, e2] at h
        exact op_neD (by omega) pins s σ H _ _ v u Q I rx ry ⟨p, q, ha.dp (okD_of e1).1, hb.dp (okD_of e2).1, (okD_of e1).2, (okD_of e2).2, PostP.v h (.bl _)⟩
  | Lt =>
    simp only [cmpS] at h
    split at h
    · have ex := ha.int; have ey := hb.int; subst ex; subst ey
      exact op_lt pins s σ H _ _ v u Q I rx ry ⟨_, _, rfl, rfl, PostP.v h (.bl _)⟩
    · exact h.elim
  | LtE =>
    simp only [cmpS] at h
    split at h
    · have ex := ha.int; have ey := hb.int; subst ex; subst ey
      exact op_le pins s σ H _ _ v u Q I rx ry ⟨_, _, rfl, rfl, PostP.v h (.bl _)⟩
    · exact h.elim
  | Gt =>
    simp only [cmpS] at h
    split at h
    · have ex := ha.int; have ey := hb.int; subst ex; subst ey
      exact op_gt pins s σ H _ _ v u Q I rx ry ⟨_, _, rfl, rfl, PostP.v h (.bl _)⟩
    · exact h.elim
  | GtE =>
    simp only [cmpS] at h
    split at h
    · have ex := ha.int; have ey := hb.int; subst ex; subst ey
      exact op_ge pins s σ H _ _ v u Q I rx ry ⟨_, _, rfl, rfl, PostP.v h (.bl _)⟩
    · exact h.elim
  | Is =>
    simp only [cmpS] at h
    split at h
    · have ey := hb.non; subst ey
      exact op_isN pins s σ H _ _ v u Q I rx ry ⟨rfl, by rw [isN_dec ha]; exact PostP.v h (.bl _)⟩
    · exact h.elim
  | IsNot =>
    simp only [cmpS] at h
    split at h
    · have ey := hb.non; subst ey
      refine op_notN pins s σ H _ _ v u Q I rx ry ⟨rfl, ?_⟩
      rw [isN_dec ha]
      exact PostP.v h (.bl _)
    · exact h.elim
  | In =>
    simp only [cmpS] at h
    split at h
    · rename_i ys
      unfold inD at h
      split at h
      · rename_i p qs e1 e2
        exact op_inD hu pins s σ H _ _ v u Q I rx ry ⟨p, qs, ha.dp (okD_of e1).1, hb.dp (okD_of e2).1, (okD_of e1).2, (okD_of e2).2, PostP.v h (.bl _)⟩
      · exact h.elim
    · split at h
      · rename_i ys hf
        simp only [Bool.and_eq_true] at hf
        obtain ⟨q, vs, rfl, h2, r2⟩ := hb.tup
        obtain ⟨e1, e2⟩ := in_flat (flatTop ha hf.1) hf.1 r2 hf.2
        refine op_in_seq pins s σ H _ _ v u Q I rx ry ⟨q, vs, rfl, .inr h2, (eqF_V (flatTop ha hf.1) (flatTop ha hf.1) hf.1 hf.1).2, e1, ?_⟩
        rw [e2]
        exact PostP.v h (.bl _)
      · exact h.elim
    · exact h.elim
  | NotIn =>
    simp only [cmpS] at h
    split at h
    · rename_i ys
      unfold inD at h
      split at h
      · rename_i p qs e1 e2
        exact op_notInD hu pins s σ H _ _ v u Q I rx ry ⟨p, qs, ha.dp (okD_of e1).1, hb.dp (okD_of e2).1, (okD_of e1).2, (okD_of e2).2, PostP.v h (.bl _)⟩
      · exact h.elim
    · split at h
      · rename_i ys hf
        simp only [Bool.and_eq_true] at hf
        obtain ⟨q, vs, rfl, h2, r2⟩ := hb.tup
        obtain ⟨e1, e2⟩ := in_flat (flatTop ha hf.1) hf.1 r2 hf.2
        refine op_notIn_seq pins s σ H _ _ v u Q I rx ry ⟨q, vs, rfl, .inr h2, (eqF_V (flatTop ha hf.1) (flatTop ha hf.1) hf.1 hf.1).2, e1, ?_⟩
        rw [e2]
        exact PostP.v h (.bl _)
      · exact h.elim
    · exact h.elim
end
end Lw
end

section
set_option Elab.async false
set_option linter.all false
set_option maxRecDepth 100000
set_option maxHeartbeats 4000000
/-! L4: built-in functions and classes upon data -/
namespace Lw
open PySem L2 PyProof.Rows

def intsOf : List D → Option (List Int)
  | [] => some []
  | .int i :: r => (intsOf r).map (i :: ·)
  | _ :: _ => none
def blsOf : List D → Option (List Bool)
  | [] => some []
  | .bl i :: r => (blsOf r).map (i :: ·)
  | _ :: _ => none
def keyPy : Key → PyData
  | .inl i => .int i
  | .inr x => .str x
mutual
/-- as the library's data, dicts too -/
def D.pd : D → Option PyData
  | .non => some .none
  | .bl b => some (.bool b)
  | .int i => some (.int i)
  | .str x => some (.str x)
  | .tup xs => (D.pds xs).map .tuple
  | .lst xs => (D.pds xs).map .list
  | .scr ns => some (.list (ns.map .int))
  | .dk ks vs => (D.pds vs).map fun ps => .dict ((ks.map keyPy).zip ps)
  | _ => none
def D.pds : List D → Option (List PyData)
  | [] => some []
  | d :: ds => match D.pd d, D.pds ds with
    | some p, some ps => some (p :: ps)
    | _, _ => none
end
mutual
def D.noLst : D → Bool
  | .lst _ => false
  | .scr _ => false
  | .tup xs => D.noLsts xs
  | .dk _ vs => D.noLsts vs
  | _ => true
def D.noLsts : List D → Bool
  | [] => true
  | d :: ds => D.noLst d && D.noLsts ds
end
/-- repr -/
def reprD (d : D) : Option Str := match d.pd with
  | some p => if p.showable && (!p.hasDict || d.noLst) && decide (p.depth ≤ 60) && decide (p.shown.length ≤ sizeLine) then some p.shown else none
  | none => none
def tyD : D → Option String
  | .non => some "NoneType"
  | .bl _ => some "bool"
  | .int _ => some "int"
  | .str _ => some "str"
  | .tup _ => some "tuple"
  | .lst _ => some "list"
  | .dk _ _ => some "dict"
  | .dt _ _ => some "dict"
  | _ => none
def isiTys : List String := ["NoneType", "bool", "int", "str", "tuple", "list", "dict"]
def isiS (t n : String) : Bool := t == n || (t == "bool" && n == "int")
theorem isi_all : ∀ t ∈ isiTys, ∀ n ∈ isiTys, n ≠ "NoneType" → kitB t n = some (isiS t n) := by decide +kernel
def isiD (d : D) (n : String) : Option Bool := match tyD d with
  | some t => if isiTys.contains n && n != "NoneType" then some (isiS t n) else none
  | none => none
def lenD : D → Option Nat
  | .str x => if x.length ≤ sizeLine then some x.length else none
  | .tup xs => some xs.length
  | .lst xs => some xs.length
  | .scr ns => some ns.length
  | .dk ks _ => some ks.length
  | _ => none
def maxL : List Int → Int
  | [] => 0
  | [a] => a
  | a :: r => max a (maxL r)
def minL : List Int → Int
  | [] => 0
  | [a] => a
  | a :: r => min a (minL r)
/-- the order of alike data -/
def leD (a b : D × PyData) : Bool := PySem.W.dataLe false (fun x : D × PyData => x.2) a b
def sortableB (ps : List PyData) : Bool := (ps.all fun p => match p with | .tuple (_ :: _) => true | _ => false) || (ps.all fun p => match p with | .none => false | .tuple _ => false | _ => true)
def alikeB (ps : List PyData) : Bool := ps.all fun p => ps.all fun q => PySem.W.alike p q
/-- sorted(xs) -/
def sortD (xs : List D) : Option (List D) := match D.pys xs with
  | some ps => if sortableB ps && alikeB ps && ps.all (fun p => decide (p.depth ≤ 60)) then some (((xs.zip ps).mergeSort leD).map (·.1)) else none
  | none => none

/-- built-in functions -/
inductive Bi where
  | len | abs | max | min | sum | all | any | sorted | repr | isinstance
  deriving DecidableEq
def Bi.id : Bi → String
  | .len => "len" | .abs => "abs" | .max => "max" | .min => "min" | .sum => "sum" | .all => "all" | .any => "any" | .sorted => "sorted" | .repr => "repr" | .isinstance => "isinstance"
/-- built-in classes that are called -/
inductive Bt where
  | int | str | list | tuple
  deriving DecidableEq
def Bt.id : Bt → String
  | .int => "int" | .str => "str" | .list => "list" | .tuple => "tuple"
def biS (b : Bi) (ds : List D) : Option Sl := match b, ds with
  | .len, [d] => (lenD d).map fun n => vI n
  | .abs, [.int i] => some (vI (if i < 0 then -i else i))
  | .max, [.int i, .int j] => some (vI (if j > i then j else i))
  | .min, [.int i, .int j] => some (vI (if j < i then j else i))
  | .max, [.lst xs] => match intsOf xs with
    | some (i :: r) => some (vI (maxL (i :: r)))
    | _ => none
  | .min, [.lst xs] => match intsOf xs with
    | some (i :: r) => some (vI (minL (i :: r)))
    | _ => none
  | .sum, [.lst xs] => (intsOf xs).map fun ns => vI ns.sum
  | .sum, [.tup xs] => (intsOf xs).map fun ns => vI ns.sum
  | .all, [.lst xs] => (blsOf xs).map fun bs => vB (bs.all id)
  | .any, [.lst xs] => (blsOf xs).map fun bs => vB (bs.any id)
  | .sorted, [.lst xs] => (sortD xs).map fun ys => .own (.lst ys)
  | .repr, [d] => (reprD d).map fun x => .val (.str x)
  | .isinstance, [d, .ty n] => (isiD d n).map vB
  | _, _ => none
def tyS (T : Bt) (ds : List D) : Option Sl := match T, ds with
  | .int, [.int i] => some (vI i)
  | .int, [.bl b] => some (vI (if b then 1 else 0))
  | .str, [.int i] => if i.natAbs.log2 < 1920 then some (.val (.str (toString i))) else none
  | .list, [.lst xs] => some (.own (.lst xs))
  | .list, [.tup xs] => some (.own (.lst xs))
  | .tuple, [.lst xs] => some (.val (.tup xs))
  | .tuple, [.tup xs] => some (.val (.tup xs))
  | _, _ => none

section
variable {K : PySem.W.Frag} {H : Hp} {T : Addr → Prop}
theorem intsOf_map : ∀ ns : List Int, intsOf (ns.map .int) = some ns
  | [] => rfl
  | n :: ns => by simp [intsOf, intsOf_map ns]
theorem blsOf_map : ∀ ns : List Bool, blsOf (ns.map .bl) = some ns
  | [] => rfl
  | n :: ns => by simp [blsOf, blsOf_map ns]
theorem RepB.int_v {v i} (h : RepB K H T v (.int i)) : v = .int i := by
  obtain ⟨S, h, _⟩ := h
  cases h; rfl
theorem RepB.bl_v {v i} (h : RepB K H T v (.bl i)) : v = .bl i := by
  obtain ⟨S, h, _⟩ := h
  cases h; rfl
theorem ints_v : ∀ {xs : List D} {vs ns}, RepsB K H T vs xs → intsOf xs = some ns → vs = ns.map V.int
  | [], [], _, _, e => by cases e; rfl
  | .int i :: xs, v :: vs, ns, h, e => by
    obtain ⟨h1, h2⟩ := h.uncons
    cases e1 : intsOf xs with
    | none => simp [intsOf, e1] at e
    | some ms =>
      simp [intsOf, e1] at e
      subst e
      rw [h1.int_v, ints_v h2 e1]; rfl
  | d :: xs, [], _, h, _ => by have := h.length; simp at this
  | [], v :: vs, _, h, _ => by have := h.length; simp at this
  | .non :: xs, _ :: _, _, _, e => by cases e
  | .bl _ :: xs, _ :: _, _, _, e => by cases e
  | .str _ :: xs, _ :: _, _, _, e => by cases e
  | .ty _ :: xs, _ :: _, _, _, e => by cases e
  | .tup _ :: xs, _ :: _, _, _, e => by cases e
  | .lst _ :: xs, _ :: _, _, _, e => by cases e
  | .scr _ :: xs, _ :: _, _, _, e => by cases e
  | .dk _ _ :: xs, _ :: _, _, _, e => by cases e
  | .dt _ _ :: xs, _ :: _, _, _, e => by cases e
theorem bls_v : ∀ {xs : List D} {vs ns}, RepsB K H T vs xs → blsOf xs = some ns → vs = ns.map V.bl
  | [], [], _, _, e => by cases e; rfl
  | .bl i :: xs, v :: vs, ns, h, e => by
    obtain ⟨h1, h2⟩ := h.uncons
    cases e1 : blsOf xs with
    | none => simp [blsOf, e1] at e
    | some ms =>
      simp [blsOf, e1] at e
      subst e
      rw [h1.bl_v, bls_v h2 e1]; rfl
  | d :: xs, [], _, h, _ => by have := h.length; simp at this
  | [], v :: vs, _, h, _ => by have := h.length; simp at this
  | .non :: xs, _ :: _, _, _, e => by cases e
  | .int _ :: xs, _ :: _, _, _, e => by cases e
  | .str _ :: xs, _ :: _, _, _, e => by cases e
  | .ty _ :: xs, _ :: _, _, _, e => by cases e
  | .tup _ :: xs, _ :: _, _, _, e => by cases e
  | .lst _ :: xs, _ :: _, _, _, e => by cases e
  | .scr _ :: xs, _ :: _, _, _, e => by cases e
  | .dk _ _ :: xs, _ :: _, _, _, e => by cases e
  | .dt _ _ :: xs, _ :: _, _, _, e => by cases e
theorem maxL_mem : ∀ (a : Int) (r : List Int), maxL (a :: r) ∈ a :: r ∧ ∀ y ∈ a :: r, y ≤ maxL (a :: r)
  | a, [] => by simp [maxL]
  | a, b :: r => by
    obtain ⟨h1, h2⟩ := maxL_mem b r
    have e : maxL (a :: b :: r) = max a (maxL (b :: r)) := rfl
    rw [e]
    constructor
    · by_cases h : a ≤ maxL (b :: r)
      · rw [Int.max_eq_right h]; exact List.mem_cons_of_mem _ h1
      · rw [Int.max_eq_left (by omega)]; exact List.mem_cons_self ..
    · intro y hy
      rcases List.mem_cons.mp hy with rfl | hy
      · omega
      · have := h2 y hy; omega
theorem minL_mem : ∀ (a : Int) (r : List Int), minL (a :: r) ∈ a :: r ∧ ∀ y ∈ a :: r, minL (a :: r) ≤ y
  | a, [] => by simp [minL]
  | a, b :: r => by
    obtain ⟨h1, h2⟩ := minL_mem b r
    have e : minL (a :: b :: r) = min a (minL (b :: r)) := rfl
    rw [e]
    constructor
    · by_cases h : a ≤ minL (b :: r)
      · rw [Int.min_eq_left h]; exact List.mem_cons_self ..
      · rw [Int.min_eq_right (by omega)]; exact List.mem_cons_of_mem _ h1
    · intro y hy
      rcases List.mem_cons.mp hy with rfl | hy
      · omega
      · have := h2 y hy; omega
theorem TopsB.one {vs d} (h : TopsB K H T vs [d]) : ∃ v, vs = [v] ∧ TopB K H T v d := by
  cases h with
  | cons h r => cases r; exact ⟨_, rfl, h⟩
theorem TopsB.two {vs d e} (h : TopsB K H T vs [d, e]) : ∃ v w, vs = [v, w] ∧ TopB K H T v d ∧ TopB K H T w e := by
  cases h with
  | cons h r => cases r with
    | cons h' r => cases r; exact ⟨_, _, rfl, h, h'⟩
theorem sum_tup_raw {prog : Program} {w : World} {A : Around} {E : Value → Shared → Prop} {s : Shared} {l : Addr} {its : List Value} {ns : List Int} {Q : Value → Shared → Prop} (hh : A.handled = none) (hl : s.heap.IsTuple l its.toArray) (hi : IntsAre its ns)
    (h : ∀ h' tk t', (∀ b o, s.heap.get? b = some o → h'.get? b = some o) → Q (.int ns.sum t') { s with heap := h', toks := tk }) : wpAny (model prog w) A (call (.builtin "sum") [.ref l]) Q E s := by
  obtain ⟨xs, e⟩ := hi.allInts.items
  have hn : numsOf (intItems xs).toList = ns := by rw [← e]; exact hi.numsOf
  rw [nums_intItems] at hn
  rw [e] at hl
  have hlt : l < s.heap.objs.size := by obtain ⟨_, q, _⟩ := hl; exact Heap.lt_size q
  refine call_sum_walkG (wpAny_pyIter_tuple hl ?_)
  refine ⟨_, _, _, _, _, _, numAt xs, rfl, Walks.tuple (A := A.in1) hh s.heap.objs.size l (Nat.ne_of_lt hlt) (intItems xs), ⟨⟨_, Heap.get?_push_size _ rfl, rfl, rfl⟩, ?_⟩, fun b hb => ?_, (fun _ _ => intItems_at), fun h' tk t' hk => ?_⟩
  · obtain ⟨o, q, r⟩ := hl
    exact ⟨o, Heap.get?_push_of_some _ q, r⟩
  · show b < (s.heap.push _).objs.size
    rw [Heap.size_push]
    rcases List.mem_cons.mp hb with rfl | hb
    · exact Nat.lt_succ_self _
    · rcases List.mem_cons.mp hb with rfl | hb
      · exact Nat.lt_succ_of_lt hlt
      · cases hb
  · have := h h' tk t' fun b o q => hk b o (fun hm => by
      have e2 : b = s.heap.objs.size := by simpa using hm
      rw [e2] at q
      exact Nat.lt_irrefl _ (Heap.lt_size q)) (Heap.get?_push_of_some _ q)
    rw [preSum_eq, List.take_of_length_le (by simp [intItems]), hn]
    exact this
end

section
variable {X : Cx} {k : Nat}
theorem tyD_x {K H T v d t} (h : TopB K H T v d) (e : tyD d = some t) : TyX K H v (.type t) := by
  cases d with
  | non => cases e; have := h.non; subst this; exact .base .non
  | bl b => cases e; have := h.bl; subst this; exact .base (.bl b)
  | int b => cases e; have := h.int; subst this; exact .base (.int b)
  | str b => cases e; have := h.str; subst this; exact .base (.str b)
  | ty n => cases e
  | tup ds =>
    cases e
    obtain ⟨a, vs, rfl, hs, _⟩ := h.tup
    rcases hs with (hs | ⟨o, hs⟩) | ⟨o, its, n, hk, hc, _⟩
    · exact .base (.tup hs)
    · exact .fTuple hs
    · exact .kTuple hk hc
  | lst ds =>
    cases e
    obtain ⟨a, vs, rfl, hs, _⟩ := h.lst
    exact .base (.lst hs)
  | scr ns => cases e
  | dk ks vs =>
    cases e
    obtain ⟨a, ws, rfl, hs, _⟩ := h.dk
    exact .base (.dK hs)
  | dt ks vs =>
    cases e
    obtain ⟨a, ws, rfl, hs, _⟩ := h.dt
    exact .base (.dT hs)
theorem tyD_mem {d t} (e : tyD d = some t) : t ∈ isiTys := by
  cases d <;> cases e <;> decide
theorem lenD_v {K H T v d n} (h : TopB K H T v d) (e : lenD d = some n) : (∃ z, v = .str z ∧ z.length ≤ sizeLine ∧ n = z.length) ∨ (∃ p ys, v = .ref p ∧ (SqL K H p ys ∨ SqT K H p ys) ∧ n = ys.length) ∨ ∃ (p : Addr) (kvs : List (Key × V)), v = .ref p ∧ H p = some (.dK kvs) ∧ n = kvs.length := by
  cases d with
  | str x =>
    simp only [lenD] at e
    split at e
    · cases e; exact .inl ⟨x, h.str, by assumption, rfl⟩
    · cases e
  | tup ds => cases e; obtain ⟨a, vs, rfl, hs, r⟩ := h.tup; exact .inr (.inl ⟨a, vs, rfl, .inr hs, r.length.symm⟩)
  | lst ds => cases e; obtain ⟨a, vs, rfl, hs, r⟩ := h.lst; exact .inr (.inl ⟨a, vs, rfl, .inl (SqL.of hs), r.length.symm⟩)
  | scr ns => cases e; obtain ⟨a, rfl, hs⟩ := h.scr; exact .inr (.inl ⟨a, _, rfl, .inl hs.sq, by simp⟩)
  | dk ks vs => cases e; obtain ⟨a, ws, rfl, hs, hl, _⟩ := h.dk; exact .inr (.inr ⟨a, _, rfl, hs, by rw [List.length_zip]; omega⟩)
  | _ => cases e

/-! ### repr -/
theorem pds_cons {d : D} {ds : List D} {ps : List PyData} (h : D.pds (d :: ds) = some ps) : ∃ p qs, D.pd d = some p ∧ D.pds ds = some qs ∧ ps = p :: qs := by
  unfold D.pds at h
  split at h
  · rename_i p qs h1 h2
    exact ⟨p, qs, h1, h2, (Option.some.inj h).symm⟩
  · cases h
theorem readsAll_ints {h : Heap} : ∀ {ns : List Int} {us : List Value}, Vals (ns.map V.int) us → ∃ as, ReadsAll h us (ns.map .int) as ∧ as = []
  | [], _, .nil => ⟨[], .nil, rfl⟩
  | n :: ns, _, .cons r rs => by
    obtain ⟨t, rfl⟩ := r
    obtain ⟨as, h1, rfl⟩ := readsAll_ints rs
    exact ⟨_, .cons (.int n t) h1, rfl⟩
theorem dictReads {prog : Program} {w : World} {h : Heap} : ∀ {es : List DictEntry} {kvs : List (Key × Value)}, Pairs (mixKind prog w) es kvs → ReadsAll h (es.map (·.key)) (kvs.map fun p => keyPy p.1) [] ∧ es.map (·.val) = kvs.map (·.2)
  | _, _, .nil => ⟨.nil, rfl⟩
  | _, _, .cons (kv := (k, v)) h1 h2 r => by
    obtain ⟨q1, q2⟩ := dictReads (h := h) r
    refine ⟨?_, by simp only [List.map_cons]; rw [h2, q2]⟩
    rcases keyIs_shape (show keyIs k _ = true from h1) with ⟨i, t, rfl, e⟩ | ⟨x, t, rfl, e⟩
    · simp only [List.map_cons]; rw [e]; exact ReadsAll.cons (as := []) (.int i t) q1
    · simp only [List.map_cons]; rw [e]; exact ReadsAll.cons (as := []) (.str x t) q1
theorem kv_split : ∀ {ks : List Key} {vs : List V} {kvs : List (Key × Value)}, ks.length = vs.length → KV (ks.zip vs) kvs → kvs.map (·.1) = ks ∧ Vals vs (kvs.map (·.2))
  | [], [], _, _, .nil => ⟨rfl, .nil⟩
  | k :: ks, v :: vs, _, h, .cons ⟨e, r⟩ t => by
    obtain ⟨q1, q2⟩ := kv_split (by simpa using h) t
    exact ⟨by simp only [List.map_cons]; rw [q1, ← e], .cons r q2⟩
  | [], v :: vs, _, h, _ => by simp at h
  | k :: ks, [], _, h, _ => by simp at h
theorem zip_key (ks : List Key) (ps : List PyData) (h : ks.length = ps.length) : ((ks.map keyPy).zip ps).map (·.1) = ks.map keyPy ∧ ((ks.map keyPy).zip ps).map (·.2) = ps := by
  constructor
  · rw [List.map_fst_zip]; simp [h]
  · rw [List.map_snd_zip]; simp [h]
theorem pds_length : ∀ {ds : List D} {ps}, D.pds ds = some ps → ds.length = ps.length
  | [], _, e => by cases e; rfl
  | d :: ds, _, e => by
    obtain ⟨p, qs, _, e2, rfl⟩ := pds_cons e
    simp [pds_length e2]
section
variable {pins : List (Addr × Obj)} {σ : L2.St} {H : Hp} {s : Shared}
mutual
theorem Rep.rd (I : Inv X pins σ H s) : ∀ {v d S p u}, Rep X.K H v d S → RelV v u → D.pd d = some p → ∃ as, Reads s.heap u p as ∧ (d.noLst = true → sysModules ∉ as)
  | _, _, _, _, _, .non, r, e => by cases e; cases r; exact ⟨_, .none, fun _ => by simp⟩
  | _, _, _, _, _, .bl b, r, e => by cases e; cases r; exact ⟨_, .bool b, fun _ => by simp⟩
  | _, _, _, _, _, .int b, r, e => by cases e; obtain ⟨t, rfl⟩ := r; exact ⟨_, .int b t, fun _ => by simp⟩
  | _, _, _, _, _, .str b, r, e => by cases e; obtain ⟨t, rfl⟩ := r; exact ⟨_, .str b t, fun _ => by simp⟩
  | _, _, _, _, _, .ty b, r, e => by cases e
  | _, _, _, _, _, .scr h, r, e => by
    cases e
    cases r
    obtain ⟨its, rv, ⟨o, n, ho, hc, _, hd⟩, _⟩ := I.list h.sq
    obtain ⟨as, q, _⟩ := readsAll_ints (h := s.heap) rv
    exact ⟨_, .list ho hc hd q, fun z => by cases z⟩
  | _, _, _, _, _, .tup (ds := ds) h hr, r, e => by
    cases e1 : D.pds ds with
    | none => simp [D.pd, e1] at e
    | some ps =>
      simp [D.pd, e1] at e
      subst e
      cases r
      obtain ⟨its, rv, ⟨o, ho, hc, n, hd⟩, _⟩ := I.tuple h
      obtain ⟨as, q, hs⟩ := Reps.rd I hr rv e1
      exact ⟨_, .tuple ho hc hd q, fun z => hs (by simpa [D.noLst] using z)⟩
  | _, _, _, _, _, .lst (ds := ds) h hr, r, e => by
    cases e1 : D.pds ds with
    | none => simp [D.pd, e1] at e
    | some ps =>
      simp [D.pd, e1] at e
      subst e
      cases r
      obtain ⟨its, rv, ⟨o, n, ho, hc, _, hd⟩, _⟩ := I.list (SqL.of h)
      obtain ⟨as, q, hs⟩ := Reps.rd I hr rv e1
      exact ⟨_, .list ho hc hd q, fun z => by cases z⟩
  | _, _, _, _, _, .dk (a := a) (ks := ks) (vs := vs) (ds := ds) h hl hr, r, e => by
    cases e1 : D.pds ds with
    | none => simp [D.pd, e1] at e
    | some ps =>
      simp [D.pd, e1] at e
      subst e
      cases r
      obtain ⟨z, y, kvs, kv, o, es, ep, ho, ex, hd, hk, hp, hnd⟩ := I.hok a _ h
      obtain ⟨k1, k2⟩ := kv_split hl kv
      obtain ⟨as, q, hs⟩ := Reps.rd I hr k2 e1
      obtain ⟨p1, p2⟩ := dictReads (h := s.heap) hp
      have hlen : ks.length = ps.length := by rw [hl, hr.length, pds_length e1]
      obtain ⟨z1, z2⟩ := zip_key ks ps hlen
      refine ⟨_, .dict (kvs := (ks.map keyPy).zip ps) (as := []) (bs := as) ho ex.1 hd ?_ ?_, fun zz => ?_⟩
      · rw [z1, ← k1, List.map_map]
        exact p1
      · rw [z2, p2]; exact q
      · have h1 := hs (by simpa [D.noLst] using zz)
        intro hm
        rcases List.mem_cons.mp (by simpa using hm) with q1 | q1
        · rw [← q1] at y; simp at y
        · exact h1 (by simpa using q1)
  | _, _, _, _, _, .dt _ _ _, _, e => by cases e
theorem Reps.rd (I : Inv X pins σ H s) : ∀ {v d S p u}, Reps X.K H v d S → Vals v u → D.pds d = some p → ∃ as, ReadsAll s.heap u p as ∧ (D.noLsts d = true → sysModules ∉ as)
  | _, _, _, _, _, .nil, r, e => by cases e; cases r; exact ⟨_, .nil, fun _ => by simp⟩
  | _, _, _, _, _, .cons h hr, r, e => by
    obtain ⟨p, qs, e1, e2, rfl⟩ := pds_cons e
    cases r with
    | cons r1 r2 =>
      obtain ⟨as, q1, n1⟩ := Rep.rd I h r1 e1
      obtain ⟨bs, q2, n2⟩ := Reps.rd I hr r2 e2
      refine ⟨_, .cons q1 q2, fun z => ?_⟩
      simp only [D.noLsts, Bool.and_eq_true] at z
      intro hm
      exact (List.mem_append.mp hm).elim (n1 z.1) (n2 z.2)
end
theorem Top.full {K H v d S} (h : Top K H v d S) : ∃ S', Rep K H v d S' := by
  cases h with
  | sc h _ => exact ⟨_, h⟩
  | lst h1 h2 => exact ⟨_, .lst h1 h2⟩
  | dk h1 h2 h3 => exact ⟨_, .dk h1 h2 h3⟩
  | dt h1 h2 h3 => exact ⟨_, .dt h1 h2 h3⟩
end
theorem repr_ok (hr : Room k X.A) (hg : X.A.guards = some []) {pins : List (Addr × Obj)} {s : Shared} {σ : L2.St} {H : Hp} {v : V} {u : Value} {d : D} {x : Str} {T : Addr → Prop} {Q : VK} (I : Inv X pins σ H s) (r : RelV v u) (h : TopB X.K H T v d) (e : reprD d = some x)
    (q : Q (.str x) H) : wpAny (model X.prog X.w) X.A (call (.builtin "repr") [u]) (EP X pins σ Q) X.xe s := by
  have hu : X.A.units + 65 < cLine := by have := hr.un; omega
  unfold reprD at e
  split at e
  case h_2 => cases e
  rename_i p ep
  split at e
  case isFalse => cases e
  rename_i hc
  cases e
  simp only [Bool.and_eq_true, Bool.or_eq_true, Bool.not_eq_true', decide_eq_true_eq] at hc
  obtain ⟨⟨⟨c1, c2⟩, c3⟩, c4⟩ := hc
  obtain ⟨S, ht, hS⟩ := h
  obtain ⟨S', hrp⟩ := ht.full
  obtain ⟨as, rd, hn⟩ := hrp.rd I r ep
  have fin : ∀ h' (t : Tok) tk, (∀ b o, s.heap.get? b = some o → h'.get? b = some o) → EP X pins σ Q (.str p.shown t) { s with heap := h', toks := tk } := fun h' t tk hk => ⟨.str p.shown, H, I.kept hk, ⟨_, rfl⟩, q⟩
  have fin0 : EP X pins σ Q (.str p.shown s.toks) { s with toks := s.toks + 1 } := fin s.heap _ _ fun _ _ z => z
  cases rd with
  | none => exact PySem.P.repr_of_none (by simpa [PyData.shown] using fin0)
  | bool b => exact PySem.P.repr_of_bool (by simpa [PyData.shown] using fin0)
  | int i t => exact PySem.P.repr_of_int (by simpa [PyData.showable] using c1) (by simpa [PyData.shown] using fin0)
  | str x t => exact PySem.P.repr_of_str (by simpa [PyData.shown] using fin0) (by simpa [PyData.shown] using c4)
  | list h1 h2 h3 h4 => exact repr_of_reads' (.list h1 h2 h3 h4) c1 (fun z => hn (c2.resolve_left (by rw [z]; simp))) hg (by omega) (fun _ _ z => z) fin c4
  | tuple h1 h2 h3 h4 => exact repr_of_reads' (.tuple h1 h2 h3 h4) c1 (fun z => hn (c2.resolve_left (by rw [z]; simp))) hg (by omega) (fun _ _ z => z) fin c4
  | dict h1 h2 h3 h4 h5 => exact repr_of_reads' (.dict h1 h2 h3 h4 h5) c1 (fun z => hn (c2.resolve_left (by rw [z]; simp))) hg (by omega) (fun _ _ z => z) fin c4

/-! ### sorted -/
theorem sort_ok (hr : Room k X.A) {pins : List (Addr × Obj)} {s : Shared} {σ : L2.St} {H : Hp} {a : Addr} {vs : List V} {xs ys : List D} {T : Addr → Prop} {Q : VK} (I : Inv X pins σ H s) (ha : H a = some (.lst vs)) (h : RepsB X.K H T vs xs) (e : sortD xs = some ys)
    (q : ∀ p zs, H p = none → RepsB X.K H T zs ys → Q (.ref p) (upd H p (.lst zs))) : wpAny (model X.prog X.w) X.A (call (.builtin "sorted") [.ref a]) (EP X pins σ Q) X.xe s := by
  have hu : X.A.units + 65 < cLine := by have := hr.un; omega
  unfold sortD at e
  split at e
  case h_2 => cases e
  rename_i ps eps
  split at e
  case isFalse => cases e
  rename_i hc
  cases e
  simp only [Bool.and_eq_true] at hc
  obtain ⟨⟨c1, c2⟩, c3⟩ := hc
  obtain ⟨its, rv, hl, hz⟩ := I.list (SqL.of ha)
  -- the items, with their values and data
  have pack : ∀ {vs : List V} {xs : List D} {ps : List PyData} {its : List Value}, RepsB X.K H T vs xs → D.pys xs = some ps → Vals vs its → ∃ bs : List (V × D × PyData), bs.map (·.2) = xs.zip ps ∧ bs.map (·.2.2) = ps ∧ bs.length = its.length ∧
      PySem.W.EachIs (fun u b => RelV b.1 u) its bs ∧ PySem.W.EachIs (fun u (b : V × D × PyData) => ∃ as, Reads s.heap u b.2.2 as) its bs ∧ ∀ b ∈ bs, RepB X.K H T b.1 b.2.1 := by
    intro vs xs ps its h e rv
    induction xs generalizing vs ps its with
    | nil =>
      cases e
      cases vs with
      | nil => cases rv; exact ⟨[], rfl, rfl, rfl, .nil, .nil, fun _ z => nomatch z⟩
      | cons v vs => have := h.length; simp at this
    | cons x xs ih =>
      obtain ⟨p, qs, e1, e2, rfl⟩ := pys_cons e
      cases vs with
      | nil => have := h.length; simp at this
      | cons v vs =>
        obtain ⟨h1, h2⟩ := h.uncons
        cases rv with
        | cons r1 r2 =>
          obtain ⟨bs, b1, b1', b2, b3, b4, b5⟩ := ih h2 e2 r2
          obtain ⟨S, hrp, hS⟩ := id h1
          obtain ⟨as, rd⟩ := Dp.reads I p v _ (hrp.dp e1) r1
          exact ⟨(v, x, p) :: bs, by simp [b1], by simp [b1'], by simp [b2], .cons r1 b3, .cons ⟨as, rd⟩ b4, fun b hb => (List.mem_cons.mp hb).elim (fun z => by rw [z]; exact h1) (b5 b)⟩
  obtain ⟨bs, b1, b1', b2, b3, b4, b5⟩ := pack h eps rv
  refine PySem.W.sorted_data (enc := fun b : V × D × PyData => b.2.2) hl.isList b3 b4 ?_ ?_ (by rw [b2, ← rv.length]; exact hz) (fun b hb => ?_) fun out ho hout => ?_
  · rw [b1']
    intro d hd d' hd'
    exact List.all_eq_true.mp (List.all_eq_true.mp c2 d hd) d' hd'
  · rw [b1']
    unfold sortableB at c1
    rcases Bool.or_eq_true_iff.mp c1 with c | c
    · refine .inl fun d hd => ?_
      have := List.all_eq_true.mp c d hd
      split at this
      · exact ⟨_, _, rfl⟩
      · cases this
    · refine .inr fun d hd => ?_
      have := List.all_eq_true.mp c d hd
      refine ⟨fun z => (by rw [z] at this; cases this), fun xs z => (by rw [z] at this; cases this)⟩
  · have := of_decide_eq_true (List.all_eq_true.mp c3 b.2.2 (by rw [← b1']; exact List.mem_map.mpr ⟨b, hb, rfl⟩))
    omega
  · obtain ⟨ep, he'⟩ := PyProof.Rows.sortedAll_at s.heap its out.toArray
    -- the values
    have vals : ∀ {out : List Value} {cs : List (V × D × PyData)}, PySem.W.EachIs (fun u b => RelV b.1 u) out cs → Vals (cs.map (·.1)) out := by
      intro out cs h
      induction h with
      | nil => exact .nil
      | cons h1 _ ih => exact .cons h1 ih
    have hv := vals hout
    have reps : ∀ {cs : List (V × D × PyData)}, (∀ b ∈ cs, RepB X.K H T b.1 b.2.1) → RepsB X.K H T (cs.map (·.1)) (cs.map (·.2.1)) := by
      intro cs
      induction cs with
      | nil => intro _; exact .nil
      | cons c cs ih => intro h; exact .cons (h c (List.mem_cons_self ..)) (ih fun b hb => h b (List.mem_cons_of_mem _ hb))
    have hrs := reps (cs := bs.mergeSort (PySem.W.dataLe false fun b : V × D × PyData => b.2.2)) fun b hb => b5 b ((List.mergeSort_perm bs _).mem_iff.mp hb)
    have em : (bs.mergeSort (PySem.W.dataLe false fun b : V × D × PyData => b.2.2)).map (·.2.1) = ((xs.zip ps).mergeSort leD).map (·.1) := by
      rw [← b1, ← List.map_mergeSort (r := PySem.W.dataLe false fun b : V × D × PyData => b.2.2) (s := leD) (f := (·.2)) (hl := fun _ _ _ _ => rfl), List.map_map]
      rfl
    rw [em] at hrs
    have hlen : ((bs.mergeSort (PySem.W.dataLe false fun b : V × D × PyData => b.2.2)).map (·.1)).length ≤ sizeLine := by
      rw [List.length_map, List.length_mergeSort, b2, ← rv.length]; exact hz
    exact ⟨.ref _, _, I.laid (t' := s.toks) (o := .lst ((bs.mergeSort (PySem.W.dataLe false fun b : V × D × PyData => b.2.2)).map (·.1))) (fun _ _ => PyProof.Rows.sortedAll_old) (Nat.le_succ _) ⟨hlen, out, ep, hv, he'⟩, rfl, q _ _ (I.hok.fresh (Nat.le_succ _)) hrs⟩
end
end Lw
end

section
set_option Elab.async false
set_option linter.all false
set_option maxRecDepth 100000
set_option maxHeartbeats 4000000
/-! L5: the calls of built-ins keep biS, tyS; subscripts, slices -/
namespace Lw
open PySem L2 PyProof.Rows
section
variable {X : Cx} {k : Nat}
theorem bi_ok (hr : Room k X.A) (hc : X.calm = true) (hg : X.A.guards = some []) (b : Bi) : CallR X (.builtin b.id) (rnD X.K (biS b)) := by
  intro pins s σ H xs us Q I rs ⟨T, ds, ht, h⟩
  unfold biS at h
  split at h
  · -- len
    rename_i d
    obtain ⟨v, rfl, tv⟩ := ht.one
    cases e : lenD d with
    | none => rw [e] at h; exact h.elim
    | some n =>
      rw [e] at h
      have q : Q (.int n) H := PostP.v h (.int _)
      rcases lenD_v tv e with ⟨z, rfl, hz, rfl⟩ | ⟨p, ys, rfl, hs, rfl⟩ | ⟨p, kvs, rfl, hs, rfl⟩
      · exact call_len_str pins s σ H _ us Q I rs ⟨z, rfl, hz, q⟩
      · exact call_len_seq pins s σ H _ us Q I rs ⟨p, ys, rfl, hs, q⟩
      · exact call_lenD pins s σ H _ us Q I rs ⟨p, kvs, rfl, hs, q⟩
  · obtain ⟨v, rfl, tv⟩ := ht.one
    have := tv.int; subst this
    exact call_abs pins s σ H _ us Q I rs ⟨_, rfl, PostP.v h (.int _)⟩
  · obtain ⟨v, w, rfl, tv, tw⟩ := ht.two
    have := tv.int; subst this
    have := tw.int; subst this
    exact call_max2 hc pins s σ H _ us Q I rs ⟨_, _, rfl, PostP.v h (.int _)⟩
  · obtain ⟨v, w, rfl, tv, tw⟩ := ht.two
    have := tv.int; subst this
    have := tw.int; subst this
    exact call_min2 hc pins s σ H _ us Q I rs ⟨_, _, rfl, PostP.v h (.int _)⟩
  · split at h
    · rename_i xs i r e
      obtain ⟨v, rfl, tv⟩ := ht.one
      obtain ⟨a, vs, rfl, ha, hrs⟩ := tv.lst
      have ev := ints_v hrs e
      subst ev
      refine cr_max hc pins s σ H _ us Q I rs ⟨a, i :: r, rfl, SqL.of ha, by simp, fun m hm hle => ?_⟩
      obtain ⟨m1, m2⟩ := maxL_mem i r
      have em : m = maxL (i :: r) := by have h1 := m2 m hm; have h2 := hle _ m1; omega
      rw [em]
      exact PostP.v h (.int _)
    · exact h.elim
  · split at h
    · rename_i xs i r e
      obtain ⟨v, rfl, tv⟩ := ht.one
      obtain ⟨a, vs, rfl, ha, hrs⟩ := tv.lst
      have ev := ints_v hrs e
      subst ev
      refine cr_min hc pins s σ H _ us Q I rs ⟨a, i :: r, rfl, SqL.of ha, by simp, fun m hm hle => ?_⟩
      obtain ⟨m1, m2⟩ := minL_mem i r
      have em : m = minL (i :: r) := by have h1 := m2 m hm; have h2 := hle _ m1; omega
      rw [em]
      exact PostP.v h (.int _)
    · exact h.elim
  · rename_i xs
    cases e : intsOf xs with
    | none => rw [e] at h; exact h.elim
    | some ns =>
      rw [e] at h
      obtain ⟨v, rfl, tv⟩ := ht.one
      obtain ⟨a, vs, rfl, ha, hrs⟩ := tv.lst
      have ev := ints_v hrs e
      subst ev
      exact cr_sum hc pins s σ H _ us Q I rs ⟨a, ns, rfl, SqL.of ha, PostP.v h (.int _)⟩
  · rename_i xs
    cases e : intsOf xs with
    | none => rw [e] at h; exact h.elim
    | some ns =>
      rw [e] at h
      obtain ⟨v, rfl, tv⟩ := ht.one
      obtain ⟨a, vs, rfl, ha, hrs⟩ := tv.tup
      have ev := ints_v hrs e
      subst ev
      obtain ⟨its, rv, hl, _⟩ := I.tuple ha
      rw [Vals.ref1 rs]
      refine sum_tup_raw (I.ok.hd hc) (show s.heap.IsTuple a its.toArray from hl) rv.ints fun h' tk t' hk => ?_
      exact ⟨.int _, H, I.kept hk, ⟨_, rfl⟩, PostP.v h (.int _)⟩
  · rename_i xs
    cases e : blsOf xs with
    | none => rw [e] at h; exact h.elim
    | some ns =>
      rw [e] at h
      obtain ⟨v, rfl, tv⟩ := ht.one
      obtain ⟨a, vs, rfl, ha, hrs⟩ := tv.lst
      have ev := bls_v hrs e
      subst ev
      exact cr_all hc pins s σ H _ us Q I rs ⟨a, ns, rfl, SqL.of ha, PostP.v h (.bl _)⟩
  · rename_i xs
    cases e : blsOf xs with
    | none => rw [e] at h; exact h.elim
    | some ns =>
      rw [e] at h
      obtain ⟨v, rfl, tv⟩ := ht.one
      obtain ⟨a, vs, rfl, ha, hrs⟩ := tv.lst
      have ev := bls_v hrs e
      subst ev
      exact cr_any hc pins s σ H _ us Q I rs ⟨a, ns, rfl, SqL.of ha, PostP.v h (.bl _)⟩
  · rename_i xs
    cases e : sortD xs with
    | none => rw [e] at h; exact h.elim
    | some ys =>
      rw [e] at h
      obtain ⟨v, rfl, tv⟩ := ht.one
      obtain ⟨a, vs, rfl, ha, hrs⟩ := tv.lst
      rw [Vals.ref1 rs]
      exact sort_ok hr I ha hrs e fun p zs hp hz => PostP.newLst h hp hz
  · rename_i d
    cases e : reprD d with
    | none => rw [e] at h; exact h.elim
    | some x =>
      rw [e] at h
      obtain ⟨v, rfl, tv⟩ := ht.one
      obtain ⟨u, rfl, r⟩ := vals1 rs
      exact repr_ok hr hg I r tv e (PostP.v h (.str _))
  · rename_i d n
    unfold isiD at h
    split at h
    · rename_i t et
      split at h
      · rename_i hn
        obtain ⟨v, w, rfl, tv, tw⟩ := ht.two
        have := tw.ty; subst this
        simp only [Bool.and_eq_true, bne_iff_ne] at hn
        have hk := isi_all t (tyD_mem et) n (List.contains_iff_mem.mp hn.1) hn.2
        exact call_isi pins s σ H _ us Q I rs ⟨v, .ty n, _, _, _, rfl, .ty n, tyD_x tv et, kit_ty hk, PostP.v h (.bl _)⟩
      · exact h.elim
    · exact h.elim
  · exact h.elim
theorem ty_ok (b : Bt) : CallR X (.type b.id) (rnD X.K (tyS b)) := by
  intro pins s σ H xs us Q I rs ⟨T, ds, ht, h⟩
  unfold tyS at h
  split at h
  · obtain ⟨v, rfl, tv⟩ := ht.one
    have := tv.int; subst this
    exact call_int1 pins s σ H _ us Q I rs (.inl ⟨_, rfl, PostP.v h (.int _)⟩)
  · obtain ⟨v, rfl, tv⟩ := ht.one
    have := tv.bl; subst this
    exact call_int1 pins s σ H _ us Q I rs (.inr ⟨_, rfl, PostP.v h (.int _)⟩)
  · split at h
    · obtain ⟨v, rfl, tv⟩ := ht.one
      have := tv.int; subst this
      exact call_str_int pins s σ H _ us Q I rs ⟨_, rfl, by assumption, PostP.v h (.str _)⟩
    · exact h.elim
  · obtain ⟨v, rfl, tv⟩ := ht.one
    obtain ⟨a, vs, rfl, ha, hrs⟩ := tv.lst
    exact call_list_of pins s σ H _ us Q I rs ⟨a, vs, rfl, .inl (SqL.of ha), fun l hl => PostP.newLst h hl hrs⟩
  · obtain ⟨v, rfl, tv⟩ := ht.one
    obtain ⟨a, vs, rfl, ha, hrs⟩ := tv.tup
    exact call_list_of pins s σ H _ us Q I rs ⟨a, vs, rfl, .inr ha, fun l hl => PostP.newLst h hl hrs⟩
  · obtain ⟨v, rfl, tv⟩ := ht.one
    obtain ⟨a, vs, rfl, ha, hrs⟩ := tv.lst
    exact call_tuple_of pins s σ H _ us Q I rs ⟨a, vs, rfl, .inl ⟨SqL.of ha, fun l hl => PostP.newTup h hl hrs⟩⟩
  · obtain ⟨v, rfl, tv⟩ := ht.one
    obtain ⟨a, vs, rfl, ha, hrs⟩ := tv.tup
    exact call_tuple_of pins s σ H _ us Q I rs ⟨a, vs, rfl, .inr ⟨ha, PostP.v h (.tup ha hrs)⟩⟩
  · exact h.elim
/-! ### subscripts -/
def ixS (a b : D) : Option Sl := match a, b with
  | .lst xs, .int i => (atI xs i).map .val
  | .tup xs, .int i => (atI xs i).map .val
  | .scr ns, .int i => (atI ns i).map vI
  | .str z, .int i => if z.length ≤ sizeLine then (atI z.cps.toList i).map fun c => .val (.str ⟨#[c]⟩) else none
  | _, _ => none
theorem atI_reps {K H T} {vs : List V} {xs : List D} {i : Int} {d : D} (h : RepsB K H T vs xs) (e : atI xs i = some d) : ∃ v, atI vs i = some v ∧ RepB K H T v d := by
  unfold atI at e ⊢
  rw [h.length]
  cases e1 : ixN xs.length i with
  | none => rw [e1] at e; cases e
  | some j =>
    rw [e1] at e
    obtain ⟨v, e2, r⟩ := h.get e
    exact ⟨v, e2, r⟩
theorem ix_ok : IxR X (r2D X.K ixS) := by
  intro value slice pins s σ H x y v u Q I rx ry ⟨T, a, b, ha, hb, h⟩ hs
  unfold ixS at h
  split at h
  · rename_i xs i
    cases e : atI xs i with
    | none => rw [e] at h; exact h.elim
    | some d =>
      rw [e] at h
      obtain ⟨p, vs, rfl, hl, hrs⟩ := ha.lst
      have := hb.int; subst this
      obtain ⟨w, e2, r⟩ := atI_reps hrs e
      exact ix_list value slice pins s σ H _ _ v u Q I rx ry ⟨p, vs, i, w, rfl, rfl, SqL.of hl, e2, PostP.v h r⟩ hs
  · rename_i xs i
    cases e : atI xs i with
    | none => rw [e] at h; exact h.elim
    | some d =>
      rw [e] at h
      obtain ⟨p, vs, rfl, hl, hrs⟩ := ha.tup
      have := hb.int; subst this
      obtain ⟨w, e2, r⟩ := atI_reps hrs e
      exact ix_tup value slice pins s σ H _ _ v u Q I rx ry ⟨p, vs, i, w, rfl, rfl, hl, e2, PostP.v h r⟩ hs
  · rename_i ns i
    cases e : atI ns i with
    | none => rw [e] at h; exact h.elim
    | some n =>
      rw [e] at h
      obtain ⟨p, rfl, hl⟩ := ha.scr
      have := hb.int; subst this
      refine ix_list value slice pins s σ H _ _ v u Q I rx ry ⟨p, _, i, .int n, rfl, rfl, hl.sq, ?_, PostP.v h (.int _)⟩ hs
      unfold atI at e ⊢
      rw [List.length_map]
      cases e1 : ixN ns.length i with
      | none => rw [e1] at e; cases e
      | some j =>
        rw [e1] at e
        have e' : ns[j]? = some n := e
        show (ns.map V.int)[j]? = _
        rw [List.getElem?_map, e']; rfl
  · rename_i z i
    split at h
    · cases e : atI z.cps.toList i with
      | none => rw [e] at h; exact h.elim
      | some c =>
        rw [e] at h
        have := ha.str; subst this
        have := hb.int; subst this
        exact ix_str value slice pins s σ H _ _ v u Q I rx ry ⟨z, i, c, rfl, rfl, by assumption, e, PostP.v h (.str _)⟩ hs
    · exact h.elim
  · exact h.elim
/-! ### slices -/
def cutD {α : Type} (xs : List α) (lo hi : Option Int) : List α := (xs.drop (HT.sIx xs.length 0 lo)).take (HT.sIx xs.length xs.length hi - HT.sIx xs.length 0 lo)
def slS (a : D) (lo hi : Option Int) : Option Sl := match a with
  | .lst xs => some (.own (.lst (cutD xs lo hi)))
  | .tup xs => some (.val (.tup (cutD xs lo hi)))
  | .scr ns => some (.own (.lst ((cutD ns lo hi).map .int)))
  | .str z => if z.length ≤ sizeLine then some (.val (.str (cutS z lo hi))) else none
  | _ => none
theorem cut_reps {K H T} {vs : List V} {xs : List D} (h : RepsB K H T vs xs) (lo hi : Option Int) : RepsB K H T (cutV vs lo hi) (cutD xs lo hi) := by
  unfold cutV cutD
  rw [h.length]
  exact (h.drop _).take _
def rsD (K : PySem.W.Frag) : V → Option Int → Option Int → Hp → VK → Prop := fun x lo hi H Q => ∃ T a, TopB K H T x a ∧ PostP K H T Q (slS a lo hi)
theorem reps_ints {K H T} : ∀ ns : List Int, RepsB K H T (ns.map V.int) (ns.map D.int)
  | [] => .nil
  | n :: ns => .cons (.int n) (reps_ints ns)

theorem sl_ok : SlR X (rsD X.K) := by
  intro pins s σ H x v vl vu lo hi sl Q I rx hs pl pu ⟨T, a, ha, h⟩
  unfold slS at h
  split at h
  · obtain ⟨p, vs, rfl, hl, hrs⟩ := ha.lst
    exact sl_list pins s σ H _ v vl vu lo hi sl Q I rx hs pl pu ⟨p, vs, rfl, SqL.of hl, fun q hq => PostP.newLst h hq (cut_reps hrs lo hi)⟩
  · rename_i xs
    obtain ⟨p, vs, rfl, hl, hrs⟩ := ha.tup
    refine sl_tupA pins s σ H _ v vl vu lo hi sl Q I rx hs pl pu ⟨p, vs, rfl, hl, fun ⟨e1, e2⟩ => ?_, fun _ q hq => PostP.newTup h hq (cut_reps hrs lo hi)⟩
    have e : cutD xs lo hi = xs := by
      unfold cutD
      rw [← hrs.length, e1, e2, List.drop_zero, Nat.sub_zero, List.take_of_length_le (Nat.le_of_eq hrs.length.symm)]
    rw [e] at h
    exact PostP.v h (.tup hl hrs)
  · rename_i ns
    obtain ⟨p, rfl, hl⟩ := ha.scr
    refine sl_list pins s σ H _ v vl vu lo hi sl Q I rx hs pl pu ⟨p, _, rfl, hl.sq, fun q hq => ?_⟩
    have e : cutV (ns.map V.int) lo hi = (cutD ns lo hi).map V.int := by
      unfold cutV cutD
      rw [List.length_map, List.map_take, List.map_drop]
    rw [e]
    exact PostP.newLst h hq (reps_ints _)
  · split at h
    · have := ha.str; subst this
      exact sl_str pins s σ H _ v vl vu lo hi sl Q I rx hs pl pu ⟨_, rfl, by assumption, PostP.v h (.str _)⟩
    · exact h.elim
  · exact h.elim
end
end Lw
end

section
set_option Elab.async false
set_option linter.all false
set_option maxRecDepth 100000
set_option maxHeartbeats 4000000
/-! L6: the intermediate language and what it comes to -/
namespace Lw
open PySem L2

inductive Tgt where
  | nm (i : Nat)
  | tup (ts : List Tgt)
  deriving Inhabited

/-- methods of texts, lists, tuples that change nothing -/
inductive Mt where
  | upper | lcount
  deriving DecidableEq

inductive E where
  | non | bl (b : Bool) | int (i : Int) | str (x : Str) | tyc (n : String) | cst (c : Nat)
  /-- a slot: read in place; frozen; handed on -/
  | var (i : Nat) | fz (i : Nat) | mv (i : Nat)
  | bop (o : Operator) (a b : E) | cmp (o : CmpOp) (a b : E) | chn (o o' : CmpOp) (a b c : E) | neg (a : E)
  | andV (a b : E) | orV (a b : E) | notV (a : E) | ite (c a b : E)
  | bi (b : Bi) (as : List E) | ty (t : Bt) (as : List E) | mth (m : Mt) (a : E) (as : List E)
  | lr1 (a : E) | lr2 (a b : E) | dict0 | dict1 (k : Str) (n : Int) | sset (a : E)
  | idx (a b : E) | slc (a : E) (lo hi : E) | rev (a : E)
  | tup (as : List E) | lst (as : List E) | star (a : E)
  | lc (elt : E) (tg : Tgt) (it : E) (ifs : List E) (own : List Nat)
  | call (f : Nat) (as : List E)
  /-- what is walked: a list or tuple; range; enumerate; zip -/
  | rng1 (a : E) | rng2 (a b : E) | enum (a : E) | zip (a b : E)
  deriving Inhabited

inductive S where
  | set (i : Nat) (e : E) | setT (tg : Tgt) (e : E) | par (is : List Nat) (es : List E) | aug (i : Nat) (o : Operator) (e : E)
  | sidx (i : Nat) (k e : E) | app (i : Nat) (e : E) | ext (i : Nat) (e : E)
  | ex (e : E) | ret (e : E) | retN
  | ite (c : E) (a b : List S) | whl (c : E) (a : List S) | for_ (tg : Tgt) (it : E) (a : List S)
  | brk | cnt | pas | nev
  deriving Inhabited

inductive SR where
  | nx (E : SE) | rt (s : Sl) (E : SE) | bk (E : SE) | ct (E : SE) | exc (C : Str) (x : D) (E : SE) | bad

def truthD : D → Option Bool
  | .non => some false
  | .bl b => some b
  | .int i => some (i != 0)
  | .str x => if x.length ≤ sizeLine then some ((x.length : Int) != 0) else none
  | .lst xs => some (!xs.isEmpty)
  | .tup xs => some (!xs.isEmpty)
  | .scr ns => some (!ns.isEmpty)
  | .dk ks _ => some (!ks.isEmpty)
  | _ => none
def M.opt {α} : Option α → M α
  | some a => M.pure a
  | none => M.bad
def mtS (m : Mt) (d : D) (ds : List D) : Option Sl := match m, d, ds with
  | .upper, .str x, [] => if x.length ≤ 5592405 then some (.val (.str (Txt.upper x))) else none
  | .lcount, .lst xs, [.int i] => (intsOf xs).map fun ns => vI (ns.count i)
  | _, _, _ => none
def mtP (m : Mt) : List D → Option Sl
  | d :: r => mtS m d r
  | _ => none
/-- a value for a display: frozen -/
def frozen : Sl → Sl
  | .own d => .val d
  | s => s
def popS (i : Nat) : M Sl := fun E => match E[i]? with
  | some (.own d) => .ok (.own d) (E.set i .no)
  | some (.val d) => .ok (.val d) E
  | _ => .bad
def fzS (i : Nat) : M Sl := fun E => match E[i]? with
  | some (.own d) => .ok (.val d) (E.set i (.val d))
  | some (.val d) => .ok (.val d) E
  | _ => .bad
def varS (i : Nat) : M Sl := fun E => match E[i]? with
  | some (.val d) => .ok (.val d) E
  | _ => .bad
mutual
def bindT : Tgt → D → SE → Option SE
  | .nm i, d, E => if i < E.length then some (E.set i (.val d)) else none
  | .tup ts, .tup ds, E => bindTs ts ds E
  | .tup _, _, _ => none
def bindTs : List Tgt → List D → SE → Option SE
  | [], [], E => some E
  | t :: ts, d :: ds, E => (bindT t d E).bind (bindTs ts ds)
  | _, _, _ => none
end
/-- the items of what is walked -/
def itemsD : D → Option (List D)
  | .lst xs => some xs
  | .tup xs => some xs
  | _ => none
def rngD (lo hi : Int) : List D := (List.range (hi - lo).toNat).map fun (i : Nat) => .int (lo + i)
def enumD (xs : List D) : List D := xs.zipIdx.map fun p => .tup [.int p.2, p.1]
def zipD (xs ys : List D) : List D := (xs.zip ys).map fun p => .tup [p.1, p.2]
/-- pairs of small ints, sorted, each once -/
def prOf : D → Option (Int × Int)
  | .tup [.int a, .int b] => if (0 ≤ a ∧ a < 2 ^ 31) ∧ (0 ≤ b ∧ b < 2 ^ 31) then some (a, b) else none
  | _ => none
def prsOf : List D → Option (List (Int × Int))
  | [] => some []
  | d :: r => match prOf d, prsOf r with
    | some p, some ps => some (p :: ps)
    | _, _ => none
def ltP (p q : Int × Int) : Bool := decide (p.1 < q.1) || (decide (p.1 = q.1) && decide (p.2 < q.2))
def insP (p : Int × Int) : List (Int × Int) → List (Int × Int)
  | [] => [p]
  | q :: r => if ltP p q then p :: q :: r else if p = q then q :: r else q :: insP p r
def sortP : List (Int × Int) → List (Int × Int)
  | [] => []
  | p :: r => insP p (sortP r)
def prD (p : Int × Int) : D := .tup [.int p.1, .int p.2]
def ssetS : D → Option Sl
  | .lst xs => match prsOf xs with
    | some ps => if ps.length < 64 then some (.own (.lst ((sortP ps).map prD))) else none
    | none => none
  | _ => none
def lrS (lo hi : Int) : Option Sl := if (-(2 ^ 62) ≤ lo ∧ lo < 2 ^ 62) ∧ (-(2 ^ 62) ≤ hi ∧ hi < 2 ^ 62) ∧ (hi - lo).toNat ≤ 2 ^ 24 then some (.own (.lst (rngD lo hi))) else none
def lr1S : D → Option Sl
  | .int n => lrS 0 n
  | _ => none
def lr2S : D → D → Option Sl
  | .int m, .int n => lrS m n
  | _, _ => none
def negS : D → Option Sl
  | .int i => some (vI (-i))
  | _ => none
def revS : D → Option Sl
  | .lst xs => some (.own (.lst xs.reverse))
  | .tup xs => some (.val (.tup xs.reverse))
  | _ => none
def isNonE : E → Bool
  | .non => true
  | _ => false
def partD : Bool → D → Option (Option Int)
  | true, .non => some none
  | false, .int i => some (some i)
  | _, _ => none
def partO (b : Bool) (o : Opd) : Opd := .ex (M.bind (evA [o]) fun ds => M.opt (match ds with | [d] => (partD b d).map fun _ => .val d | _ => none))
def slP (bl bh : Bool) (ds : List D) : Option Sl := match ds with
  | [x, l, u] => match partD bl l, partD bh u with
    | some lo, some hi => slS x lo hi
    | _, _ => none
  | _ => none
/-- the slots' values gone -/
def wipeE (E : SE) : List Nat → SE
  | [] => E
  | i :: r => (wipeE E r).set i .no
/-- .. put back from E0 -/
def backE (E0 E : SE) : List Nat → SE
  | [] => E
  | i :: r => (backE E0 E r).set i (E0.getD i .no)
def notOwn (E : SE) (own : List Nat) : Bool := own.all fun i => match E[i]? with
  | some (.own _) => false
  | some _ => true
  | none => false
/-- a comprehension's turns: the slots own are of its own -/
def lcI (bt : D → SE → Option SE) (tests : List (M Bool)) (elt : M Sl) (own : List Nat) : List D → List D → M (List D)
  | [], acc => M.pure acc
  | d :: r, acc => fun E => match bt d (wipeE E own) with
    | none => .bad
    | some E1 => (allT tests E1).bind fun b => fun E2 =>
      if b then (elt E2).bind fun s => fun E3 => if acc.length < sizeLine then lcI bt tests elt own r (acc ++ [s.d]) (wipeE E3 own) else .bad
      else lcI bt tests elt own r acc (wipeE E2 own)
where
  allT : List (M Bool) → M Bool
    | [] => M.pure true
    | t :: r => M.bind t fun b => if b then allT r else M.pure false
/-- values of arguments; a held slot's object is handed out -/
inductive Arg where
  | slot (i : Nat)
  | ex (f : M Sl)
def evC : List Arg → M (List Sl)
  | [] => M.pure []
  | .slot i :: r => do let _ ← slotAt i; let ss ← evC r; let s ← popS i; M.pure (s :: ss)
  | .ex f :: r => do let s ← f; let ss ← evC r; M.pure (s :: ss)
/-- behind a call: the slots that were handed out are put back -/
def putBack : List Arg → List Sl → List Sl → SE → SE
  | .slot i :: r, .own _ :: ss, p :: ps, E => (putBack r ss ps E).set i p
  | _ :: r, _ :: ss, _ :: ps, E => putBack r ss ps E
  | _, _, _, E => E
def callS (F : M Sl) (as : List Arg) : M Sl := fun E => match evC as E with
  | .ok ss E1 => match F ss with
    | .ok s ps => .ok s (putBack as ss ps E1)
    | .exc C x ps => .exc C x (putBack as ss ps E1)
    | .bad => .bad
  | .exc C x E1 => .exc C x E1
  | .bad => .bad

section
variable (Φ : Nat → M Sl) (C : Nat → D)
mutual
def ev : E → M Sl
  | .non => M.pure (.val .non)
  | .bl b => M.pure (vB b)
  | .int i => M.pure (vI i)
  | .str x => M.pure (.val (.str x))
  | .tyc n => M.pure (.val (.ty n))
  | .cst c => M.pure (.val (C c))
  | .var i => varS i
  | .fz i => fzS i
  | .mv i => popS i
  | .bop o a b => M.bind (evA [opd a, opd b]) fun ds => M.opt (match ds with | [x, y] => bopS o x y | _ => none)
  | .cmp o a b => M.bind (evA [opd a, opd b]) fun ds => M.opt (match ds with | [x, y] => cmpS o x y | _ => none)
  | .neg a => M.bind (evA [opd a]) fun ds => M.opt (match ds with | [x] => negS x | _ => none)
  | .andV a b => M.bind (ev a) fun s => match s with
    | .val (.bl true) => ev b
    | .val (.bl false) => M.pure (vB false)
    | _ => M.bad
  | .orV a b => M.bind (ev a) fun s => match s with
    | .val (.bl false) => ev b
    | .val (.bl true) => M.pure (vB true)
    | _ => M.bad
  | .notV a => M.bind (ev a) fun s => match s with
    | .val (.bl b) => M.pure (vB (!b))
    | _ => M.bad
  | .ite c a b => M.bind (evT c) fun k => if k then ev a else ev b
  | .chn o o' a b c => M.bind (evA [opd a, opd b]) fun ds => match ds with
    | [.int x, .int y] => match cmpS o (.int x) (.int y) with
      | some (.val (.bl true)) => M.bind (evA [opd c]) fun es => M.opt (match es with | [.int z] => cmpS o' (.int y) (.int z) | _ => none)
      | some (.val (.bl false)) => M.pure (vB false)
      | _ => M.bad
    | _ => M.bad
  | .bi b as => M.bind (evA (opds as)) fun ds => M.opt (biS b ds)
  | .ty t as => M.bind (evA (opds as)) fun ds => M.opt (tyS t ds)
  | .mth m a as => M.bind (evA (opd a :: opds as)) fun ds => M.opt (mtP m ds)
  | .idx a b => M.bind (evA [opd a, opd b]) fun ds => M.opt (match ds with | [x, y] => ixS x y | _ => none)
  | .slc a lo hi => M.bind (evA [opd a, partO (isNonE lo) (opd lo), partO (isNonE hi) (opd hi)]) fun ds => M.opt (slP (isNonE lo) (isNonE hi) ds)
  | .rev a => M.bind (evA [opd a]) fun ds => M.opt (match ds with | [x] => revS x | _ => none)
  | .tup as => M.bind (evD as) fun ds => if ds.length ≤ sizeLine then M.pure (.val (.tup ds)) else M.bad
  | .lst as => M.bind (evD as) fun ds => if ds.length ≤ sizeLine then M.pure (.own (.lst ds)) else M.bad
  | .star _ => M.bad
  | .lc elt tg it ifs own => M.bind (evI it) fun ds => fun E => if notOwn E own then
      (match lcI (bindT tg) (evTs ifs) (ev elt) own ds [] (wipeE E own) with
      | .ok acc E1 => .ok (.own (.lst acc)) (backE E E1 own)
      | _ => .bad) else .bad
  | .call f as => callS (Φ f) (args as)
  | .dict0 => M.pure (.own (.dk [] []))
  | .dict1 k n => M.pure (.own (.dk [.inr k] [.int n]))
  | .sset a => M.bind (evA [opd a]) fun ds => M.opt (match ds with | [x] => ssetS x | _ => none)
  | .lr1 a => M.bind (evA [opd a]) fun ds => M.opt (match ds with | [x] => lr1S x | _ => none)
  | .lr2 a b => M.bind (evA [opd a, opd b]) fun ds => M.opt (match ds with | [x, y] => lr2S x y | _ => none)
  | .rng1 _ => M.bad
  | .rng2 _ _ => M.bad
  | .enum _ => M.bad
  | .zip _ _ => M.bad
def opd : E → Opd
  | .var i => .slot i
  | e => .ex (ev e)
def opds : List E → List Opd
  | [] => []
  | e :: r => opd e :: opds r
def args : List E → List Arg
  | [] => []
  | .var i :: r => .slot i :: args r
  | e :: r => .ex (ev e) :: args r
/-- items of a display, frozen -/
def evD : List E → M (List D)
  | [] => M.pure []
  | .star a :: r => M.bind (ev a) fun s => match s with
    | .val (.tup xs) => M.bind (evD r) fun ds => M.pure (xs ++ ds)
    | .val (.lst xs) => M.bind (evD r) fun ds => M.pure (xs ++ ds)
    | .own (.lst xs) => M.bind (evD r) fun ds => M.pure (xs ++ ds)
    | _ => M.bad
  | e :: r => M.bind (ev e) fun s => M.bind (evD r) fun ds => M.pure (s.d :: ds)
def evT : E → M Bool
  | .notV a => M.bind (evT a) fun b => M.pure (!b)
  | .andV a b => M.bind (evT a) fun k => if k then evT b else M.pure false
  | .orV a b => M.bind (evT a) fun k => if k then M.pure true else evT b
  | .ite c a b => M.bind (evT c) fun k => if k then evT a else evT b
  | e => M.bind (evA [opd e]) fun ds => M.opt (match ds with | [d] => truthD d | _ => none)
def evTs : List E → List (M Bool)
  | [] => []
  | e :: r => evT e :: evTs r
/-- what is walked -/
def evI : E → M (List D)
  | .rng1 a => M.bind (ev a) fun s => match s with
    | .val (.int n) => if -(2 ^ 62) ≤ n ∧ n < 2 ^ 62 then M.pure (rngD 0 n) else M.bad
    | _ => M.bad
  | .rng2 a b => M.bind (evA [opd a, opd b]) fun ds => match ds with
    | [.int m, .int n] => if (-(2 ^ 62) ≤ m ∧ m < 2 ^ 62) ∧ (-(2 ^ 62) ≤ n ∧ n < 2 ^ 62) then M.pure (rngD m n) else M.bad
    | _ => M.bad
  | .enum a => M.bind (evC [.ex (ev a)]) fun ss => M.opt (match ss with
    | [s] => (itemsD s.d).map enumD
    | _ => none)
  | .zip a b => M.bind (evC [.ex (ev a), .ex (ev b)]) fun ss => M.opt (match ss with
    | [s, t] => match s.d, t.d with
      | .lst xs, .lst ys => some (zipD xs ys)
      | .tup xs, .tup ys => some (zipD xs ys)
      | _, _ => none
    | _ => none)
  | e => M.bind (ev e) fun s => M.opt (itemsD s.d)
end

def SR.then (r : SR) (f : SE → SR) : SR := match r with
  | .nx E => f E
  | r => r
/-- a value, then a statement's end -/
def SR.of {α : Type} (r : R α) (f : α → SE → SR) : SR := match r with
  | .ok a E => f a E
  | .exc C x E => .exc C x E
  | .bad => .bad
def forI (bt : D → SE → Option SE) (b : SE → SR) : List D → SE → SR
  | [], E => .nx E
  | d :: r, E => match bt d E with
    | none => .bad
    | some E1 => match b E1 with
      | .nx E2 => forI bt b r E2
      | .ct E2 => forI bt b r E2
      | .bk E2 => .nx E2
      | .rt s E2 => .rt s E2
      | .exc C x E2 => .exc C x E2
      | .bad => .bad
def whlI (c : M Bool) (b : SE → SR) : Nat → SE → SR
  | 0, _ => .bad
  | n + 1, E => match c E with
    | .ok true E1 => (match b E1 with
      | .nx E2 => whlI c b n E2
      | .ct E2 => whlI c b n E2
      | .bk E2 => .nx E2
      | .rt s E2 => .rt s E2
      | .exc C x E2 => .exc C x E2
      | .bad => .bad)
    | .ok false E1 => .nx E1
    | .exc C x E1 => .exc C x E1
    | .bad => .bad
def fuel : Nat := 2 ^ 64
/-- a value is stored in a slot -/
def putS (i : Nat) (s : Sl) : SE → SR := fun E => match s with
  | .no => .bad
  | s => if i < E.length then .nx (E.set i s) else .bad
def putAll : List Nat → List Sl → SE → SR
  | [], [], E => .nx E
  | i :: r, s :: ss, E => (putS i s E).then (putAll r ss)
  | _, _, _ => .bad
def isOwnL (E : SE) (i : Nat) : Bool := match E[i]? with
  | some (.own (.lst _)) => true
  | _ => false
def appD (s : Sl) : D → Option D
  | .lst xs => if xs.length < sizeLine then some (.lst (xs ++ [s.d])) else none
  | _ => none
def extD (s : Sl) : D → Option D
  | .lst xs => (match s.d with
    | .lst ys => if xs.length + ys.length ≤ sizeLine then some (.lst (xs ++ ys)) else none
    | _ => none)
  | _ => none
/-- d[k] as a key -/
def keyD : D → Option Key
  | .int i => some (.inl i)
  | .str x => some (.inr x)
  | _ => none
def setD (d k v : D) : Option D := match d, k with
  | .lst xs, .int i => (ixN xs.length i).map fun j => .lst (xs.set j v)
  | _, _ => none
/-- a held slot's object is changed -/
def updS (i : Nat) (f : D → Option D) : SE → SR := fun E => match E[i]? with
  | some (.own d) => match f d with
    | some d' => .nx (E.set i (.own d'))
    | none => .bad
  | _ => .bad
def augO (o : Operator) (a b : D) : Option Sl := match o, a, b with
  | .Add, .int i, .int j => some (vI (i + j))
  | .Sub, .int i, .int j => some (vI (i - j))
  | _, _, _ => none
mutual
def ex : S → SE → SR
  | .set i e => fun E => .of (ev Φ C e E) fun s => putS i s
  | .setT tg e => fun E => .of (ev Φ C e E) fun s E1 => match s with
    | .val (.tup ds) => (match bindT tg (.tup ds) E1 with
      | some E2 => .nx E2
      | none => .bad)
    | _ => .bad
  | .par is es => fun E => .of (evC (args Φ C es) E) fun ss => putAll is ss
  | .aug i o e => fun E => .of (evA [.slot i, .ex (ev Φ C e)] E) fun ds E1 => match ds with
    | [a, b] => (match augO o a b with
      | some s => putS i s E1
      | none => .bad)
    | _ => .bad
  | .sidx i k e => fun E => if isOwnL E i then .of (evC [.ex (ev Φ C e), .ex (ev Φ C k)] E) fun ss => (match ss with
    | [v, .val k] => updS i fun d => setD d k v.d
    | _ => fun _ => .bad) else .bad
  | .app i e => fun E => if isOwnL E i then .of (ev Φ C e E) fun s => updS i (appD s) else .bad
  | .ext i e => fun E => if isOwnL E i then .of (ev Φ C e E) fun s => updS i (extD s) else .bad
  | .ex e => fun E => .of (ev Φ C e E) fun _ => .nx
  | .ret e => fun E => .of (ev Φ C e E) .rt
  | .retN => .rt (.val .non)
  | .ite c a b => fun E => .of (evT Φ C c E) fun k => if k then exs a else exs b
  | .whl c a => whlI (evT Φ C c) (exs a) fuel
  | .for_ tg it a => fun E => .of (evI Φ C it E) fun ds => forI (bindT tg) (exs a) ds
  | .brk => .bk
  | .cnt => .ct
  | .pas => .nx
  | .nev => fun _ => .bad
def exs : List S → SE → SR
  | [] => .nx
  | s :: r => fun E => (ex s E).then (exs r)
end
/-- a def of n slots: its parameters' values, then what it comes to; the slots in rb are stored to -/
def fnS (n : Nat) (rb : List Nat) (body : List S) : M Sl := fun ss =>
  match exs Φ C body (ss ++ List.replicate (n - ss.length) .no) with
  | .rt s E => .ok s ((wipeE E rb).take ss.length)
  | .nx E => .ok (.val .non) ((wipeE E rb).take ss.length)
  | .exc c x E => .exc c x ((wipeE E rb).take ss.length)
  | _ => .bad
end
end Lw
end

section
set_option Elab.async false
set_option linter.all false
set_option maxRecDepth 100000
set_option maxHeartbeats 4000000
/-! L7: a def's promise by its IR; calls -/
namespace Lw
open PySem L2

/-- a def's promise: what F comes to -/
def spF (K : PySem.W.Frag) (mg : Str → Option Value) (np : Nat) (F : M Sl) : Sp := fun vs H Q Ex => vs.length = np ∧ TEof K mg (fun c d _ H' => Ex c d H') F (vs.map some) H Q
/-- the def at f keeps the promise (by the layer's CX: it may let an exception out), where no built-in's repr runs around -/
structure FOk (P : Program) (w : World) (K : PySem.W.Frag) (mg : Str → Option Value) (base : Heap) (k : Nat) (f : Addr) (fd : FuncData) (ps : List Str) (sp : Sp) : Prop where
  len : ∀ vs H Q E, sp vs H Q E → vs.length = ps.length
  run : ∀ (A : Around) (outer : List PySem.Env) (s : Shared) (H : Hp) (args : Args) (us : List Value) (vs : List V) (Q : VK) (E : XK), Room k A → A.guards = some [] → Env0 P w K mg base A outer s H → BindsTo s fd args (ps.zip us) → Vals vs us → sp vs H Q E →
    codeAny (model P w) A (.call (.ref f) args) (CR (L2.CX P w) outer P w H s Q E) s
theorem FOk.mono {P w K mg base j k f fd ps sp} (F : FOk P w K mg base j f fd ps sp) (h : j ≤ k) : FOk P w K mg base k f fd ps sp :=
  ⟨F.len, fun A outer s H args us vs Q E hr => F.run A outer s H args us vs Q E (hr.mono h)⟩

/-- what is known of a def that is called: its name, how many parameters -/
structure FnE where
  name : Str
  np : Nat
  kws : List (Nat × List Str) := []
/-- .. as it stands -/
structure FnH (P : Program) (w : World) (K : PySem.W.Frag) (mg : Str → Option Value) (base : Heap) (k : Nat) (e : FnE) (F : M Sl) : Prop where
  ex : ∃ f fd ps, mg e.name = some (.ref f) ∧ PySem.W.keepIn K (.ref f) = true ∧ Binds K fd ps [] ∧ (∀ q ∈ e.kws, q.1 + q.2.length = e.np ∧ ∀ (s : Shared) (us ws : List Value), K.In s.heap → us.length = q.1 → ws.length = q.2.length → BindsTo s fd ⟨us, q.2.zip ws⟩ (ps.zip (us ++ ws))) ∧ ps.length = e.np ∧ FOk P w K mg base k f fd ps (spF K mg e.np F)

section
variable {X : Cx} {k : Nat} {f : Addr} {fd : FuncData} {ps : List Str} {sp : Sp} {E : XK}
/-- what is raised within is wished for at the slots σ -/
def PassesS (X : Cx) (σ : St) (E : XK) : Prop := ∀ (pins : List (Addr × Obj)) (H : Hp) (s : Shared) (e : Value) (s' : Shared), Inv X pins σ H s → L2.CX X.prog X.w X.stack H s E e s' → X.xe e s'
theorem passesS {W : WX} (tk : Takes X W) (σ : St) : PassesS X σ (fun c d H => W c d σ H) := fun pins H s e s' I c => tk e s' (XE.of_call I (fun _ _ _ z => z) c)
theorem run_fk {pins : List (Addr × Obj)} {σ : St} {H : Hp} {s : Shared} {Q : VK} {us ws : List Value} {vs : List V} {ks : List Str} (F : FOk X.prog X.w X.K X.mg X.base k f fd ps sp) (hr : Room k X.A) (hg : X.A.guards = some []) (hx : PassesS X σ E)
    (I : Inv X pins σ H s) (hbt : BindsTo s fd ⟨us, ks.zip ws⟩ (ps.zip (us ++ ws))) (r : Vals vs (us ++ ws)) (h : sp vs H Q E) : wpAny (model X.prog X.w) X.A (call (.ref f) us (ks.zip ws)) (EP X pins σ Q) X.xe s := by
  refine wpAny_call (codeAny_mono (F.run X.A X.stack s H ⟨us, ks.zip ws⟩ (us ++ ws) vs Q E hr hg I.env0 hbt r h) fun r s' hq => ?_)
  match r, hq with
  | .error e, hq => exact hx pins H s e s' I hq
  | .ok (.ret u), hq => exact I.after hq
  | .ok .next, hq => exact False.elim hq
  | .ok .brk, hq => exact False.elim hq
  | .ok .cont, hq => exact False.elim hq
theorem run_f {pins : List (Addr × Obj)} {σ : St} {H : Hp} {s : Shared} {Q : VK} {us : List Value} {vs : List V} (F : FOk X.prog X.w X.K X.mg X.base k f fd ps sp) (hr : Room k X.A) (hg : X.A.guards = some []) (hb : Binds X.K fd ps []) (hx : PassesS X σ E)
    (I : Inv X pins σ H s) (r : Vals vs us) (h : sp vs H Q E) : wpAny (model X.prog X.w) X.A (call (.ref f) us) (EP X pins σ Q) X.xe s := by
  have hl : us.length = ps.length := by rw [← r.length]; exact F.len _ _ _ _ h
  have hbt : BindsTo s fd ⟨us, []⟩ (ps.zip us) := by
    have := hb s us I.kIn (by simpa using hl)
    simpa using this
  refine wpAny_call (codeAny_mono (F.run X.A X.stack s H ⟨us, []⟩ us vs Q E hr hg I.env0 hbt r h) fun r s' hq => ?_)
  cases r with
  | error e => exact hx pins H s e s' I hq
  | ok fl =>
    cases fl with
    | ret u => exact I.after hq
    | next => exact False.elim hq
    | brk => exact False.elim hq
    | cont => exact False.elim hq
end
section
variable {K : PySem.W.Frag} {mg : Str → Option Value} {W : WX} {P P' P1 : Addr → Prop} {H H' H1 H0 : Hp} {σ σ' σ1 : St} {E E' E1 E0 : SE}
/-! ### slots changed -/
theorem getE_set {E : SE} {i j : Nat} {s : Sl} : (E.set i s)[j]? = if i = j then (if j < E.length then some s else none) else E[j]? := by
  by_cases h : i = j
  · subst h
    rw [if_pos rfl]
    by_cases hl : i < E.length
    · rw [if_pos hl, List.getElem?_set_self hl]
    · rw [if_neg hl, List.getElem?_eq_none (by simpa using hl)]
  · rw [if_neg h, List.getElem?_set_ne h]
/-- a slot's value is forgotten; its object is protected -/
theorem Good.out (g : Good K P H σ E) (i : Nat) : Good K (fun a => P a ∨ (∃ d, E[i]? = some (.own d) ∧ σ[i]? = some (some (.ref a)))) H σ (E.set i .no) := by
  have sub : ∀ a, OwnS σ (E.set i .no) a → OwnS σ E a ∧ ∀ d, E[i]? = some (.own d) → σ[i]? ≠ some (some (.ref a)) := fun a ⟨j, d, e1, e2⟩ => by
    rw [getE_set] at e1
    split at e1
    · split at e1 <;> cases e1
    · rename_i hij
      exact ⟨⟨j, d, e1, e2⟩, fun d' e3 e4 => hij (g.inj i j d' d a e3 e1 e4 e2)⟩
  have fz : ∀ a, Fz P σ E a → Fz (fun a => P a ∨ (∃ d, E[i]? = some (.own d) ∧ σ[i]? = some (some (.ref a)))) σ (E.set i .no) a := fun a h =>
    ⟨fun q => q.elim h.1 fun ⟨d, e1, e2⟩ => h.2 ⟨i, d, e1, e2⟩, fun q => h.2 (sub a q).1⟩
  refine ⟨by rw [List.length_set]; exact g.len, fun a q => q.elim (g.dom a) fun ⟨d, e1, e2⟩ => let ⟨o, e, _⟩ := g.ownD ⟨i, d, e1, e2⟩; ⟨o, e⟩, fun j d e => ?_, fun j d e => ?_, fun a q q' => ?_, fun j l d d' a e1 e2 e3 e4 => ?_⟩
  · rw [getE_set] at e
    split at e
    · split at e <;> cases e
    · obtain ⟨v, e1, r⟩ := g.val j d e
      exact ⟨v, e1, r.mono fz⟩
  · rw [getE_set] at e
    split at e
    · split at e <;> cases e
    · obtain ⟨v, e1, r⟩ := g.own j d e
      exact ⟨v, e1, r.monoD fun b _ _ z => fz b z⟩
  · exact q'.elim (g.dis a (sub a q).1) fun ⟨d, e1, e2⟩ => (sub a q).2 d e1 e2
  · rw [getE_set] at e1 e2
    split at e1
    · split at e1 <;> cases e1
    · split at e2
      · split at e2 <;> cases e2
      · exact g.inj j l d d' a e1 e2 e3 e4
/-- a slot takes a value (of σ' there) -/
theorem Good.put (g : Good K (Pl P v s) H σ E) (r : ResR K (Pl P v s) σ E H v s) (hn : ∀ a, HeldBy v s a → ¬ P a) {i : Nat} (hi : i < E.length) : Good K P H (σ.set i (some v)) (E.set i s) := by
  have hiσ : i < σ.length := by rw [g.len]; exact hi
  have gσ : ∀ (j : Nat), (σ.set i (some v))[j]? = if i = j then some (some v) else σ[j]? := fun j => by
    by_cases h : i = j
    · subst h; rw [if_pos rfl, List.getElem?_set_self hiσ]
    · rw [if_neg h, List.getElem?_set_ne h]
  have gE : ∀ (j : Nat), (E.set i s)[j]? = if i = j then some s else E[j]? := fun j => by
    rw [getE_set]
    by_cases h : i = j
    · subst h; rw [if_pos rfl, if_pos rfl, if_pos hi]
    · rw [if_neg h, if_neg h]
  have sub : ∀ a, OwnS (σ.set i (some v)) (E.set i s) a → OwnS σ E a ∨ HeldBy v s a := fun a ⟨j, d, e1, e2⟩ => by
    rw [gE] at e1; rw [gσ] at e2
    by_cases h : i = j
    · rw [if_pos h] at e1 e2
      cases e1; cases e2
      exact .inr rfl
    · rw [if_neg h] at e1 e2
      exact .inl ⟨j, d, e1, e2⟩
  have fz : ∀ a, Fz (Pl P v s) σ E a → Fz P (σ.set i (some v)) (E.set i s) a := fun a h => ⟨fun q => h.1 (.inl q), fun q => (sub a q).elim h.2 fun z => h.1 (.inr z)⟩
  refine ⟨by simp [g.len], fun a q => g.dom a (.inl q), fun j d e => ?_, fun j d e => ?_, fun a q q' => ?_, fun j l d d' a e1 e2 e3 e4 => ?_⟩
  · rw [gE] at e; rw [gσ]
    by_cases h : i = j
    · rw [if_pos h] at e ⊢
      cases e
      exact ⟨v, rfl, RepB.mono r fz⟩
    · rw [if_neg h] at e ⊢
      obtain ⟨w, e1, r⟩ := g.val j d e
      exact ⟨w, e1, r.mono fz⟩
  · rw [gE] at e; rw [gσ]
    by_cases h : i = j
    · rw [if_pos h] at e ⊢
      cases e
      obtain ⟨a, rfl, r⟩ := r
      exact ⟨a, rfl, r.monoD fun b _ _ z => fz b z⟩
    · rw [if_neg h] at e ⊢
      obtain ⟨w, e1, r⟩ := g.own j d e
      exact ⟨w, e1, r.monoD fun b _ _ z => fz b z⟩
  · exact (sub a q).elim (fun z => g.dis a z (.inl q')) fun z => hn a z q'
  · rw [gE] at e1 e2; rw [gσ] at e3 e4
    by_cases h : i = j
    · by_cases h' : i = l
      · exact h.symm.trans h'
      · rw [if_pos h] at e1 e3
        rw [if_neg h'] at e2 e4
        cases e1; cases e3
        exact absurd (Or.inr rfl) (g.dis a ⟨l, d', e2, e4⟩)
    · by_cases h' : i = l
      · rw [if_neg h] at e1 e3
        rw [if_pos h'] at e2 e4
        cases e2; cases e4
        exact absurd (Or.inr rfl) (g.dis a ⟨j, d, e1, e3⟩)
      · rw [if_neg h] at e1 e3
        rw [if_neg h'] at e2 e4
        exact g.inj j l d d' a e1 e2 e3 e4
end
end Lw
end

section
set_option Elab.async false
set_option linter.all false
set_option maxRecDepth 100000
set_option maxHeartbeats 4000000
/-! L8: readings of operations -/
namespace Lw
open PySem L2
theorem PE.imp {X : Cx} {e : Expr} {t t' : TE} (h : PE X e t) (i : ∀ σ H Q, t' σ H Q → t σ H Q) : PE X e t' := ⟨fun pins s σ H Q I q => h.run pins s σ H Q I (i σ H Q q)⟩
theorem PT.imp {X : Cx} {e : Expr} {t t' : TT} (h : PT X e t) (i : ∀ σ H Q, t' σ H Q → t σ H Q) : PT X e t' := ⟨fun pins s σ H Q I q => h.run pins s σ H Q I (i σ H Q q)⟩
theorem PS.imp {X : Cx} {e : Stmt} {t t' : TS} (h : PS X e t) (i : ∀ D σ H, t' D σ H → t D σ H) : PS X e t' := ⟨fun pins s σ H D I q => h.run pins s σ H D I (i D σ H q)⟩
section
variable {K : PySem.W.Frag} {mg : Str → Option Value} {W : WX} {P P' P1 : Addr → Prop} {H H' H1 H0 : Hp} {σ σ' σ1 : St} {E E' E1 E0 : SE}
theorem ExcR.less {T T' : Addr → Prop} {C : Str} {x : D} {cls : Value} {d : Option Addr} (h : ExcR K mg T H C x cls d) (m : ∀ a, T a → T' a) : ExcR K mg T' H C x cls d := by
  obtain ⟨a, b, w, q1, q2, q3, q4, q5⟩ := h
  exact ⟨a, b, w, q1, q2, q3, q4, q5.mono m⟩
/-- a result of an operation, as an expression's -/
theorem post_of {s : Sl} {v : V} {Q : VK} (g : Good K P H σ E) (g1 : Good K P1 H1 σ E1) (l1 : Lnk P σ E H P1 σ E1 H1) (hp : ∀ a, P a → P1 a) (ext : ∀ a o, H1 a = some o → H' a = some o) (r : PRes K H1 H' (Fz P1 σ E1) v s)
    (h : PostE K mg W P σ E H Q (.ok s E1)) : Q v H' := by
  cases s with
  | no => exact r.elim
  | val d =>
    refine h v H' ((g1.ext ext).less fun a z => z.elim (hp a) False.elim) ((l1.trans (Lnk.ext ext)).less fun a z => z.elim (hp a) False.elim) ?_ fun a z => z.elim
    exact RepB.mono r fun a z => ⟨fun q => z.1 (q.elim (hp a) False.elim), z.2⟩
  | own d =>
    obtain ⟨a, rfl, ha, hr⟩ := r
    have hh : ∀ b, HeldBy (.ref a) (.own d) b → b = a := fun b z => by
      have z' : V.ref a = .ref b := z
      cases z'; rfl
    obtain ⟨S, hr1, hr2⟩ := id hr
    obtain ⟨o, eo, _⟩ := hr1.mu
    have g2 := g1.fresh ha ext eo
    have np : ∀ b, HeldBy (.ref a) (.own d) b → ¬ P b := fun b z p => by
      rw [hh b z] at p
      obtain ⟨o, e⟩ := g1.dom a (hp a p)
      rw [ha] at e; cases e
    refine h _ H' (g2.less fun b z => z.elim (fun z => .inl (hp b z)) fun z => .inr (hh b z)) ⟨fun b o e n => ext _ _ (l1.keep b o e n), l1.new, fun b z => z.elim .inl fun z => .inr (by rw [hh b z]; exact l1.none ha)⟩ ⟨a, rfl, ?_⟩ np
    exact hr.monoD fun b _ _ z => ⟨fun q => q.elim (fun q => z.1.1 (hp b q)) fun q => z.2 (hh b q), z.1.2⟩
theorem bind_bad {α β} {f : α → M β} : R.bind (.bad : R α) f = .bad := rfl
theorem bind_exc {α β} {f : α → M β} {C : Str} {x : D} {E : SE} : R.bind (.exc C x E : R α) f = .exc C x E := rfl
theorem bind_ok {α β} {f : α → M β} {a : α} {E : SE} : R.bind (.ok a E) f = f a E := rfl
theorem mbind {α β} {m : M α} {f : α → M β} {E : SE} : M.bind m f E = (m E).bind f := rfl
/-- an operation on operands -/
theorem prim_sound {ops : List Opd} {p : List D → Option Sl} {r : VK → List V → Hp → Prop} (hr : ∀ vs H Q T ds, TopsB K H T vs ds → PostP K H T Q (p ds) → r Q vs H) :
    ∀ σ H Q, TEof K mg W (M.bind (evA ops) fun ds => M.opt (p ds)) σ H Q → tOpds K mg W ops σ H (r Q) := by
  intro σ H Q ⟨P, E, g, h⟩
  refine argsL ops σ H _ ⟨P, E, g, ?_⟩
  rw [mbind] at h
  cases e : evA ops E with
  | bad => rw [e] at h; exact h
  | exc C x E1 => rw [e] at h; exact h
  | ok ds E1 =>
    rw [e, bind_ok] at h
    intro vs H1 P1 hp g1 l1 ts
    refine hr vs H1 Q (Fz P1 σ E1) ds ts ?_
    cases ep : p ds with
    | none => rw [ep] at h; exact h
    | some s =>
      rw [ep] at h
      intro v H' ext pr
      exact post_of g g1 l1 hp ext pr h
end
end Lw
end

section
set_option Elab.async false
set_option linter.all false
set_option maxRecDepth 100000
set_option maxHeartbeats 4000000
/-! L9: displays, arguments, calls -/
namespace Lw
open PySem L2
section
variable {K : PySem.W.Frag} {mg : Str → Option Value} {W : WX} {P P' P1 : Addr → Prop} {H H' H1 H0 : Hp} {σ σ' σ1 : St} {E E' E1 E0 : SE} {Φ : Nat → M Sl} {C : Nat → D}
/-- a result, frozen -/
theorem ResR.frz {s : Sl} {v : V} (r : ResR K P1 σ E H v s) (g : Good K P1 H σ E) (l : Lnk P1 σ E H P1 σ E' H') (g' : Good K P1 H' σ E') (hp : ∀ a, P a → P1 a) (hn : ∀ a, HeldBy v s a → P1 a ∧ ¬ P a) : RepB K H' (Fz P σ E') v s.d := by
  cases s with
  | no => exact r.elim
  | val d => exact (RepB.lnk r g l).mono fun a z => ⟨fun q => z.1 (hp a q), z.2⟩
  | own d =>
    obtain ⟨a, rfl, r⟩ := r
    obtain ⟨h1, h2⟩ := hn a rfl
    obtain ⟨S, q1, q2⟩ := r.lnk g l fun q => g.dis a q h1
    refine ⟨_, q1.rep, fun b hb => ?_⟩
    rcases List.mem_cons.mp hb with rfl | hb
    · exact ⟨h2, fun q => g'.dis b q h1⟩
    · exact ⟨fun q => (q2 b hb).1 (hp b q), (q2 b hb).2⟩
theorem ResR.frz0 {s : Sl} {v : V} (r : ResR K (Pl P v s) σ E H v s) (g : Good K (Pl P v s) H σ E) (hn : ∀ a, HeldBy v s a → ¬ P a) : RepB K H (Fz P σ E) v s.d :=
  r.frz g Lnk.refl g (fun _ z => .inl z) fun a z => ⟨.inr z, hn a z⟩
def PostD (K : PySem.W.Frag) (mg : Str → Option Value) (W : WX) (P : Addr → Prop) (σ : St) (E : SE) (H : Hp) (Q : List V → Hp → Prop) : R (List D) → Prop
  | .ok ds E' => ∀ vs H', Good K P H' σ E' → Lnk P σ E H P σ E' H' → RepsB K H' (Fz P σ E') vs ds → Q vs H'
  | .exc C x E' => ∀ H' cls d, Good K P H' σ E' → Lnk P σ E H P σ E' H' → ExcR K mg (Fz P σ E') H' C x cls d → W cls d σ H'
  | .bad => False
def TDof (K : PySem.W.Frag) (mg : Str → Option Value) (W : WX) (f : M (List D)) : TA := fun σ H Q => ∃ P E, Good K P H σ E ∧ PostD K mg W P σ E H Q (f E)
def tDisp (K : PySem.W.Frag) (mg : Str → Option Value) (W : WX) (Φ : Nat → M Sl) (C : Nat → D) : List Lw.E → TA
  | [] => tNil
  | .star a :: r => StX.tStar K (TEof K mg W (ev Φ C a)) (tDisp K mg W Φ C r)
  | e :: r => tCons (TEof K mg W (ev Φ C e)) (tDisp K mg W Φ C r)
/-- an exception behind a first part -/
theorem exc_after {P1 : Addr → Prop} {Cn : Str} {x : D} (g : Good K P H σ E) (l1 : Lnk P σ E H P1 σ E1 H1) (hp : ∀ a, P a → P1 a)
    (h : ∀ H' cls d, Good K P H' σ E' → Lnk P σ E H P σ E' H' → ExcR K mg (Fz P σ E') H' Cn x cls d → W cls d σ H') :
    ∀ H' cls d, Good K P1 H' σ E' → Lnk P1 σ E1 H1 P1 σ E' H' → ExcR K mg (Fz P1 σ E') H' Cn x cls d → W cls d σ H' := fun H' cls d g' l x =>
  h H' cls d (g'.less hp) ((l1.trans l).less hp) (x.less fun a z => ⟨fun q => z.1 (hp a q), z.2⟩)
theorem seqOf {v : V} {s : Sl} {xs : List D} (r : RepB K H (Fz P σ E) v s.d) (e : s.d = .tup xs ∨ s.d = .lst xs) : ∃ p vs, v = .ref p ∧ (SqT K H p vs ∨ SqL K H p vs) ∧ RepsB K H (Fz P σ E) vs xs := by
  rcases e with e | e
  · rw [e] at r
    obtain ⟨a, vs, rfl, h1, h2⟩ := r.top.tup
    exact ⟨a, vs, rfl, .inl h1, h2⟩
  · rw [e] at r
    obtain ⟨a, vs, rfl, h1, h2⟩ := r.top.lst
    exact ⟨a, vs, rfl, .inr (SqL.of h1), h2⟩
theorem evD_cons (e : Lw.E) (r : List Lw.E) (h : ∀ a, e ≠ .star a) : evD Φ C (e :: r) = M.bind (ev Φ C e) fun s => M.bind (evD Φ C r) fun ds => M.pure (s.d :: ds) := by
  cases e
  case star a => exact (h a rfl).elim
  all_goals simp only [evD]
theorem tDisp_cons (e : Lw.E) (r : List Lw.E) (h : ∀ a, e ≠ .star a) : tDisp K mg W Φ C (e :: r) = tCons (TEof K mg W (ev Φ C e)) (tDisp K mg W Φ C r) := by
  cases e
  case star a => exact (h a rfl).elim
  all_goals simp only [tDisp]
theorem dispL : ∀ (as : List Lw.E) (σ : St) (H : Hp) (Q : List V → Hp → Prop), TDof K mg W (evD Φ C as) σ H Q → tDisp K mg W Φ C as σ H Q := by
  intro as
  induction as with
  | nil =>
    intro σ H Q ⟨P, E, g, h⟩
    rw [evD] at h
    rw [tDisp]
    exact h [] H g Lnk.refl .nil
  | cons e r ih =>
    intro σ H Q ⟨P, E, g, h⟩
    by_cases hs : ∃ a, e = .star a
    · obtain ⟨a, rfl⟩ := hs
      rw [evD, mbind] at h
      rw [tDisp]
      refine ⟨P, E, g, ?_⟩
      cases e1 : ev Φ C a E with
      | bad => rw [e1] at h; exact h
      | exc Cn x E1 => rw [e1] at h; exact h
      | ok s E1 =>
        rw [e1, bind_ok] at h
        intro v H1 g1 l1 r1 n1
        have go : ∀ xs, (s.d = .tup xs ∨ s.d = .lst xs) → PostD K mg W P σ E H Q (M.bind (evD Φ C r) (fun ds => M.pure (xs ++ ds)) E1) →
            ∃ p vs, v = .ref p ∧ (SqT K H1 p vs ∨ SqL K H1 p vs) ∧ tDisp K mg W Φ C r σ H1 fun ys H2 => Q (vs ++ ys) H2 := by
          intro xs hd h
          obtain ⟨p, vs, rfl, h1, h2⟩ := seqOf (r1.frz0 g1 n1) hd
          refine ⟨p, vs, rfl, h1, ih σ H1 _ ⟨P, E1, g1.less fun a z => .inl z, ?_⟩⟩
          rw [mbind] at h
          cases e2 : evD Φ C r E1 with
          | bad => rw [e2] at h; exact h
          | exc Cn x E2 =>
            rw [e2] at h
            exact fun H' cls d g' l x => h H' cls d g' ((l1.less fun a z => .inl z).trans l) x
          | ok ds E2 =>
            rw [e2, bind_ok] at h
            intro ys H2 g2 l2 r2
            exact h _ H2 g2 ((l1.less fun a z => .inl z).trans l2) ((h2.lnk (g1.less fun a z => .inl z) l2).append r2)
        split at h
        · exact go _ (.inl rfl) h
        · exact go _ (.inr rfl) h
        · exact go _ (.inr rfl) h
        · exact h.elim
    · have hs' : ∀ a, e ≠ .star a := fun a q => hs ⟨a, q⟩
      rw [evD_cons e r hs', mbind] at h
      rw [tDisp_cons e r hs']
      refine ⟨P, E, g, ?_⟩
      cases e1 : ev Φ C e E with
      | bad => rw [e1] at h; exact h
      | exc Cn x E1 => rw [e1] at h; exact h
      | ok s E1 =>
        rw [e1, bind_ok, mbind] at h
        intro v H1 g1 l1 r1 n1
        refine ih σ H1 _ ⟨_, E1, g1, ?_⟩
        cases e2 : evD Φ C r E1 with
        | bad => rw [e2] at h; exact h
        | exc Cn x E2 =>
          rw [e2] at h
          exact exc_after g l1 (fun a z => .inl z) h
        | ok ds E2 =>
          rw [e2, bind_ok] at h
          intro ys H2 g2 l2 r2
          refine h (v :: ys) H2 (g2.less fun a z => .inl z) ((l1.trans l2).less fun a z => .inl z) (.cons ?_ (r2.mono fun a z => ⟨fun q => z.1 (.inl q), z.2⟩))
          exact r1.frz g1 l2 g2 (fun _ z => .inl z) fun a z => ⟨.inr z, n1 a z⟩
/-! ### arguments -/
/-- values of arguments; P: what is protected without them -/
structure ArgsR (K : PySem.W.Frag) (P P' : Addr → Prop) (σ : St) (E : SE) (H : Hp) (vs : List V) (ss : List Sl) : Prop where
  len : vs.length = ss.length
  res : ∀ (j : Nat) v s, vs[j]? = some v → ss[j]? = some s → ResR K P' σ E H v s
  held : ∀ (j : Nat) (d : D) (a : Addr), ss[j]? = some (.own d) → vs[j]? = some (.ref a) → P' a ∧ ¬ P a
  inj : ∀ (i j : Nat) (d d' : D) (a : Addr), ss[i]? = some (.own d) → ss[j]? = some (.own d') → vs[i]? = some (.ref a) → vs[j]? = some (.ref a) → i = j
/-- an argument that is a slot has the slot's value -/
def SlA (as : List Arg) (σ : St) (vs : List V) : Prop := ∀ (j i : Nat), as[j]? = some (.slot i) → ∃ v, vs[j]? = some v ∧ σ[i]? = some (some v)
def PostC (K : PySem.W.Frag) (mg : Str → Option Value) (W : WX) (as : List Arg) (P : Addr → Prop) (σ : St) (E : SE) (H : Hp) (Q : List V → Hp → Prop) : R (List Sl) → Prop
  | .ok ss E' => ∀ vs H' P', (∀ a, P a → P' a) → Good K P' H' σ E' → Lnk P σ E H P' σ E' H' → ArgsR K P P' σ E' H' vs ss → SlA as σ vs → Q vs H'
  | .exc C x E' => ∀ H' cls d, Good K P H' σ E' → Lnk P σ E H P σ E' H' → ExcR K mg (Fz P σ E') H' C x cls d → W cls d σ H'
  | .bad => False
def tArg (K : PySem.W.Frag) (mg : Str → Option Value) (W : WX) : Arg → TE
  | .slot i => tVar i
  | .ex f => TEof K mg W f
def tArgs (K : PySem.W.Frag) (mg : Str → Option Value) (W : WX) : List Arg → TA
  | [] => tNil
  | o :: r => tCons (tArg K mg W o) (tArgs K mg W r)
theorem ResR.lnk {s : Sl} {v : V} (r : ResR K P σ E H v s) (g : Good K P H σ E) (l : Lnk P σ E H P' σ E' H') (hn : ∀ a, HeldBy v s a → P a) : ResR K P' σ E' H' v s := by
  cases s with
  | no => exact r.elim
  | val d => exact RepB.lnk r g l
  | own d =>
    obtain ⟨a, rfl, r⟩ := r
    exact ⟨a, rfl, r.lnk g l fun q => g.dis a q (hn a rfl)⟩
theorem ArgsR.cons {v : V} {s : Sl} {vs : List V} {ss : List Sl} (r : ResR K P' σ E H v s) (hh : ∀ a, HeldBy v s a → P' a ∧ ¬ P a) (hd : ∀ (a : Addr) (j : Nat) (d : D), HeldBy v s a → ss[j]? = some (.own d) → vs[j]? = some (.ref a) → False) (h : ArgsR K P P' σ E H vs ss) : ArgsR K P P' σ E H (v :: vs) (s :: ss) where
  len := by simp [h.len]
  res := fun j w t e1 e2 => by
    cases j with
    | zero => cases e1; cases e2; exact r
    | succ j => exact h.res j w t (by simpa using e1) (by simpa using e2)
  held := fun j d a e1 e2 => by
    cases j with
    | zero => cases e1; cases e2; exact hh a rfl
    | succ j => exact h.held j d a (by simpa using e1) (by simpa using e2)
  inj := fun i j d d' a e1 e2 e3 e4 => by
    cases i with
    | zero =>
      cases j with
      | zero => rfl
      | succ j =>
        cases e1; cases e3
        exact (hd a j d' rfl (by simpa using e2) (by simpa using e4)).elim
    | succ i =>
      cases j with
      | zero =>
        cases e2; cases e4
        exact (hd a i d rfl (by simpa using e1) (by simpa using e3)).elim
      | succ j => rw [h.inj i j d d' a (by simpa using e1) (by simpa using e2) (by simpa using e3) (by simpa using e4)]
theorem ArgsR.base {P1 : Addr → Prop} {vs : List V} {ss : List Sl} (h : ArgsR K P1 P' σ E H vs ss) (hp : ∀ a, P a → P1 a) : ArgsR K P P' σ E H vs ss :=
  ⟨h.len, h.res, fun j d a e1 e2 => let ⟨q1, q2⟩ := h.held j d a e1 e2; ⟨q1, fun p => q2 (hp a p)⟩, h.inj⟩
theorem ArgsR.nil {P P' : Addr → Prop} : ArgsR K P P' σ E H [] [] := ⟨rfl, fun j _ _ e => by simp at e, fun j _ _ e => by simp at e, fun j _ _ _ _ e => by simp at e⟩
/-- slots are left out -/
theorem ArgsR.out {vs : List V} {ss : List Sl} (h : ArgsR K P P' σ E H vs ss) (g : Good K P' H σ E) (g' : Good K P1 H σ E') (l : Lnk P' σ E H P1 σ E' H) (hp : ∀ a, P' a → P1 a) : ArgsR K P P1 σ E' H vs ss where
  len := h.len
  res := fun j v s e1 e2 => (h.res j v s e1 e2).lnk g l fun a z => by
    cases s with
    | own d =>
      have z' : v = .ref a := z
      subst z'
      exact (h.held j d a e2 e1).1
    | _ => exact z.elim
  held := fun j d a e1 e2 => let ⟨q1, q2⟩ := h.held j d a e1 e2; ⟨hp a q1, q2⟩
  inj := h.inj
theorem evC_slot {i : Nat} {r : List Arg} {E : SE} : evC (.slot i :: r) E = (slotAt i E).bind fun _ => fun E1 => (evC r E1).bind fun ss => fun E2 => (popS i E2).bind fun s => fun E3 => .ok (s :: ss) E3 := rfl
theorem evC_ex {f : M Sl} {r : List Arg} {E : SE} : evC (.ex f :: r) E = (f E).bind fun s => fun E1 => (evC r E1).bind fun ss => fun E2 => .ok (s :: ss) E2 := rfl
theorem Lnk.out (g : Good K P H σ E) (i : Nat) : Lnk P σ E H (fun a => P a ∨ (∃ d, E[i]? = some (.own d) ∧ σ[i]? = some (some (.ref a)))) σ (E.set i .no) H :=
  ⟨fun _ _ e _ => e, fun a ⟨j, d, e1, e2⟩ => by
    rw [getE_set] at e1
    split at e1
    · split at e1 <;> cases e1
    · exact .inl ⟨j, d, e1, e2⟩, fun a h => h.imp id fun ⟨d, e1, e2⟩ => .inl ⟨i, d, e1, e2⟩⟩
theorem argsC : ∀ (as : List Arg) (σ : St) (H : Hp) (Q : List V → Hp → Prop) (P : Addr → Prop) (E : SE), Good K P H σ E → PostC K mg W as P σ E H Q (evC as E) → tArgs K mg W as σ H Q := by
  intro as
  induction as with
  | nil =>
    intro σ H Q P E g h
    exact h [] H P (fun _ z => z) g Lnk.refl .nil fun j i e => by simp at e
  | cons o r ih =>
    intro σ H Q P E g h
    cases o with
    | slot i =>
      rw [evC_slot] at h
      rcases slotAt_cases i E with ⟨d0, e0⟩ | e0
      · rw [e0, bind_ok] at h
        obtain ⟨_, v, ev, tv⟩ := g.slotV e0
        refine ⟨v, ev, ih σ H _ P E g ?_⟩
        cases e1 : evC r E with
        | bad => rw [e1] at h; exact h
        | exc Cn x E1 => rw [e1] at h; exact h
        | ok ss E1 =>
          rw [e1, bind_ok] at h
          intro vs H1 P1 hp g1 l1 ar sa
          have sa' : ∀ w, σ[i]? = some (some w) → SlA (.slot i :: r) σ (w :: vs) := fun w ew j l e => by
            cases j with
            | zero => cases e; exact ⟨w, rfl, ew⟩
            | succ j => exact sa j l (by simpa using e)
          unfold popS at h
          split at h
          · rename_i d e2
            obtain ⟨a, e3, q⟩ := g1.own i d e2
            rw [ev] at e3; cases e3
            have hout := g1.out i
            have lout := Lnk.out g1 i
            have hh : OwnS σ E1 a := ⟨i, d, e2, ev⟩
            have hP : ∀ b, (P1 b ∨ (∃ d, E1[i]? = some (.own d) ∧ σ[i]? = some (some (.ref b)))) → P1 b ∨ b = a := fun b z => z.imp id fun ⟨d', q1, q2⟩ => by
              rw [ev] at q2; cases q2; rfl
            have hb : ∀ b, HeldBy (.ref a) (.own d) b → b = a := fun b z => by
              have z' : V.ref a = .ref b := z
              cases z'; rfl
            refine h (.ref a :: vs) H1 _ (fun b z => .inl (hp b z)) hout (l1.trans lout) (.cons ?_ (fun b z => ?_) (fun b j d' z e4 e5 => ?_) (ArgsR.out ar g1 hout lout fun b z => .inl z)) (sa' _ ev)
            · refine ⟨a, rfl, (q.monoD fun b o e z => ⟨fun p => ?_, fun p => z.2 ?_⟩)⟩
              · rcases hP b p with p | p
                · exact z.1 p
                · exact z.2 (p ▸ hh)
              · obtain ⟨j, d', q1, q2⟩ := p
                rw [getE_set] at q1
                split at q1
                · split at q1 <;> cases q1
                · exact ⟨j, d', q1, q2⟩
            · rw [hb b z]
              exact ⟨.inr ⟨d, e2, ev⟩, fun p => g1.dis a hh (hp a p)⟩
            · rw [hb b z] at e5
              exact g1.dis a hh (ar.held j d' a e4 e5).1
          · rename_i d e2
            obtain ⟨w, e3, q⟩ := g1.val i d e2
            rw [ev] at e3; cases e3
            exact h (v :: vs) H1 P1 hp g1 l1 (.cons q (fun b z => z.elim) (fun b j d' z => z.elim) ar) (sa' _ ev)
          · exact h.elim
      · rw [e0] at h; exact h.elim
    | ex f =>
      rw [evC_ex] at h
      refine ⟨P, E, g, ?_⟩
      cases e1 : f E with
      | bad => rw [e1] at h; exact h
      | exc Cn x E1 => rw [e1] at h; exact h
      | ok s E1 =>
        rw [e1, bind_ok] at h
        intro v H1 g1 l1 r1 n1
        refine ih σ H1 _ _ E1 g1 ?_
        cases e2 : evC r E1 with
        | bad => rw [e2] at h; exact h
        | exc Cn x E2 =>
          rw [e2] at h
          exact exc_after g l1 (fun a z => .inl z) h
        | ok ss E2 =>
          rw [e2, bind_ok] at h
          intro vs H2 P2 hp g2 l2 ar sa
          refine h (v :: vs) H2 P2 (fun a z => hp a (.inl z)) g2 (l1.trans l2) (.cons (r1.lnk g1 l2 fun a z => .inr z) (fun a z => ⟨hp a (.inr z), n1 a z⟩) (fun a j d z e4 e5 => (ar.held j d a e4 e5).2 (.inr z)) (ar.base fun a z => .inl z)) fun j l e => by
            cases j with
            | zero => cases e
            | succ j => exact sa j l (by simpa using e)

/-! ### calls -/
theorem putBack_at : ∀ (as : List Arg) (ss ps : List Sl) (E : SE), (putBack as ss ps E).length = E.length ∧ ∀ (i : Nat) s, (putBack as ss ps E)[i]? = some s → E[i]? = some s ∨ ∃ (j : Nat) (d : D), as[j]? = some (.slot i) ∧ ss[j]? = some (.own d) ∧ ps[j]? = some s := by
  intro as
  induction as with
  | nil => intro ss ps E; exact ⟨by simp [putBack], fun i s e => .inl (by simpa [putBack] using e)⟩
  | cons o r ih =>
    intro ss ps E
    cases ss with
    | nil => exact ⟨by cases o <;> simp [putBack], fun i s e => .inl (by cases o <;> simpa [putBack] using e)⟩
    | cons s0 ss =>
      cases ps with
      | nil => exact ⟨by cases o <;> cases s0 <;> simp [putBack], fun i s e => .inl (by cases o <;> cases s0 <;> simpa [putBack] using e)⟩
      | cons p ps =>
        obtain ⟨h1, h2⟩ := ih ss ps E
        have skip : ∀ i s, (putBack r ss ps E)[i]? = some s → E[i]? = some s ∨ ∃ (j : Nat) (d : D), (o :: r)[j]? = some (.slot i) ∧ (s0 :: ss)[j]? = some (.own d) ∧ (p :: ps)[j]? = some s := fun i s e =>
          (h2 i s e).imp id fun ⟨j, d, q1, q2, q3⟩ => ⟨j + 1, d, by simpa using q1, by simpa using q2, by simpa using q3⟩
        cases o with
        | ex f => exact ⟨by simpa [putBack] using h1, fun i s e => skip i s (by simpa [putBack] using e)⟩
        | slot k =>
          cases s0 with
          | no => exact ⟨by simpa [putBack] using h1, fun i s e => skip i s (by simpa [putBack] using e)⟩
          | val d => exact ⟨by simpa [putBack] using h1, fun i s e => skip i s (by simpa [putBack] using e)⟩
          | own d =>
            refine ⟨by simpa [putBack] using h1, fun i s e => ?_⟩
            have e : ((putBack r ss ps E).set k p)[i]? = some s := e
            rw [getE_set] at e
            split at e
            · rename_i hk
              split at e
              · cases e
                exact .inr ⟨0, d, by rw [hk]; rfl, rfl, rfl⟩
              · cases e
            · exact skip i s e
theorem call_back {as : List Arg} {vs : List V} {ss ps : List Sl} {Pc B : Addr → Prop} (g : Good K P H σ E) (hp : ∀ a, P a → P1 a) (g1 : Good K P1 H1 σ E1) (l1 : Lnk P σ E H P1 σ E1 H1) (ar : ArgsR K P P1 σ E1 H1 vs ss) (sa : SlA as σ vs)
    (hPc : ∀ a, Pc a ↔ (P1 a ∧ ¬ OwnS (vs.map some) ss a) ∨ OwnS σ E1 a) (gc : Good K Pc H1 (vs.map some) ss)
    (g' : Good K (fun a => Pc a ∨ B a) H' (vs.map some) ps) (l' : Lnk Pc (vs.map some) ss H1 (fun a => Pc a ∨ B a) (vs.map some) ps H') (hB : ∀ a, B a → ¬ Pc a) :
    Good K (fun a => P a ∨ B a) H' σ (putBack as ss ps E1) ∧ Lnk P σ E H (fun a => P a ∨ B a) σ (putBack as ss ps E1) H' ∧ (∀ b, Fz (fun a => Pc a ∨ B a) (vs.map some) ps b → Fz (fun a => P a ∨ B a) σ (putBack as ss ps E1) b) ∧ ∀ a, B a → ¬ P a := by
  obtain ⟨hlen, hat⟩ := putBack_at as ss ps E1
  have held : ∀ a, OwnS (vs.map some) ss a → P1 a ∧ ¬ P a := fun a ⟨j, d, e1, e2⟩ => by
    rw [List.getElem?_map] at e2
    cases e3 : vs[j]? with
    | none => rw [e3] at e2; cases e2
    | some v =>
      rw [e3] at e2
      have : v = .ref a := by simpa using e2
      subst this
      exact ar.held j d a e1 e3
  have PPc : ∀ a, P a → Pc a := fun a p => (hPc a).mpr (.inl ⟨hp a p, fun q => (held a q).2 p⟩)
  have back : ∀ {i j : Nat} {d : D} {s : Sl}, as[j]? = some (.slot i) → ss[j]? = some (.own d) → ps[j]? = some s → ∃ v, (vs.map some)[j]? = some (some v) ∧ σ[i]? = some (some v) := fun {i j d s} q1 q2 q3 => by
    obtain ⟨v, e1, e2⟩ := sa j i q1
    exact ⟨v, by rw [List.getElem?_map, e1]; rfl, e2⟩
  have sub : ∀ a, OwnS σ (putBack as ss ps E1) a → OwnS σ E1 a ∨ OwnS (vs.map some) ps a := fun a ⟨i, d, e1, e2⟩ => by
    rcases hat i _ e1 with q | ⟨j, d', q1, q2, q3⟩
    · exact .inl ⟨i, d, q, e2⟩
    · obtain ⟨v, e3, e4⟩ := back q1 q2 q3
      rw [e2] at e4; cases e4
      exact .inr ⟨j, d, q3, e3⟩
  have fz : ∀ b, Fz (fun a => Pc a ∨ B a) (vs.map some) ps b → Fz (fun a => P a ∨ B a) σ (putBack as ss ps E1) b := fun b z =>
    ⟨fun q => z.1 (q.imp (PPc b) id), fun q => (sub b q).elim (fun q => z.1 (.inl ((hPc b).mpr (.inr q)))) z.2⟩
  have old : ∀ b o, H1 b = some o → Fz P1 σ E1 b → Fz (fun a => P a ∨ B a) σ (putBack as ss ps E1) b := fun b o e z => by
    have nh : ¬ OwnS (vs.map some) ss b := fun q => z.1 (held b q).1
    refine ⟨fun q => q.elim (fun q => z.1 (hp b q)) fun q => ?_, fun q => (sub b q).elim z.2 fun q => ?_⟩
    · rcases l'.pr b (.inr q) with p | p | p
      · exact hB b q p
      · exact nh p
      · rw [e] at p; cases p
    · rcases l'.new b q with p | p
      · exact nh p
      · rw [e] at p; cases p
  have kpc := gc.kp l'
  have held2 : ∀ a, OwnS (vs.map some) ss a → OwnS σ E a ∨ H a = Option.none := fun a q => by
    obtain ⟨q1, q2⟩ := held a q
    exact (l1.pr a q1).elim (fun z => absurd z q2) id
  refine ⟨⟨by rw [hlen]; exact g1.len, fun a p => ?_, fun i d e => ?_, fun i d e => ?_, fun a q p => ?_, fun i j d d' a e1 e2 e3 e4 => ?_⟩, ⟨fun a o e n => ?_, fun a q => ?_, fun a q => ?_⟩, fz, fun a q p => hB a q (PPc a p)⟩
  · exact g'.dom a (p.imp (PPc a) id)
  · rcases hat i _ e with q | ⟨j, d', q1, q2, q3⟩
    · obtain ⟨v, e1, r⟩ := g1.val i d q
      refine ⟨v, e1, ((r.monoD fun b o eo z => ⟨z, old b o eo z⟩ : RepB K H1 (fun b => Fz P1 σ E1 b ∧ Fz (fun a => P a ∨ B a) σ (putBack as ss ps E1) b) v d).keep fun b o eo z => kpc b o eo (z.imp (fun z q => z.1.1 (held b q).1) id)).mono fun _ z => z.2⟩
    · obtain ⟨v, e3, e4⟩ := back q1 q2 q3
      obtain ⟨w, e5, r⟩ := g'.val j d q3
      rw [e3] at e5; cases e5
      exact ⟨v, e4, r.mono fz⟩
  · rcases hat i _ e with q | ⟨j, d', q1, q2, q3⟩
    · obtain ⟨v, e1, r⟩ := g1.own i d q
      have hv : OwnS σ E1 v := ⟨i, d, q, e1⟩
      refine ⟨v, e1, ((r.monoD fun b o eo z => ⟨z, old b o eo z⟩ : OwnB K H1 (fun b => Fz P1 σ E1 b ∧ Fz (fun a => P a ∨ B a) σ (putBack as ss ps E1) b) v d).keep fun b o eo z => kpc b o eo (z.imp (fun z q => z.elim (fun z => z.1.1 (held b q).1) fun z => by rw [z] at q; exact g1.dis v hv (held v q).1) id)).monoD fun _ _ _ z => z.2⟩
    · obtain ⟨v, e3, e4⟩ := back q1 q2 q3
      obtain ⟨w, e5, r⟩ := g'.own j d q3
      rw [e3] at e5; cases e5
      exact ⟨w, e4, r.monoD fun b _ _ z => fz b z⟩
  · rcases sub a q with q | q
    · exact p.elim (fun p => g1.dis a q (hp a p)) fun p => hB a p ((hPc a).mpr (.inr q))
    · exact g'.dis a q (p.imp (PPc a) id)
  · have own : ∀ {i : Nat} {d : D}, (putBack as ss ps E1)[i]? = some (.own d) → σ[i]? = some (some (.ref a)) → E1[i]? = some (.own d) ∨ (∃ (j : Nat), as[j]? = some (Arg.slot i) ∧ ps[j]? = some (Sl.own d) ∧ (vs.map some)[j]? = some (some (V.ref a))) := fun {i d} e1 e3 => by
      rcases hat i _ e1 with q | ⟨j, d', q1, q2, q3⟩
      · exact .inl q
      · obtain ⟨v, e5, e6⟩ := back q1 q2 q3
        rw [e3] at e6; cases e6
        exact .inr ⟨j, q1, q3, e5⟩
    rcases own e1 e3 with q | ⟨j1, q1, q2, q3⟩
    · rcases own e2 e4 with p | ⟨j2, p1, p2, p3⟩
      · exact g1.inj i j d d' a q p e3 e4
      · exact absurd (.inl ((hPc a).mpr (.inr ⟨i, d, q, e3⟩))) (g'.dis a ⟨j2, d', p2, p3⟩)
    · rcases own e2 e4 with p | ⟨j2, p1, p2, p3⟩
      · exact absurd (.inl ((hPc a).mpr (.inr ⟨j, d', p, e4⟩))) (g'.dis a ⟨j1, d, q2, q3⟩)
      · have := g'.inj j1 j2 d d' a q2 p2 q3 p3
        subst this
        rw [q1] at p1
        cases p1; rfl
  · refine l'.keep a o (l1.keep a o e n) fun q => ?_
    rcases held2 a q with z | z
    · exact n z
    · rw [e] at z; cases z
  · rcases sub a q with q | q
    · exact l1.new a q
    · exact (l'.new a q).elim (held2 a) l1.none
  · rcases q with q | q
    · exact .inl q
    · rcases l'.pr a (.inr q) with p | p | p
      · exact absurd p (hB a q)
      · exact .inr (held2 a p)
      · exact .inr (l1.none p)
theorem evC_length : ∀ {as : List Arg} {E : SE} {ss : List Sl} {E1 : SE}, evC as E = .ok ss E1 → ss.length = as.length := by
  intro as
  induction as with
  | nil => intro E ss E1 h; cases h; rfl
  | cons o r ih =>
    intro E ss E1 h
    cases o with
    | slot i =>
      rw [evC_slot] at h
      obtain ⟨_, E2, _, h⟩ := R.bind_ok h
      obtain ⟨ss', E3, h1, h⟩ := R.bind_ok (f := fun ss => fun E2 => (popS i E2).bind fun s => fun E3 => .ok (s :: ss) E3) h
      obtain ⟨s, E4, _, h⟩ := R.bind_ok (f := fun s => fun E3 => .ok (s :: ss') E3) h
      cases h
      simp [ih h1]
    | ex f =>
      rw [evC_ex] at h
      obtain ⟨s, E2, _, h⟩ := R.bind_ok h
      obtain ⟨ss', E3, h1, h⟩ := R.bind_ok (f := fun ss => fun E2 => .ok (s :: ss) E2) h
      cases h
      simp [ih h1]
theorem call_sound (F : M Sl) (as : List Arg) (np : Nat) (hn : as.length = np) :
    ∀ σ H Q, TEof K mg W (callS F as) σ H Q → tArgs K mg W as σ H (fun vs H1 => spF K mg np F vs H1 Q (fun c d H' => W c d σ H')) := by
  intro σ H Q ⟨P, E, g, h⟩
  refine argsC as σ H _ P E g ?_
  unfold callS at h
  cases e : evC as E with
  | bad => rw [e] at h; exact h
  | exc Cn x E1 => rw [e] at h; exact h
  | ok ss E1 =>
    rw [e] at h
    intro vs H1 P1 hp g1 l1 ar sa
    have ln : vs.length = np := by rw [ar.len, evC_length e, hn]
    have held : ∀ a, OwnS (vs.map some) ss a → P1 a ∧ ¬ P a := fun a ⟨j, d, e1, e2⟩ => by
      rw [List.getElem?_map] at e2
      cases e3 : vs[j]? with
      | none => rw [e3] at e2; cases e2
      | some v =>
        rw [e3] at e2
        have : v = .ref a := by simpa using e2
        subst this
        exact ar.held j d a e1 e3
    suffices gc : Good K (fun a => (P1 a ∧ ¬ OwnS (vs.map some) ss a) ∨ OwnS σ E1 a) H1 (vs.map some) ss by
      refine ⟨ln, fun a => (P1 a ∧ ¬ OwnS (vs.map some) ss a) ∨ OwnS σ E1 a, ss, gc, ?_⟩
      dsimp only at h
      cases eF : F ss with
      | bad => rw [eF] at h; exact h
      | exc Cn x ps =>
        rw [eF] at h
        intro H' cls d g' l' x'
        have hz : ∀ a, ((P1 a ∧ ¬ OwnS (vs.map some) ss a) ∨ OwnS σ E1 a) ∨ False → ((P1 a ∧ ¬ OwnS (vs.map some) ss a) ∨ OwnS σ E1 a) := fun a z => z.elim id False.elim
        obtain ⟨q1, q2, q3, q4⟩ := call_back (Pc := fun a => (P1 a ∧ ¬ OwnS (vs.map some) ss a) ∨ OwnS σ E1 a) (B := fun _ => False) g hp g1 l1 ar sa (fun _ => Iff.rfl) gc (g'.less hz) (l'.less hz) fun _ z => z.elim
        refine h H' cls d (q1.less fun a z => .inl z) (q2.less fun a z => .inl z) (x'.less fun b z => ?_)
        have := q3 b ⟨fun q => z.1 (hz b q), z.2⟩
        exact ⟨fun q => this.1 (.inl q), this.2⟩
      | ok s ps =>
        rw [eF] at h
        intro v H' g' l' r' n'
        obtain ⟨q1, q2, q3, q4⟩ := call_back (Pc := fun a => (P1 a ∧ ¬ OwnS (vs.map some) ss a) ∨ OwnS σ E1 a) (B := HeldBy v s) g hp g1 l1 ar sa (fun _ => Iff.rfl) gc g' l' n'
        refine h v H' q1 q2 ?_ q4
        cases s with
        | no => exact r'
        | val d => exact RepB.mono r' q3
        | own d =>
          obtain ⟨a, rfl, r⟩ := r'
          exact ⟨a, rfl, r.monoD fun b _ _ z => q3 b z⟩
    have vv : ∀ {j : Nat} {v : V}, vs[j]? = some v → (vs.map some)[j]? = some (some v) := fun {j v} e => by rw [List.getElem?_map, e]; rfl
    have get : ∀ {j : Nat} {s : Sl}, ss[j]? = some s → ∃ v, vs[j]? = some v := fun {j s} e => by
      have hj : j < vs.length := by rw [ar.len]; exact (List.getElem?_eq_some_iff.mp e).1
      exact ⟨vs[j], by simp [hj]⟩
    have fz : ∀ b, Fz P1 σ E1 b → Fz (fun a => (P1 a ∧ ¬ OwnS (vs.map some) ss a) ∨ OwnS σ E1 a) (vs.map some) ss b := fun b z => ⟨fun q => q.elim (fun q => z.1 q.1) z.2, fun q => z.1 (held b q).1⟩
    refine ⟨by simp [ar.len], fun a q => q.elim (fun q => g1.dom a q.1) fun q => let ⟨o, e, _⟩ := g1.ownD q; ⟨o, e⟩, fun j d e1 => ?_, fun j d e1 => ?_, fun a q q' => ?_, fun i j d d' a e1 e2 e3 e4 => ?_⟩
    · obtain ⟨v, ev⟩ := get e1
      exact ⟨v, vv ev, RepB.mono (ar.res j v _ ev e1) fz⟩
    · obtain ⟨v, ev⟩ := get e1
      obtain ⟨a, rfl, r⟩ := ar.res j v _ ev e1
      exact ⟨a, vv ev, r.monoD fun b _ _ z => fz b z⟩
    · exact q'.elim (fun z => z.2 q) fun z => g1.dis a z (held a q).1
    · have un : ∀ {j : Nat}, (vs.map some)[j]? = some (some (V.ref a)) → vs[j]? = some (V.ref a) := fun {j} e => by
        rw [List.getElem?_map] at e
        cases e5 : vs[j]? with
        | none => rw [e5] at e; cases e
        | some v => rw [e5] at e; simpa using e
      exact ar.inj i j d d' a e1 e2 (un e3) (un e4)
end
end Lw
end

section
set_option Elab.async false
set_option linter.all false
set_option maxRecDepth 100000
set_option maxHeartbeats 4000000
/-! L10: what is walked; comprehensions; for, while -/
namespace Lw
open PySem L2
section
variable {K : PySem.W.Frag} {mg : Str → Option Value} {W : WX} {P P' P1 : Addr → Prop} {H H' H1 H0 : Hp} {σ σ' σ1 : St} {E E' E1 E0 : SE} {Φ : Nat → M Sl} {C : Nat → D}
/-- J walks ds, as long as what is protected or frozen stays -/
def Wk (K : PySem.W.Frag) (T : Addr → Prop) (P : Addr → Prop) (J : It) (H : Hp) (ds : List D) : Prop :=
  ∀ H2, Kp (fun a => P a ∨ T a) H H2 → (∀ i, ds.length ≤ i → J.stop i H2) ∧ ∀ (i : Nat) (d : D), ds[i]? = some d → J.go i H2 ∧ ∀ x H3, J.yld i H2 x H3 → (∀ a o, H2 a = some o → H3 a = some o) ∧ RepB K H3 (fun b => T b ∧ ∃ o, H b = some o) x d
/-- a list or tuple that stays -/
def StL (T P : Addr → Prop) (K : PySem.W.Frag) (H : Hp) (a : Addr) (vs : List V) (ds : List D) : Prop := H a = some (.lst vs) ∧ (P a ∨ T a) ∧ RepsB K H T vs ds
def StT (T P : Addr → Prop) (K : PySem.W.Frag) (H : Hp) (a : Addr) (vs : List V) (ds : List D) : Prop := SqT K H a vs ∧ RepsB K H T vs ds
theorem RepsB.kp2 {T P : Addr → Prop} {vs ds} {H2 : Hp} (r : RepsB K H T vs ds) (k : Kp (fun a => P a ∨ T a) H H2) : RepsB K H2 (fun b => T b ∧ ∃ o, H b = some o) vs ds :=
  (r.monoD fun a o e z => ⟨z, o, e⟩ : RepsB K H (fun b => T b ∧ ∃ o, H b = some o) vs ds).keep fun a o e z => k a o e (z.imp (fun z => .inr z.1) id)
theorem StL.at {T P : Addr → Prop} {a vs ds} {H2 : Hp} (s : StL T P K H a vs ds) (k : Kp (fun a => P a ∨ T a) H H2) : H2 a = some (.lst vs) ∧ RepsB K H2 (fun b => T b ∧ ∃ o, H b = some o) vs ds :=
  ⟨k a _ s.1 (.inl s.2.1), s.2.2.kp2 k⟩
theorem StT.at {T P : Addr → Prop} {a vs ds} {H2 : Hp} (s : StT T P K H a vs ds) (k : Kp (fun a => P a ∨ T a) H H2) : SqT K H2 a vs ∧ RepsB K H2 (fun b => T b ∧ ∃ o, H b = some o) vs ds :=
  ⟨k.sqT s.1, s.2.kp2 k⟩
theorem sqL_inj {a vs ws} (h : H a = some (.lst vs)) (h' : SqL K H a ws) (hk : K.lookup a = none) : ws = vs := by
  rcases h' with (h' | ⟨o, h'⟩) | ⟨o, its, n, h', _⟩
  · rw [h] at h'; cases h'; rfl
  · rw [h] at h'; cases h'
  · rw [hk] at h'; cases h'
theorem wk_list {T P : Addr → Prop} {a vs ds} (s : StL T P K H a vs ds) : Wk K T P (Itl K a) H ds := fun H2 k => by
  obtain ⟨h1, h2⟩ := s.at k
  refine ⟨fun i hi => ⟨vs, SqL.of h1, by rw [h2.length]; exact hi⟩, fun i d e => ?_⟩
  obtain ⟨v, ev, r⟩ := h2.get e
  refine ⟨⟨vs, v, SqL.of h1, ev⟩, fun x H3 y => ?_⟩
  obtain ⟨rfl, y⟩ := y
  refine ⟨fun _ _ z => z, ?_⟩
  have := y vs (SqL.of h1)
  rw [ev] at this; cases this
  exact r
theorem wk_tup {T P : Addr → Prop} {a vs ds} (s : StT T P K H a vs ds) : Wk K T P (Itt K a) H ds := fun H2 k => by
  obtain ⟨h1, h2⟩ := s.at k
  refine ⟨fun i hi => ⟨vs, h1, by rw [h2.length]; exact hi⟩, fun i d e => ?_⟩
  obtain ⟨v, ev, r⟩ := h2.get e
  refine ⟨⟨vs, v, h1, ev⟩, fun x H3 y => ?_⟩
  obtain ⟨rfl, y⟩ := y
  refine ⟨fun _ _ z => z, ?_⟩
  have := y vs h1
  rw [ev] at this; cases this
  exact r
theorem wk_rng {T P : Addr → Prop} (lo hi : Int) : Wk K T P (Itr lo (hi - lo).toNat) H (rngD lo hi) := fun H2 k => by
  refine ⟨fun i h => (by rw [show (rngD lo hi).length = (hi - lo).toNat by simp [rngD]] at h; exact h), fun i d e => ?_⟩
  unfold rngD at e
  rw [List.getElem?_map] at e
  obtain ⟨j, e1, rfl⟩ := Option.map_eq_some_iff.mp e
  have hj : i < (hi - lo).toNat ∧ j = i := by
    obtain ⟨h1, h2⟩ := List.getElem?_eq_some_iff.mp e1
    rw [List.getElem_range] at h2
    exact ⟨by simpa using h1, h2.symm⟩
  obtain ⟨h1, rfl⟩ := hj
  refine ⟨h1, fun x H3 y => ?_⟩
  obtain ⟨rfl, rfl⟩ := y
  exact ⟨fun _ _ z => z, .int _⟩
theorem zip_get {xs ys : List D} {i : Nat} {d : D} (e : (zipD xs ys)[i]? = some d) : ∃ x y, xs[i]? = some x ∧ ys[i]? = some y ∧ d = .tup [x, y] := by
  unfold zipD at e
  rw [List.getElem?_map] at e
  obtain ⟨p, e1, rfl⟩ := Option.map_eq_some_iff.mp e
  rw [List.getElem?_zip_eq_some] at e1
  exact ⟨p.1, p.2, e1.1, e1.2, rfl⟩
theorem pair_new {T : Addr → Prop} {H2 : Hp} {p : Addr} {x y : V} {c d : D} (hp : H2 p = none) (r1 : RepB K H2 T x c) (r2 : RepB K H2 T y d) : RepB K (upd H2 p (.tup [x, y])) T (.ref p) (.tup [c, d]) :=
  .tup (SqT.of upd_same) (.cons (r1.keep (Kp.of (ext_upd hp))) (.cons (r2.keep (Kp.of (ext_upd hp))) .nil))
theorem wk_zip {T P : Addr → Prop} {a b vs ws ds es} (s : StL T P K H a vs ds) (t : StL T P K H b ws es) : Wk K T P (Itz K a b) H (zipD ds es) := fun H2 k => by
  obtain ⟨h1, h2⟩ := s.at k
  obtain ⟨h3, h4⟩ := t.at k
  refine ⟨fun i hi => ⟨vs, ws, SqL.of h1, SqL.of h3, ?_⟩, fun i d e => ?_⟩
  · rw [h2.length, h4.length]
    unfold zipD at hi
    rw [List.length_map, List.length_zip] at hi
    omega
  · obtain ⟨x, y, e1, e2, rfl⟩ := zip_get e
    obtain ⟨v, ev, r⟩ := h2.get e1
    obtain ⟨w, ew, r'⟩ := h4.get e2
    refine ⟨⟨vs, ws, v, w, SqL.of h1, SqL.of h3, ev, ew⟩, fun z H3 q => ?_⟩
    obtain ⟨p, v', w', rfl, hp, rfl, q1, q2⟩ := q
    have := q1 vs (SqL.of h1); rw [ev] at this; cases this
    have := q2 ws (SqL.of h3); rw [ew] at this; cases this
    exact ⟨ext_upd hp, pair_new hp r r'⟩
theorem wk_zipT {T P : Addr → Prop} {a b vs ws ds es} (s : StT T P K H a vs ds) (t : StT T P K H b ws es) : Wk K T P (RZ.ItzT K a b) H (zipD ds es) := fun H2 k => by
  obtain ⟨h1, h2⟩ := s.at k
  obtain ⟨h3, h4⟩ := t.at k
  refine ⟨fun i hi => ⟨vs, ws, h1, h3, ?_⟩, fun i d e => ?_⟩
  · rw [h2.length, h4.length]
    unfold zipD at hi
    rw [List.length_map, List.length_zip] at hi
    omega
  · obtain ⟨x, y, e1, e2, rfl⟩ := zip_get e
    obtain ⟨v, ev, r⟩ := h2.get e1
    obtain ⟨w, ew, r'⟩ := h4.get e2
    refine ⟨⟨vs, ws, v, w, h1, h3, ev, ew⟩, fun z H3 q => ?_⟩
    obtain ⟨p, v', w', rfl, hp, rfl, q1, q2⟩ := q
    have := q1 vs h1; rw [ev] at this; cases this
    have := q2 ws h3; rw [ew] at this; cases this
    exact ⟨ext_upd hp, pair_new hp r r'⟩
theorem wk_enum {T P : Addr → Prop} {a vs ds} (s : StL T P K H a vs ds) : Wk K T P (Ite K a) H (enumD ds) := fun H2 k => by
  obtain ⟨h1, h2⟩ := s.at k
  refine ⟨fun i hi => ⟨vs, SqL.of h1, ?_⟩, fun i d e => ?_⟩
  · rw [h2.length]; simpa [enumD] using hi
  · unfold enumD at e
    rw [List.getElem?_map] at e
    obtain ⟨p, e1, rfl⟩ := Option.map_eq_some_iff.mp e
    rw [List.getElem?_zipIdx] at e1
    obtain ⟨c, e2, rfl⟩ := Option.map_eq_some_iff.mp e1
    obtain ⟨v, ev, r⟩ := h2.get e2
    refine ⟨⟨vs, v, SqL.of h1, ev⟩, fun z H3 q => ?_⟩
    obtain ⟨p, v', rfl, hp, rfl, q1⟩ := q
    have := q1 vs (SqL.of h1); rw [ev] at this; cases this
    refine ⟨ext_upd hp, ?_⟩
    have := pair_new hp (RepB.int (K := K) (H := H2) (T := fun b => T b ∧ ∃ o, H b = some o) ((i : Nat) : Int)) r
    simpa using this
def PostI (K : PySem.W.Frag) (mg : Str → Option Value) (W : WX) (P : Addr → Prop) (σ : St) (E : SE) (H : Hp) (R' : It → Hp → Prop) : R (List D) → Prop
  | .ok ds E' => ∀ J H' P', (∀ a, P a → P' a) → Good K P' H' σ E' → Lnk P σ E H P' σ E' H' → Wk K (Fz P' σ E') P' J H' ds → R' J H'
  | .exc C x E' => ∀ H' cls d, Good K P H' σ E' → Lnk P σ E H P σ E' H' → ExcR K mg (Fz P σ E') H' C x cls d → W cls d σ H'
  | .bad => False
def TIof (K : PySem.W.Frag) (mg : Str → Option Value) (W : WX) (f : M (List D)) : TI := fun σ H R' => ∃ P E, Good K P H σ E ∧ PostI K mg W P σ E H R' (f E)
/-- a list that is a result stays -/
theorem ResR.stL {v : V} {s : Sl} {ds : List D} (r : ResR K P σ E H v s) (hh : ∀ a, HeldBy v s a → P a) (e : s.d = .lst ds) : ∃ a vs, v = .ref a ∧ StL (Fz P σ E) P K H a vs ds := by
  cases s with
  | no => exact r.elim
  | val d =>
    have e : d = .lst ds := e
    subst e
    obtain ⟨S, r, hS⟩ := r
    cases r with
    | lst h1 h2 => exact ⟨_, _, rfl, h1, .inr (hS _ (List.mem_cons_self ..)), _, h2, fun b hb => hS b (List.mem_cons_of_mem _ hb)⟩
  | own d =>
    have e : d = .lst ds := e
    subst e
    obtain ⟨a, rfl, S, r, hS⟩ := r
    cases r with
    | lst h1 h2 => exact ⟨_, _, rfl, h1, .inl (hh a rfl), _, h2, hS⟩
theorem ResR.stT {v : V} {s : Sl} {ds : List D} (r : ResR K P σ E H v s) (e : s.d = .tup ds) : ∃ a vs, v = .ref a ∧ StT (Fz P σ E) P K H a vs ds := by
  cases s with
  | no => exact r.elim
  | val d =>
    have e : d = .tup ds := e
    subst e
    obtain ⟨a, vs, rfl, h1, h2⟩ := RepB.top r |>.tup
    exact ⟨a, vs, rfl, h1, h2⟩
  | own d =>
    have e : d = .tup ds := e
    subst e
    obtain ⟨a, rfl, S, r, hS⟩ := r
    cases r
end
section
variable {X : Cx} {W : WX} {Φ : Nat → M Sl} {C : Nat → D} {tg iter : Expr}
/-- a list or a tuple is walked -/
theorem pi_seq {f : M Sl} {l : Expr} (hl : PE X l (TEof X.K X.mg W f)) : PI X tg l (TIof X.K X.mg W (M.bind f fun s => M.opt (itemsD s.d))) := by
  refine ⟨fun pins s σ H R I h => ?_⟩
  obtain ⟨P, E, g, h⟩ := h
  rw [mbind] at h
  cases e : f E with
  | bad => rw [e] at h; exact h.elim
  | exc Cn x E1 =>
    rw [e] at h
    exact (pi_list (tg := tg) hl).run pins s σ H R I ⟨P, E, g, by rw [e]; exact h⟩
  | ok t E1 =>
    rw [e, bind_ok] at h
    cases ed : t.d with
    | lst ds =>
      rw [ed] at h
      refine (pi_list (tg := tg) hl).run pins s σ H R I ⟨P, E, g, ?_⟩
      rw [e]
      intro v H1 g1 l1 r1 n1
      obtain ⟨a, vs, rfl, st⟩ := r1.stL (fun a z => .inr z) ed
      exact ⟨a, rfl, ⟨vs, SqL.of st.1⟩, h _ H1 _ (fun a z => .inl z) g1 l1 (wk_list st)⟩
    | tup ds =>
      rw [ed] at h
      refine (pi_tup (tg := tg) hl).run pins s σ H R I ⟨P, E, g, ?_⟩
      rw [e]
      intro v H1 g1 l1 r1 n1
      obtain ⟨a, vs, rfl, st⟩ := r1.stT ed
      exact ⟨a, rfl, ⟨vs, st.1⟩, h _ H1 _ (fun a z => .inl z) g1 l1 (wk_tup st)⟩
    | _ => rw [ed] at h; exact h.elim

theorem pi_rng1 {f : M Sl} {a : Expr} {p pos : Pos} (hg : Gl X "range") (hm : X.mg "range" = none) (ha : PA X [a] (tCons (TEof X.K X.mg W f) tNil)) (hs : starEach [a] X.env = [(false, eval a X.env)]) :
    PI X tg (.Call (.Name "range" p) [a] [] pos) (TIof X.K X.mg W (M.bind f fun s => match s with
      | .val (.int n) => if -(2 ^ 62) ≤ n ∧ n < 2 ^ 62 then M.pure (rngD 0 n) else M.bad
      | _ => M.bad)) := by
  refine ⟨fun pins s σ H R I h => (pi_range1 (tg := tg) hg hm ha hs).run pins s σ H R I ?_⟩
  obtain ⟨P, E, g, h⟩ := h
  rw [mbind] at h
  refine ⟨P, E, g, ?_⟩
  cases e : f E with
  | bad => rw [e] at h; exact h.elim
  | exc Cn x E1 => rw [e] at h; exact h
  | ok t E1 =>
    rw [e, bind_ok] at h
    intro v H1 g1 l1 r1 n1
    split at h
    · rename_i n
      split at h
      · rename_i hb
        have := RepB.int_v r1
        subst this
        refine ⟨n, rfl, hb.1, hb.2, h (Itr 0 n.toNat) H1 P (fun _ z => z) (g1.less fun a z => .inl z) (l1.less fun a z => .inl z) ?_⟩
        have := wk_rng (K := X.K) (T := Fz P σ E1) (P := P) (H := H1) 0 n
        rw [Int.sub_zero] at this
        exact this
      · exact h.elim
    · exact h.elim
theorem TopsB.ints2 {K H T vs} {m n : Int} (h : TopsB K H T vs [.int m, .int n]) : vs = [.int m, .int n] := by
  obtain ⟨v, w, rfl, h1, h2⟩ := h.two
  rw [h1.int, h2.int]
theorem pi_rng2 {oa ob : Opd} {a b : Expr} {p pos : Pos} (hg : Gl X "range") (hm : X.mg "range" = none) (ha : PA X [a, b] (tOpds X.K X.mg W [oa, ob])) (hs : starEach [a, b] X.env = [(false, eval a X.env), (false, eval b X.env)]) (hs2 : starEach [b] X.env = [(false, eval b X.env)]) :
    PI X tg (.Call (.Name "range" p) [a, b] [] pos) (TIof X.K X.mg W (M.bind (evA [oa, ob]) fun ds => match ds with
      | [.int m, .int n] => if (-(2 ^ 62) ≤ m ∧ m < 2 ^ 62) ∧ (-(2 ^ 62) ≤ n ∧ n < 2 ^ 62) then M.pure (rngD m n) else M.bad
      | _ => M.bad)) := by
  refine ⟨fun pins s σ H R I h => (pi_range2 (tg := tg) hg hm ha hs hs2).run pins s σ H R I ?_⟩
  obtain ⟨P, E, g, h⟩ := h
  rw [mbind] at h
  refine argsL [oa, ob] σ H _ ⟨P, E, g, ?_⟩
  cases e : evA [oa, ob] E with
  | bad => rw [e] at h; exact h.elim
  | exc Cn x E1 => rw [e] at h; exact h
  | ok ds E1 =>
    rw [e, bind_ok] at h
    intro vs H1 P1 hp g1 l1 ts
    split at h
    · rename_i m n
      split at h
      · rename_i hb
        have := ts.ints2
        subst this
        exact ⟨m, n, rfl, ⟨hb.1.1, hb.1.2, hb.2.1, hb.2.2⟩, h _ H1 P1 hp g1 l1 (wk_rng m n)⟩
      · exact h.elim
    · exact h.elim
theorem ArgsR.hold {K P P' σ E H vs ss} {j : Nat} {v : V} {s : Sl} (h : ArgsR K P P' σ E H vs ss) (e1 : vs[j]? = some v) (e2 : ss[j]? = some s) : ∀ a, HeldBy v s a → P' a := fun a z => by
  cases s with
  | own d =>
    have z' : v = .ref a := z
    subst z'
    exact (h.held j d a e2 e1).1
  | _ => exact z.elim
theorem pi_zip' {fa fb : M Sl} {a b : Expr} {p pos tpos : Pos} {elts : List Expr} {kk : Nat} (hg : Gl X "zip") (hm : X.mg "zip" = none) (ha : PA X [a, b] (tArgs X.K X.mg W [.ex fa, .ex fb])) (hs : starEach [a, b] X.env = (false, eval a X.env) :: starEach [b] X.env) (hpl : (backTo pos (starEach [b] X.env)).any (·.1) = false) :
    PI X (.Tuple elts kk tpos) (.Call (.Name "zip" p) [a, b] [] pos) (TIof X.K X.mg W (M.bind (evC [.ex fa, .ex fb]) fun ss => M.opt (match ss with
    | [s, t] => match s.d, t.d with
      | .lst xs, .lst ys => some (zipD xs ys)
      | .tup xs, .tup ys => some (zipD xs ys)
      | _, _ => none
    | _ => none))) := by
  refine ⟨fun pins s σ H R I h => (RZ.pi_zipA hg hm ha hs hpl).run pins s σ H R I ?_⟩
  obtain ⟨P, E, g, h⟩ := h
  rw [mbind] at h
  refine argsC [.ex fa, .ex fb] σ H _ P E g ?_
  cases e : evC [.ex fa, .ex fb] E with
  | bad => rw [e] at h; exact h.elim
  | exc Cn x E1 => rw [e] at h; exact h
  | ok ss E1 =>
    rw [e, bind_ok] at h
    intro vs H1 P1 hp g1 l1 ar sa
    have hlen := evC_length e
    match ss, hlen with
    | [s, t], _ =>
      have hl := ar.len
      match vs, hl with
      | [v, w], _ =>
        have r1 := ar.res 0 v s rfl rfl
        have r2 := ar.res 1 w t rfl rfl
        have h1 := ar.hold (j := 0) rfl rfl
        have h2 := ar.hold (j := 1) rfl rfl
        dsimp only at h
        split at h
        · rename_i xs ys e1 e2
          obtain ⟨a, vs, rfl, s1⟩ := r1.stL h1 e1
          obtain ⟨b, ws, rfl, s2⟩ := r2.stL h2 e2
          exact ⟨a, b, vs, ws, rfl, .inl ⟨SqL.of s1.1, SqL.of s2.1, h _ H1 P1 hp g1 l1 (wk_zip s1 s2)⟩⟩
        · rename_i xs ys e1 e2
          obtain ⟨a, vs, rfl, s1⟩ := r1.stT e1
          obtain ⟨b, ws, rfl, s2⟩ := r2.stT e2
          exact ⟨a, b, vs, ws, rfl, .inr ⟨s1.1, s2.1, h _ H1 P1 hp g1 l1 (wk_zipT s1 s2)⟩⟩
        · exact h.elim
end
section
variable {K : PySem.W.Frag} {mg : Str → Option Value} {W : WX} {P P' P1 : Addr → Prop} {H H' H1 H0 : Hp} {σ σ' σ1 : St} {E E' E1 E0 : SE}
/-! ### targets -/
def tgT (K : PySem.W.Frag) : Tgt → TG
  | .nm i => gName i
  | .tup ts => gTup K ts.length (tgTs ts)
where
  tgTs : List Tgt → TGs
    | [] => gNil
    | t :: r => gCons (tgT K t) (tgTs r)
/-- what the stores of a target leave: the slots st alone are changed -/
def Same (st : List Nat) (σ σ' : St) : Prop := σ'.length = σ.length ∧ ∀ i, i ∉ st → σ'[i]? = σ[i]?
theorem Same.refl {st : List Nat} {σ : St} : Same st σ σ := ⟨rfl, fun _ _ => rfl⟩
theorem Same.trans {st : List Nat} {σ σ1 σ2 : St} (a : Same st σ σ1) (b : Same st σ1 σ2) : Same st σ σ2 := ⟨b.1.trans a.1, fun i h => (b.2 i h).trans (a.2 i h)⟩
theorem Same.mono {st st' : List Nat} {σ σ1 : St} (a : Same st σ σ1) (h : ∀ i ∈ st, i ∈ st') : Same st' σ σ1 := ⟨a.1, fun i n => a.2 i fun q => n (h i q)⟩
mutual
def Tgt.st : Tgt → List Nat
  | .nm i => [i]
  | .tup ts => Tgt.sts ts
def Tgt.sts : List Tgt → List Nat
  | [] => []
  | t :: r => Tgt.st t ++ Tgt.sts r
end

theorem own_set {v : V} {s : Sl} {i : Nat} {a : Addr} (h : OwnS (σ.set i (some v)) (E.set i s) a) : OwnS σ E a ∨ HeldBy v s a := by
  obtain ⟨j, d, e1, e2⟩ := h
  rw [getE_set] at e1
  split at e1
  · rename_i hij
    subst hij
    split at e1
    · cases e1
      by_cases hl : i < σ.length
      · rw [List.getElem?_set_self hl] at e2
        cases e2
        exact .inr rfl
      · rw [List.getElem?_eq_none (by simpa using hl)] at e2; cases e2
    · cases e1
  · rename_i hij
    rw [List.getElem?_set_ne hij] at e2
    exact .inl ⟨j, d, e1, e2⟩
/-- a result is stored -/
theorem Lnk.put {v : V} {s : Sl} {i : Nat} (l : Lnk P σ1 E1 H1 (Pl P v s) σ E H) (hn : ∀ a, HeldBy v s a → ¬ P a) : Lnk P σ1 E1 H1 P (σ.set i (some v)) (E.set i s) H :=
  ⟨l.keep, fun a h => (own_set h).elim (l.new a) fun z => (l.pr a (.inr z)).elim (fun p => absurd p (hn a z)) id, fun a z => l.pr a (.inl z)⟩
theorem Same.set {i : Nat} {v : Option V} : Same [i] σ (σ.set i v) := ⟨by simp, fun j h => List.getElem?_set_ne (fun e => h (by simp [e]))⟩
mutual
theorem tgt_ok : ∀ (tg : Tgt) (d : D) (v : V) (σ : St) (E E' : SE) (H : Hp) (Q : St → Hp → Prop), Good K P H σ E → RepB K H (Fz P σ E) v d → bindT tg d E = some E' →
    (∀ σ', Good K P H σ' E' → Lnk P σ E H P σ' E' H → Same tg.st σ σ' → Q σ' H) → tgT K tg v σ H Q
  | .nm i, d, v, σ, E, E', H, Q, g, r, e, q => by
    rw [bindT] at e
    split at e
    · rename_i hi
      cases e
      have gl : Good K (Pl P v (.val d)) H σ E := g.less fun a z => z.elim id False.elim
      have rl : ResR K (Pl P v (.val d)) σ E H v (.val d) := RepB.mono r fun a z => ⟨fun q => z.1 (q.elim id False.elim), z.2⟩
      rw [tgT]
      exact q _ (gl.put rl (fun a z => z.elim) hi) (Lnk.put (Lnk.refl.less fun a z => z.elim id False.elim) fun a z => z.elim) Same.set
    · cases e
  | .tup ts, d, v, σ, E, E', H, Q, g, r, e, q => by
    cases d with
    | tup ds =>
      rw [bindT] at e
      obtain ⟨a, vs, rfl, h1, h2⟩ := r.top.tup
      rw [tgT]
      obtain ⟨hl, hq⟩ := tgts_ok ts ds vs σ E E' H Q g h2 e q
      exact ⟨a, vs, rfl, h1, hl, hq⟩
    | _ => simp [bindT] at e
theorem tgts_ok : ∀ (ts : List Tgt) (ds : List D) (vs : List V) (σ : St) (E E' : SE) (H : Hp) (Q : St → Hp → Prop), Good K P H σ E → RepsB K H (Fz P σ E) vs ds → bindTs ts ds E = some E' →
    (∀ σ', Good K P H σ' E' → Lnk P σ E H P σ' E' H → Same (Tgt.sts ts) σ σ' → Q σ' H) → vs.length = ts.length ∧ tgT.tgTs K ts vs σ H Q
  | [], ds, vs, σ, E, E', H, Q, g, r, e, q => by
    cases ds with
    | nil =>
      rw [bindTs] at e
      cases e
      have : vs = [] := List.eq_nil_of_length_eq_zero r.length
      subst this
      rw [tgT.tgTs]
      exact ⟨rfl, rfl, q σ g Lnk.refl Same.refl⟩
    | cons d ds => simp [bindTs] at e
  | t :: ts, ds, vs, σ, E, E', H, Q, g, r, e, q => by
    cases ds with
    | nil => simp [bindTs] at e
    | cons d ds =>
      cases vs with
      | nil => have := r.length; simp at this
      | cons v vs =>
        rw [bindTs] at e
        cases e1 : bindT t d E with
        | none => rw [e1] at e; cases e
        | some E1 =>
          rw [e1] at e
          have e : bindTs ts ds E1 = some E' := e
          obtain ⟨r1, r2⟩ := r.uncons
          have hlen : vs.length = ts.length := by
            have h1 := r2.length
            have h2 := bindTs_len e
            rw [h1, ← h2]
          refine ⟨by simp [hlen], ?_⟩
          rw [tgT.tgTs]
          refine ⟨v, vs, rfl, tgt_ok t d v σ E E1 H _ g r1 e1 fun σ1 g1 l1 s1 => ?_⟩
          exact (tgts_ok ts ds vs σ1 E1 E' H Q g1 (r2.lnk g l1) e fun σ2 g2 l2 s2 => q σ2 g2 (l1.trans l2)
            ((s1.mono fun i h => by rw [Tgt.sts]; exact List.mem_append_left _ h).trans (s2.mono fun i h => by rw [Tgt.sts]; exact List.mem_append_right _ h))).2
theorem bindTs_len : ∀ {ts : List Tgt} {ds : List D} {E E' : SE}, bindTs ts ds E = some E' → ts.length = ds.length
  | [], [], _, _, _ => rfl
  | t :: ts, [], E, _, h => by simp [bindTs] at h
  | [], d :: ds, E, _, h => by simp [bindTs] at h
  | t :: ts, d :: ds, E, E', h => by
    rw [bindTs] at h
    cases e1 : bindT t d E with
    | none => rw [e1] at h; cases h
    | some E1 =>
      rw [e1] at h
      have h : bindTs ts ds E1 = some E' := h
      simp [bindTs_len h]
end
end
end Lw
end

section
set_option Elab.async false
set_option linter.all false
set_option maxRecDepth 100000
set_option maxHeartbeats 4000000
/-! L11: list comprehensions -/
namespace Lw
open PySem L2
section
variable {K : PySem.W.Frag} {mg : Str → Option Value} {W : WX} {P P' P1 P2 : Addr → Prop} {H H' H1 H0 H2 : Hp} {σ σ' σ1 : St} {E E' E1 E0 : SE}
theorem wipeE_len (E : SE) : ∀ own, (wipeE E own).length = E.length
  | [] => rfl
  | i :: r => by simp [wipeE, wipeE_len E r]
theorem wipeE_at (E : SE) (j : Nat) : ∀ own : List Nat, (wipeE E own)[j]? = if j ∈ own then (if j < E.length then some .no else none) else E[j]?
  | [] => by simp [wipeE]
  | i :: r => by
    rw [wipeE, getE_set, wipeE_at E j r, wipeE_len]
    by_cases h : i = j
    · subst h; simp
    · have h' : j ≠ i := fun e => h e.symm
      simp [h, h']
theorem backE_len (E0 E : SE) : ∀ own, (backE E0 E own).length = E.length
  | [] => rfl
  | i :: r => by simp [backE, backE_len E0 E r]
theorem backE_at (E0 E : SE) (j : Nat) : ∀ own : List Nat, (backE E0 E own)[j]? = if j ∈ own then (if j < E.length then some (E0.getD j .no) else none) else E[j]?
  | [] => by simp [backE]
  | i :: r => by
    rw [backE, getE_set, backE_at E0 E j r, backE_len]
    by_cases h : i = j
    · subst h; simp
    · have h' : j ≠ i := fun e => h e.symm
      simp [h, h']
theorem wipe_at (σ : St) (j : Nat) : ∀ vs : List Nat, (wipe σ vs)[j]? = if j ∈ vs then (if j < σ.length then some none else none) else σ[j]?
  | [] => by simp [wipe]
  | i :: r => by
    rw [wipe]
    by_cases h : i = j
    · subst h
      by_cases hl : i < σ.length
      · rw [List.getElem?_set_self (by rw [wipe_length]; exact hl)]; simp [hl]
      · rw [List.getElem?_eq_none (by rw [List.length_set, wipe_length]; omega)]; simp [hl]
    · have h' : j ≠ i := fun e => h e.symm
      rw [List.getElem?_set_ne h, wipe_at σ j r]
      simp [h']
theorem wipe_eq {σ σ2 : St} {vs st : List Nat} (s : Same st (wipe σ vs) σ2) (h : ∀ i ∈ st, i ∈ vs) : wipe σ2 vs = wipe σ vs := by
  apply List.ext_getElem?
  intro j
  rw [wipe_at, wipe_at, s.1, wipe_length]
  by_cases hj : j ∈ vs
  · simp [hj]
  · simp only [hj, if_false]
    rw [s.2 j (fun q => hj (h j q)), wipe_at]
    simp [hj]
theorem own_wipe {own : List Nat} {a : Addr} (h : OwnS (wipe σ own) (wipeE E own) a) : OwnS σ E a := by
  obtain ⟨j, d, e1, e2⟩ := h
  rw [wipeE_at] at e1
  rw [wipe_at] at e2
  by_cases hj : j ∈ own
  · simp only [hj, if_true] at e1
    split at e1 <;> cases e1
  · simp only [hj, if_false] at e1 e2
    exact ⟨j, d, e1, e2⟩
theorem Good.wipe (g : Good K P H σ E) (own : List Nat) : Good K P H (wipe σ own) (wipeE E own) where
  len := by rw [wipe_length, wipeE_len]; exact g.len
  dom := g.dom
  val := fun j d e => by
    rw [wipeE_at] at e
    rw [wipe_at]
    by_cases hj : j ∈ own
    · simp only [hj, if_true] at e
      split at e <;> cases e
    · simp only [hj, if_false] at e ⊢
      obtain ⟨v, e1, r⟩ := g.val j d e
      exact ⟨v, e1, r.mono fun a z => ⟨z.1, fun q => z.2 (own_wipe q)⟩⟩
  own := fun j d e => by
    rw [wipeE_at] at e
    rw [wipe_at]
    by_cases hj : j ∈ own
    · simp only [hj, if_true] at e
      split at e <;> cases e
    · simp only [hj, if_false] at e ⊢
      obtain ⟨v, e1, r⟩ := g.own j d e
      exact ⟨v, e1, r.monoD fun a _ _ z => ⟨z.1, fun q => z.2 (own_wipe q)⟩⟩
  dis := fun a q => g.dis a (own_wipe q)
  inj := fun i j d d' a e1 e2 e3 e4 => by
    rw [wipeE_at] at e1 e2
    rw [wipe_at] at e3 e4
    by_cases hi : i ∈ own
    · simp only [hi, if_true] at e1
      split at e1 <;> cases e1
    · by_cases hj : j ∈ own
      · simp only [hj, if_true] at e2
        split at e2 <;> cases e2
      · simp only [hi, hj, if_false] at e1 e2 e3 e4
        exact g.inj i j d d' a e1 e2 e3 e4
theorem Lnk.wipe {own : List Nat} : Lnk P σ E H P (L2.wipe σ own) (wipeE E own) H := ⟨fun _ _ e _ => e, fun a h => .inl (own_wipe h), fun _ h => .inl h⟩
/-- a protected object is changed -/
theorem kp_updP {a : Addr} {o : HO} {T : Addr → Prop} (ha : ¬ T a) (hm : ∀ u, H a = some u → Mu u) : Kp T H (upd H a o) := fun b u e h => by
  by_cases hb : b = a
  · subst hb
    rcases h with h | h
    · exact absurd h ha
    · exact absurd (hm u e) h
  · rw [upd_ne hb]; exact e
theorem Good.updP (g : Good K P H σ E) {a : Addr} {o : HO} (ha : P a) (hm : ∀ u, H a = some u → Mu u) : Good K P (upd H a o) σ E where
  len := g.len
  dom := fun b p => by
    by_cases hb : b = a
    · subst hb; exact ⟨o, upd_same⟩
    · rw [upd_ne hb]; exact g.dom b p
  val := fun j d e => let ⟨v, e1, r⟩ := g.val j d e; ⟨v, e1, r.keep (kp_updP (fun z => z.1 ha) hm)⟩
  own := fun j d e => let ⟨v, e1, r⟩ := g.own j d e; ⟨v, e1, r.keep (kp_updP (fun z => z.elim (fun z => z.1 ha) fun z => g.dis v ⟨j, d, e, e1⟩ (z ▸ ha)) hm)⟩
  dis := g.dis
  inj := g.inj
theorem Lnk.updN (l : Lnk P σ E H P' σ' E' H') {a : Addr} {o : HO} (ha : H a = Option.none) : Lnk P σ E H P' σ' E' (upd H' a o) :=
  ⟨fun b u e n => by rw [upd_ne (ne_of_none e ha)]; exact l.keep b u e n, l.new, l.pr⟩
/-- the slots of a comprehension's own are put back -/
theorem Good.back {own : List Nat} (g1 : Good K P1 H1 σ E1) (hno : notOwn E1 own = true) (hp : ∀ a, P1 a → P2 a) (g : Good K P2 H (L2.wipe σ own) E) (l : Lnk P1 (L2.wipe σ own) (wipeE E1 own) H1 P2 (L2.wipe σ own) E H) :
    Good K P2 H σ (backE E1 E own) ∧ ∀ a, OwnS σ (backE E1 E own) a → OwnS (L2.wipe σ own) E a := by
  have hlen : E.length = E1.length := by rw [← g.len, wipe_length, g1.len]
  have at1 : ∀ {j : Nat}, j ∈ own → ∀ {s : Sl}, (backE E1 E own)[j]? = some s → E1[j]? = some s ∧ ∀ d, s ≠ .own d := fun {j} hj {s} e => by
    rw [backE_at] at e
    simp only [hj, if_true] at e
    split at e
    · rename_i hl
      cases e
      have e1 : E1[j]? = some (E1.getD j .no) := by
        rw [List.getD_eq_getElem?_getD, List.getElem?_eq_getElem (by omega)]; rfl
      refine ⟨e1, fun d q => ?_⟩
      have := List.all_eq_true.mp hno j hj
      rw [e1, q] at this
      cases this
    · cases e
  have at2 : ∀ {j : Nat}, j ∉ own → (backE E1 E own)[j]? = E[j]? := fun {j} hj => by rw [backE_at]; simp [hj]
  have sub : ∀ a, OwnS σ (backE E1 E own) a → OwnS (L2.wipe σ own) E a := fun a ⟨j, d, e1, e2⟩ => by
    by_cases hj : j ∈ own
    · exact absurd rfl ((at1 hj e1).2 d)
    · rw [at2 hj] at e1
      exact ⟨j, d, e1, by rw [wipe_at]; simpa [hj] using e2⟩
  have fz : ∀ a, Fz P2 (L2.wipe σ own) E a → Fz P2 σ (backE E1 E own) a := fun a z => ⟨z.1, fun q => z.2 (sub a q)⟩
  refine ⟨⟨by rw [backE_len, ← g.len, wipe_length], g.dom, fun j d e => ?_, fun j d e => ?_, fun a q => g.dis a (sub a q), fun i j d d' a e1 e2 e3 e4 => ?_⟩, sub⟩
  · by_cases hj : j ∈ own
    · obtain ⟨v, e1, r⟩ := g1.val j d (at1 hj e).1
      have r' : RepB K H1 (Fz P1 (L2.wipe σ own) (wipeE E1 own)) v d := r.mono fun a z => ⟨z.1, fun q => z.2 (own_wipe q)⟩
      exact ⟨v, e1, (r'.lnk (g1.wipe own) l).mono fz⟩
    · rw [at2 hj] at e
      obtain ⟨v, e1, r⟩ := g.val j d e
      rw [wipe_at] at e1
      simp only [hj, if_false] at e1
      exact ⟨v, e1, r.mono fz⟩
  · by_cases hj : j ∈ own
    · exact absurd rfl ((at1 hj e).2 d)
    · rw [at2 hj] at e
      obtain ⟨v, e1, r⟩ := g.own j d e
      rw [wipe_at] at e1
      simp only [hj, if_false] at e1
      exact ⟨v, e1, r.monoD fun b _ _ z => fz b z⟩
  · by_cases hi : i ∈ own
    · exact absurd rfl ((at1 hi e1).2 d)
    · by_cases hj : j ∈ own
      · exact absurd rfl ((at1 hj e2).2 d')
      · rw [at2 hi] at e1
        rw [at2 hj] at e2
        exact g.inj i j d d' a e1 e2 (by rw [wipe_at]; simpa [hi] using e3) (by rw [wipe_at]; simpa [hj] using e4)
abbrev W0 : WX := fun _ _ _ _ => False
/-- a comprehension -/
theorem lc_sound {fI : M (List D)} {tg : Tgt} {tests : List (M Bool)} {elt : M Sl} {own : List Nat} {tt : TT} (hst : ∀ i ∈ tg.st, i ∈ own) (htt : ∀ σ H Q, TTof K mg W0 (lcI.allT tests) σ H Q → tt σ H Q) :
    ∀ σ H Q, TEof K mg W (M.bind fI fun ds => fun E => if notOwn E own then
      (match lcI (bindT tg) tests elt own ds [] (wipeE E own) with
      | .ok acc E1 => .ok (.own (.lst acc)) (backE E E1 own)
      | _ => .bad) else .bad) σ H Q → tLc (TIof K mg W fI) (tgT K tg) tt (TEof K mg W0 elt) own σ H Q := by
  intro σ H Q ⟨P, E, g, h⟩
  refine ⟨P, E, g, ?_⟩
  rw [mbind] at h
  cases eI : fI E with
  | bad => rw [eI] at h; exact h.elim
  | exc Cn x E1 => rw [eI] at h; exact h
  | ok ds E1 =>
    rw [eI, bind_ok] at h
    split at h
    case isFalse => exact h.elim
    rename_i hno
    intro J H1 P1 hp g1 l1 wk D hD
    split at h
    case h_2 => exact h.elim
    rename_i accF E2 eL
    have PD : ∀ b, P1 b → b ≠ D := fun b p e => by
      obtain ⟨o, q⟩ := g1.dom b p
      rw [e, hD] at q; cases q
    have gw := g1.wipe own
    refine ⟨fun i m Hi => m = ds.length - i ∧ i ≤ ds.length ∧ ∃ Ei accV accD, Good K (fun b => P1 b ∨ b = D) Hi (wipe σ own) Ei ∧ Lnk P1 (wipe σ own) (wipeE E1 own) H1 (fun b => P1 b ∨ b = D) (wipe σ own) Ei Hi ∧
      Hi D = some (.lst accV) ∧ RepsB K Hi (Fz (fun b => P1 b ∨ b = D) (wipe σ own) Ei) accV accD ∧ lcI (bindT tg) tests elt own (ds.drop i) accD Ei = .ok accF E2, ⟨ds.length, by simp, Nat.zero_le _, wipeE E1 own, [], [], ?_, ?_, upd_same, .nil, by simpa using eL⟩, ?_⟩
    · exact gw.fresh hD (ext_upd hD) upd_same
    · exact ⟨fun a o e _ => ext_upd hD a o e, fun a h => .inl h, fun a h => h.elim .inl fun z => .inr (.inr (by rw [z]; exact hD))⟩
    · rintro i m Hi ⟨rfl, hi, Ei, accV, accD, gi, li, hDi, ri, ei⟩
      have kp : Kp (fun a => P1 a ∨ Fz P1 σ E1 a) H1 Hi := fun a o e z => gw.kp li a o e (z.imp (fun z q => z.elim (fun z => g1.dis a (own_wipe q) z) fun z => z.2 (own_wipe q)) id)
      obtain ⟨wstop, wgo⟩ := wk Hi kp
      by_cases hlt : i < ds.length
      · -- a turn
        right
        have ed : ds[i]? = some ds[i] := by simp [hlt]
        obtain ⟨go, yld⟩ := wgo i ds[i] ed
        rw [List.drop_eq_getElem_cons hlt] at ei
        rw [lcI] at ei
        dsimp only at ei
        cases eb : bindT tg ds[i] (wipeE Ei own) with
        | none => rw [eb] at ei; cases ei
        | some Eb =>
        rw [eb] at ei
        obtain ⟨b, Et, eT, ei⟩ := R.bind_ok (f := fun (b : Bool) => fun E2 =>
          if b then (elt E2).bind fun s => fun E3 => if accD.length < sizeLine then lcI (bindT tg) tests elt own (ds.drop (i + 1)) (accD ++ [s.d]) (wipeE E3 own) else .bad
          else lcI (bindT tg) tests elt own (ds.drop (i + 1)) accD (wipeE E2 own)) ei
        refine ⟨go, fun H' => ds.length - (i + 1) = ds.length - (i + 1) ∧ i + 1 ≤ ds.length ∧ ∃ Ei accV accD, Good K (fun b => P1 b ∨ b = D) H' (wipe σ own) Ei ∧ Lnk P1 (wipe σ own) (wipeE E1 own) H1 (fun b => P1 b ∨ b = D) (wipe σ own) Ei H' ∧
          H' D = some (.lst accV) ∧ RepsB K H' (Fz (fun b => P1 b ∨ b = D) (wipe σ own) Ei) accV accD ∧ lcI (bindT tg) tests elt own (ds.drop (i + 1)) accD Ei = .ok accF E2, fun H' q => ⟨ds.length - (i + 1), by omega, q⟩, fun x H3 y => ?_⟩
        obtain ⟨ext3, rx⟩ := yld x H3 y
        have g3 := (gi.ext ext3).wipe own
        have ww : wipe (wipe σ own) own = wipe σ own := wipe_eq (σ := σ) (st := []) Same.refl (fun _ z => nomatch z)
        rw [ww] at g3
        have l3 : Lnk P1 (wipe σ own) (wipeE E1 own) H1 (fun b => P1 b ∨ b = D) (wipe σ own) (wipeE Ei own) H3 := by
          have := (li.trans (Lnk.ext ext3)).trans (Lnk.wipe (own := own))
          rwa [ww] at this
        have rx' : RepB K H3 (Fz (fun b => P1 b ∨ b = D) (wipe σ own) (wipeE Ei own)) x ds[i] := rx.mono fun b ⟨z, o, e⟩ => l3.fz (a := b) e ⟨z.1, fun q => z.2 (own_wipe q)⟩
        refine tgt_ok tg ds[i] x _ _ Eb H3 _ g3 rx' eb fun σ2 g4 l4 s4 => ⟨wipe_eq s4 hst, htt σ2 H3 _ ⟨_, Eb, g4, ?_⟩⟩
        rw [eT]
        intro H5 g5 l5
        have l5' := (l3.trans l4).trans l5
        have ri5 : RepsB K H5 (Fz (fun b => P1 b ∨ b = D) σ2 Et) accV accD := by
          have r3 : RepsB K H3 (Fz (fun b => P1 b ∨ b = D) (wipe σ own) Ei) accV accD := ri.keep (Kp.of ext3)
          have r3' : RepsB K H3 (Fz (fun b => P1 b ∨ b = D) (wipe σ own) (wipeE Ei own)) accV accD := by
            have := r3.mono (T' := Fz (fun b => P1 b ∨ b = D) (wipe (wipe σ own) own) (wipeE Ei own)) fun b z => ⟨z.1, fun q => z.2 (own_wipe q)⟩
            rwa [ww] at this
          exact (r3'.lnk g3 l4).lnk g4 l5
        have hD5 : H5 D = some (.lst accV) := by
          have h3 := ext3 D _ hDi
          have h4 := l4.keep D _ h3 fun q => g3.dis D q (.inr rfl)
          exact l5.keep D _ h4 fun q => g4.dis D q (.inr rfl)
        have mD : ∀ {Hz : Hp} {u}, Hz D = some (.lst accV) → Hz D = some u → Mu u := fun {Hz u} e e' => by rw [e] at e'; cases e'; trivial
        cases b with
        | false =>
          simp only [Bool.false_eq_true, if_false] at ei ⊢
          refine ⟨trivial, hlt, wipeE Et own, accV, accD, ?_, ?_, hD5, ?_, ei⟩
          · have := g5.wipe own
            rwa [wipe_eq s4 hst] at this
          · have := l5'.trans (Lnk.wipe (own := own))
            rwa [wipe_eq s4 hst] at this
          · have := ri5.mono (T' := Fz (fun b => P1 b ∨ b = D) (wipe σ2 own) (wipeE Et own)) fun b z => ⟨z.1, fun q => z.2 (own_wipe q)⟩
            rwa [wipe_eq s4 hst] at this
        | true =>
          simp only [if_true] at ei ⊢
          obtain ⟨s, Es, eS, ei⟩ := R.bind_ok (f := fun (s : Sl) => fun E3 => if accD.length < sizeLine then lcI (bindT tg) tests elt own (ds.drop (i + 1)) (accD ++ [s.d]) (wipeE E3 own) else .bad) ei
          split at ei
          case isFalse => cases ei
          rename_i hsz
          refine ⟨_, Et, g5, ?_⟩
          rw [eS]
          intro v H6 g6 l6 r6 n6
          have g6' : Good K (fun b => P1 b ∨ b = D) H6 σ2 Es := g6.less fun a z => .inl z
          have l6' : Lnk (fun b => P1 b ∨ b = D) σ2 Et H5 (fun b => P1 b ∨ b = D) σ2 Es H6 := l6.less fun a z => .inl z
          have hD6 : H6 D = some (.lst accV) := l6.keep D _ hD5 fun q => g5.dis D q (.inr rfl)
          have kD : ∀ {vs : List V} {xs : List Lw.D}, RepsB K H6 (Fz (fun b => P1 b ∨ b = D) σ2 Es) vs xs → ∀ o, RepsB K (upd H6 D o) (Fz (fun b => P1 b ∨ b = D) σ2 Es) vs xs := fun r o => r.keep (kp_updP (fun z => z.1 (.inr rfl)) fun u e => mD hD6 e)
          refine ⟨accV, hD6, by rw [ri.length]; exact hsz, trivial, hlt, wipeE Es own, accV ++ [v], accD ++ [s.d], ?_, ?_, upd_same, ?_, ei⟩
          · have := (g6'.updP (a := D) (o := .lst (accV ++ [v])) (.inr rfl) fun u e => mD hD6 e).wipe own
            rwa [wipe_eq s4 hst] at this
          · have := ((l5'.trans l6').updN (o := .lst (accV ++ [v])) hD).trans (Lnk.wipe (own := own))
            rwa [wipe_eq s4 hst] at this
          · have r7 := ((ri5.lnk g5 l6').append (.cons (r6.frz0 g6 n6) .nil) : RepsB K H6 (Fz (fun b => P1 b ∨ b = D) σ2 Es) (accV ++ [v]) (accD ++ [s.d]))
            have := (kD r7 (.lst (accV ++ [v]))).mono (T' := Fz (fun b => P1 b ∨ b = D) (wipe σ2 own) (wipeE Es own)) fun b z => ⟨z.1, fun q => z.2 (own_wipe q)⟩
            rwa [wipe_eq s4 hst] at this
      · -- the end
        left
        have en : i = ds.length := by omega
        subst en
        refine ⟨wstop _ (Nat.le_refl _), ?_⟩
        rw [List.drop_length] at ei
        have ei : R.ok accD Ei = R.ok accF E2 := ei
        cases ei
        obtain ⟨gb, sub⟩ := g1.back hno (fun a z => .inl z) gi li
        have hh : ∀ b, HeldBy (.ref D) (.own (.lst accF)) b → b = D := fun b z => by
          have z' : V.ref D = .ref b := z
          cases z'; rfl
        have less : ∀ b, Pl P (.ref D) (.own (.lst accF)) b → (P1 b ∨ b = D) := fun b z => z.imp (hp b) (hh b)
        refine h (.ref D) Hi (gb.less less) ?_ ⟨D, rfl, ?_⟩ fun b z p => ?_
        · refine ((l1.trans (Lnk.wipe (own := own))).trans (li.trans ⟨fun a o e _ => e, fun a q => .inl (sub a q), fun a q => .inl q⟩)).less less
        · exact OwnB.lst hDi (ri.mono fun b z => ⟨fun q => z.1 (less b q), fun q => z.2 (sub b q)⟩)
        · exact PD b (hp b p) (hh b z)
end
end Lw
end

section
set_option Elab.async false
set_option linter.all false
set_option maxRecDepth 100000
set_option maxHeartbeats 4000000
/-! L12: statements -/
namespace Lw
open PySem L2
section
variable (K : PySem.W.Frag) (mg : Str → Option Value) (W : WX) (st : List Nat)
/-- what is wanted of a statement's end; the slots outside st keep their values -/
def PostS (P : Addr → Prop) (σ : L2.St) (E : SE) (H : Hp) (D : Ends) : SR → Prop
  | .nx E' => ∀ σ' H', Good K P H' σ' E' → Lnk P σ E H P σ' E' H' → Same st σ σ' → D.nx σ' H'
  | .bk E' => ∀ σ' H', Good K P H' σ' E' → Lnk P σ E H P σ' E' H' → Same st σ σ' → D.bk σ' H'
  | .ct E' => ∀ σ' H', Good K P H' σ' E' → Lnk P σ E H P σ' E' H' → Same st σ σ' → D.ct σ' H'
  | .rt s E' => ∀ v σ' H', Good K (Pl P v s) H' σ' E' → Lnk P σ E H (Pl P v s) σ' E' H' → Same st σ σ' → ResR K (Pl P v s) σ' E' H' v s → (∀ a, HeldBy v s a → ¬ P a) → D.rt v H'
  | .exc C x E' => ∀ σ' H' cls d, Good K P H' σ' E' → Lnk P σ E H P σ' E' H' → Same st σ σ' → ExcR K mg (Fz P σ' E') H' C x cls d → W cls d σ' H'
  | .bad => False
def TSof (f : SE → SR) : TS := fun D σ H => ∃ P E, Good K P H σ E ∧ PostS K mg W st P σ E H D (f E)
end
section
variable {K : PySem.W.Frag} {mg : Str → Option Value} {W : WX} {st : List Nat} {P P' P1 P2 : Addr → Prop} {H H' H1 H0 H2 : Hp} {σ σ' σ1 : L2.St} {E E' E1 E0 : SE} {D : Ends}
/-- a later start -/
theorem PostS.step {r : SR} (h : PostS K mg W st P σ E H D r) (l : Lnk P σ E H P1 σ1 E1 H1) (s : Same st σ σ1) (hp : ∀ a, P a → P1 a) : PostS K mg W st P1 σ1 E1 H1 D r := by
  cases r with
  | nx E' => exact fun σ' H' g l' s' => h σ' H' (g.less hp) ((l.trans l').less hp) (s.trans s')
  | bk E' => exact fun σ' H' g l' s' => h σ' H' (g.less hp) ((l.trans l').less hp) (s.trans s')
  | ct E' => exact fun σ' H' g l' s' => h σ' H' (g.less hp) ((l.trans l').less hp) (s.trans s')
  | rt v E' =>
    have hq : ∀ {w} a, Pl P w v a → Pl P1 w v a := fun a z => z.imp (hp a) id
    refine fun w σ' H' g l' s' r n => h w σ' H' (g.less hq) ((l.trans l').less hq) (s.trans s') ?_ fun a z q => n a z (hp a q)
    cases v with
    | no => exact r
    | val d => exact RepB.mono r fun a z => ⟨fun q => z.1 (hq a q), z.2⟩
    | own d =>
      obtain ⟨a, e, r⟩ := r
      exact ⟨a, e, r.monoD fun b _ _ z => ⟨fun q => z.1 (hq b q), z.2⟩⟩
  | exc C x E' => exact fun σ' H' cls d g l' s' x => h σ' H' cls d (g.less hp) ((l.trans l').less hp) (s.trans s') (x.less fun a z => ⟨fun q => z.1 (hp a q), z.2⟩)
  | bad => exact h
theorem PostS.step0 {r : SR} (h : PostS K mg W st P σ E H D r) (l : Lnk P σ E H P σ1 E1 H1) (s : Same st σ σ1) : PostS K mg W st P σ1 E1 H1 D r := h.step l s fun _ z => z
/-! ### blocks -/
theorem ss_nil {σ : L2.St} {H : Hp} (h : TSof K mg W st .nx D σ H) : tNext D σ H := by
  obtain ⟨P, E, g, h⟩ := h
  exact h σ H g Lnk.refl Same.refl
theorem ss_seq {f g : SE → SR} (h : TSof K mg W st (fun E => (f E).then g) D σ H) : tSeq (TSof K mg W st f) (TSof K mg W st g) D σ H := by
  obtain ⟨P, E, gd, h⟩ := h
  dsimp only at h
  refine ⟨P, E, gd, ?_⟩
  cases e : f E with
  | nx E1 =>
    rw [e] at h
    exact fun σ1 H1 g1 l1 s1 => ⟨P, E1, g1, PostS.step0 h l1 s1⟩
  | _ => rw [e] at h; exact h
theorem ss_bk {σ : L2.St} {H : Hp} (h : TSof K mg W st .bk D σ H) : tBreak D σ H := let ⟨_, _, g, h⟩ := h; h σ H g Lnk.refl Same.refl
theorem ss_ct {σ : L2.St} {H : Hp} (h : TSof K mg W st .ct D σ H) : tCont D σ H := let ⟨_, _, g, h⟩ := h; h σ H g Lnk.refl Same.refl
theorem ss_retN {σ : L2.St} {H : Hp} (h : TSof K mg W st (fun E => .rt (.val .non) E) D σ H) : tRetN D σ H := by
  obtain ⟨P, E, g, h⟩ := h
  exact h .non σ H (g.less fun a z => z.elim id False.elim) (Lnk.refl.less fun a z => z.elim id False.elim) Same.refl RepB.non fun a z => z.elim
theorem ss_bad {t : TS} (h : TSof K mg W st (fun _ => .bad) D σ H) : t D σ H := let ⟨_, _, _, h⟩ := h; h.elim
/-- the parts of a statement that end in an expression's value -/
theorem of_post {α : Type} {r : R α} {k : α → SE → SR} {C : Str} {x : Lw.D} {E1 : SE} (e : r = .exc C x E1) (h : PostS K mg W st P σ E H D (.of r k)) :
    ∀ H' cls d, Good K P H' σ E1 → Lnk P σ E H P σ E1 H' → ExcR K mg (Fz P σ E1) H' C x cls d → W cls d σ H' := by
  subst e
  exact fun H' cls d g l x => h σ H' cls d g l Same.refl x
theorem ss_drop {f : M Sl} (h : TSof K mg W st (fun E => .of (f E) fun _ => .nx) D σ H) : tDrop (TEof K mg W f) D σ H := by
  obtain ⟨P, E, g, h⟩ := h
  dsimp only at h
  refine ⟨P, E, g, ?_⟩
  cases e : f E with
  | bad => rw [e] at h; exact h
  | exc C x E1 => exact of_post e h
  | ok s E1 =>
    rw [e] at h
    exact fun v H1 g1 l1 r1 n1 => h σ H1 (g1.less fun a z => .inl z) (l1.less fun a z => .inl z) Same.refl
theorem ss_ret {f : M Sl} (h : TSof K mg W st (fun E => .of (f E) .rt) D σ H) : tRet (TEof K mg W f) D σ H := by
  obtain ⟨P, E, g, h⟩ := h
  dsimp only at h
  refine ⟨P, E, g, ?_⟩
  cases e : f E with
  | bad => rw [e] at h; exact h
  | exc C x E1 => exact of_post e h
  | ok s E1 =>
    rw [e] at h
    exact fun v H1 g1 l1 r1 n1 => h v σ H1 g1 l1 Same.refl r1 n1
theorem ss_if {c : M Bool} {f g : SE → SR} (h : TSof K mg W st (fun E => .of (c E) fun k => if k then f else g) D σ H) : tIfS (TTof K mg W c) (TSof K mg W st f) (TSof K mg W st g) D σ H := by
  obtain ⟨P, E, gd, h⟩ := h
  dsimp only at h
  refine ⟨P, E, gd, ?_⟩
  cases e : c E with
  | bad => rw [e] at h; exact h
  | exc C x E1 => exact of_post e h
  | ok k E1 =>
    rw [e] at h
    intro H1 g1 l1
    cases k with
    | true => exact ⟨P, E1, g1, PostS.step0 h l1 Same.refl⟩
    | false => exact ⟨P, E1, g1, PostS.step0 h l1 Same.refl⟩
theorem putS_eq {i : Nat} {s : Sl} {E : SE} (h : s ≠ .no) : putS i s E = if i < E.length then .nx (E.set i s) else .bad := by
  cases s with
  | no => exact absurd rfl h
  | val d => rfl
  | own d => rfl
theorem Lnk.put2 {v : V} {s : Sl} {i : Nat} (l : Lnk P1 σ1 E1 H1 (Pl P v s) σ E H) (hn : ∀ a, HeldBy v s a → ¬ P1 a) : Lnk P1 σ1 E1 H1 P (σ.set i (some v)) (E.set i s) H :=
  ⟨l.keep, fun a z => (own_set z).elim (l.new a) fun z => (l.pr a (.inr z)).elim (fun p => absurd p (hn a z)) id, fun a z => l.pr a (.inl z)⟩
/-- what a slot takes -/
theorem put_ok {i : Nat} {s : Sl} {v : V} (hi : i ∈ st) (g1 : Good K (Pl P v s) H1 σ E1) (l1 : Lnk P σ E H (Pl P v s) σ E1 H1) (r1 : ResR K (Pl P v s) σ E1 H1 v s) (n1 : ∀ a, HeldBy v s a → ¬ P a) (h : PostS K mg W st P σ E H D (putS i s E1)) : D.nx (σ.set i (some v)) H1 := by
  have key : s ≠ .no → i < E1.length → PostS K mg W st P σ E H D (.nx (E1.set i s)) → D.nx (σ.set i (some v)) H1 := fun _ hl h =>
    h _ H1 (g1.put r1 n1 hl) (l1.put n1) (Same.set.mono fun j hj => by simp at hj; rw [hj]; exact hi)
  have hs : s ≠ .no := fun e => by subst e; exact r1
  rw [putS_eq hs] at h
  by_cases hl : i < E1.length
  · rw [if_pos hl] at h; exact key hs hl h
  · rw [if_neg hl] at h; exact h.elim
theorem ss_set {i : Nat} {f : M Sl} (hi : i ∈ st) (h : TSof K mg W st (fun E => .of (f E) fun s => putS i s) D σ H) : tAsg (TEof K mg W f) (gName i) D σ H := by
  obtain ⟨P, E, g, h⟩ := h
  dsimp only at h
  refine ⟨P, E, g, ?_⟩
  cases e : f E with
  | bad => rw [e] at h; exact h
  | exc C x E1 => exact of_post e h
  | ok s E1 =>
    rw [e] at h
    exact fun v H1 g1 l1 r1 n1 => put_ok hi g1 l1 r1 n1 h
theorem ss_setT {ts : List Tgt} {f : M Sl} (hi : ∀ i ∈ Tgt.sts ts, i ∈ st) (h : TSof K mg W st (fun E => .of (f E) fun s E1 => match s with
    | .val (.tup ds) => (match bindT (.tup ts) (.tup ds) E1 with
      | some E2 => .nx E2
      | none => .bad)
    | _ => .bad) D σ H) : tAsg (TEof K mg W f) (tgT K (.tup ts)) D σ H := by
  obtain ⟨P, E, g, h⟩ := h
  dsimp only at h
  refine ⟨P, E, g, ?_⟩
  cases e : f E with
  | bad => rw [e] at h; exact h
  | exc C x E1 => exact of_post e h
  | ok s E1 =>
    rw [e] at h
    intro v H1 g1 l1 r1 n1
    dsimp only [SR.of] at h
    split at h
    · rename_i ds
      split at h
      · rename_i E2 eb
        have g1' : Good K P H1 σ E1 := g1.less fun a z => .inl z
        have l1' : Lnk P σ E H P σ E1 H1 := l1.less fun a z => .inl z
        refine tgt_ok (.tup ts) (.tup ds) v σ E1 E2 H1 _ g1' (RepB.mono r1 fun a z => ⟨fun q => z.1 (.inl q), z.2⟩) eb fun σ2 g2 l2 s2 => ?_
        exact h σ2 H1 g2 (l1'.trans l2) (s2.mono fun j hj => hi j (by rwa [Tgt.st] at hj))
      · exact h.elim
    · exact h.elim
/-- .. several at once -/
def setAll : L2.St → List Nat → List V → L2.St
  | σ, i :: is, v :: vs => setAll (σ.set i (some v)) is vs
  | σ, _, _ => σ
theorem ResR.lnk2 {s : Sl} {v : V} (r : ResR K P σ E H v s) (g : Good K P H σ E) (l : Lnk P σ E H P' σ' E' H') (hn : ∀ a, HeldBy v s a → P a) : ResR K P' σ' E' H' v s := by
  cases s with
  | no => exact r
  | val d => exact RepB.lnk r g l
  | own d =>
    obtain ⟨a, rfl, r⟩ := r
    exact ⟨a, rfl, r.lnk g l fun q => g.dis a q (hn a rfl)⟩
theorem ResR.mono2 {s : Sl} {v : V} (r : ResR K P σ E H v s) (m : ∀ a, Fz P σ E a → Fz P' σ' E' a) : ResR K P' σ' E' H v s := by
  cases s with
  | no => exact r
  | val d => exact RepB.mono r m
  | own d =>
    obtain ⟨a, rfl, r⟩ := r
    exact ⟨a, rfl, r.monoD fun b _ _ z => m b z⟩
theorem putAll_ok : ∀ (is : List Nat) (ss : List Sl) (vs : List V) (σ1 : L2.St) (E1 : SE) (P1 : Addr → Prop), (∀ i ∈ is, i ∈ st) → (∀ a, P a → P1 a) → Good K P1 H1 σ1 E1 → Lnk P σ E H P1 σ1 E1 H1 → Same st σ σ1 → ArgsR K P P1 σ1 E1 H1 vs ss →
    PostS K mg W st P σ E H D (putAll is ss E1) → is.length = vs.length ∧ D.nx (setAll σ1 is vs) H1
  | [], [], vs, σ1, E1, P1, hi, hp, g1, l1, s1, ar, h => by
    have : vs = [] := List.eq_nil_of_length_eq_zero ar.len
    subst this
    exact ⟨rfl, h σ1 H1 (g1.less hp) (l1.less hp) s1⟩
  | i :: is, s :: ss, [], σ1, E1, P1, hi, hp, g1, l1, s1, ar, h => by have := ar.len; simp at this
  | i :: is, s :: ss, v :: vs, σ1, E1, P1, hi, hp, g1, l1, s1, ar, h => by
    have r0 := ar.res 0 v s rfl rfl
    have hh : ∀ a, HeldBy v s a → P1 a ∧ ¬ P a := fun a z => by
      cases s with
      | own d => exact ar.held 0 d a rfl (by rw [show v = .ref a from z]; rfl)
      | _ => exact z.elim
    have key : s ≠ .no → i < E1.length → PostS K mg W st P σ E H D (putAll is ss (E1.set i s)) → (i :: is).length = (v :: vs).length ∧ D.nx (setAll σ1 (i :: is) (v :: vs)) H1 := fun _ hl h => by
      have lp : ∀ a, Pl (fun a => P1 a ∧ ¬ HeldBy v s a) v s a → P1 a := fun a z => z.elim (·.1) fun z => (hh a z).1
      have g2 : Good K (Pl (fun a => P1 a ∧ ¬ HeldBy v s a) v s) H1 σ1 E1 := g1.less lp
      have r2 : ResR K (Pl (fun a => P1 a ∧ ¬ HeldBy v s a) v s) σ1 E1 H1 v s := r0.lnk2 g1 (Lnk.refl.less lp) fun a z => (hh a z).1
      have hn : ∀ a, HeldBy v s a → ¬ (P1 a ∧ ¬ HeldBy v s a) := fun a z q => q.2 z
      have g3 := g2.put r2 hn hl
      have l3 : Lnk P σ E H (fun a => P1 a ∧ ¬ HeldBy v s a) (σ1.set i (some v)) (E1.set i s) H1 := (l1.less lp).put2 fun a z => (hh a z).2
      have hi' : i ∈ st := hi i (by simp)
      have tl : ∀ (j : Nat) (d : Lw.D) (a : Addr), ss[j]? = some (.own d) → vs[j]? = some (.ref a) → P1 a ∧ ¬ P a ∧ ¬ HeldBy v s a := fun j d a e1 e2 => by
        have q := ar.held (j + 1) d a e1 e2
        refine ⟨q.1, q.2, fun z => ?_⟩
        cases s with
        | own d' =>
          have := ar.inj 0 (j + 1) d' d a rfl e1 (by rw [show v = .ref a from z]; rfl) e2
          cases this
        | _ => exact z.elim
      have := putAll_ok is ss vs (σ1.set i (some v)) (E1.set i s) (fun a => P1 a ∧ ¬ HeldBy v s a) (fun j hj => hi j (List.mem_cons_of_mem _ hj)) (fun a p => ⟨hp a p, fun z => (hh a z).2 p⟩) g3 l3 (s1.trans (Same.set.mono fun j hj => by simp at hj; rw [hj]; exact hi'))
        ⟨by have := ar.len; simpa using this, fun j w t e1 e2 => (ar.res (j + 1) w t e1 e2).mono2 fun a z => ⟨fun q => z.1 q.1, fun q => (own_set q).elim z.2 fun y => z.1 (hh a y).1⟩, fun j d a e1 e2 => let ⟨q1, q2, q3⟩ := tl j d a e1 e2; ⟨⟨q1, q3⟩, q2⟩, fun j k d d' a e1 e2 e3 e4 => by have := ar.inj (j + 1) (k + 1) d d' a e1 e2 e3 e4; omega⟩ h
      exact ⟨by simp [this.1], this.2⟩
    have hs : s ≠ .no := fun e => by subst e; exact r0
    rw [putAll, putS_eq hs] at h
    by_cases hl : i < E1.length
    · rw [if_pos hl] at h; exact key hs hl h
    · rw [if_neg hl] at h; exact h.elim
  | [], s :: ss, vs, σ1, E1, P1, hi, hp, g1, l1, s1, ar, h => by simp [putAll] at h; exact h.elim
  | i :: is, [], vs, σ1, E1, P1, hi, hp, g1, l1, s1, ar, h => by simp [putAll] at h; exact h.elim
def tParN (is : List Nat) (ta : TA) : TS := fun D σ H => ta σ H fun vs H1 => is.length = vs.length ∧ D.nx (setAll σ is vs) H1
theorem ss_par {is : List Nat} {as : List Arg} (hi : ∀ i ∈ is, i ∈ st) (h : TSof K mg W st (fun E => .of (evC as E) fun ss => putAll is ss) D σ H) : tParN is (tArgs K mg W as) D σ H := by
  obtain ⟨P, E, g, h⟩ := h
  dsimp only at h
  refine argsC as σ H _ P E g ?_
  cases e : evC as E with
  | bad => rw [e] at h; exact h
  | exc C x E1 => exact of_post e h
  | ok ss E1 =>
    rw [e] at h
    exact fun vs H1 P1 hp g1 l1 ar sa => putAll_ok is ss vs σ E1 P1 hi hp g1 l1 Same.refl ar h
theorem tPar_of {i j : Nat} {ta : TA} (hm : ∀ σ H Q Q', (∀ vs H1, Q vs H1 → Q' vs H1) → ta σ H Q → ta σ H Q') (h : tParN [i, j] ta D σ H) : tPar i j ta D σ H :=
  hm σ H _ _ (fun vs H1 ⟨hl, q⟩ => by
    match vs, hl, q with
    | [v, w], _, q => exact ⟨v, w, rfl, q⟩) h
end
end Lw
end

section
set_option Elab.async false
set_option linter.all false
set_option maxRecDepth 100000
set_option maxHeartbeats 4000000
/-! L13: statements that change objects; loops -/
namespace Lw
open PySem L2
section
variable {K : PySem.W.Frag} {mg : Str → Option Value} {W : WX} {st : List Nat} {P P' P1 P2 : Addr → Prop} {H H' H1 H0 H2 : Hp} {σ σ' σ1 : L2.St} {E E' E1 E0 : SE} {D : Ends}
/-- a held object is changed in place -/
theorem kp_fz {a : Addr} {o : HO} {d : Lw.D} {i : Nat} (e1 : E[i]? = some (.own d)) (e2 : σ[i]? = some (some (.ref a))) (hm : ∀ u, H a = some u → Mu u) : Kp (Fz P σ E) H (upd H a o) := kp_updP (fun z => z.2 ⟨i, d, e1, e2⟩) hm
theorem Good.upd (g : Good K P H σ E) {a : Addr} {o : HO} {d d' : Lw.D} {i : Nat} (e1 : E[i]? = some (.own d)) (e2 : σ[i]? = some (some (.ref a))) (hm : ∀ u, H a = some u → Mu u) (r : OwnB K (upd H a o) (Fz P σ E) a d') :
    Good K P (upd H a o) σ (E.set i (.own d')) ∧ ∀ b, OwnS σ (E.set i (.own d')) b → OwnS σ E b := by
  have hi : i < E.length := by
    rcases Nat.lt_or_ge i E.length with h | h
    · exact h
    · rw [List.getElem?_eq_none h] at e1; cases e1
  have gE : ∀ (j : Nat), (E.set i (.own d'))[j]? = if i = j then some (.own d') else E[j]? := fun j => by
    rw [getE_set]
    by_cases h : i = j
    · subst h; rw [if_pos rfl, if_pos rfl, if_pos hi]
    · rw [if_neg h, if_neg h]
  have sub : ∀ b, OwnS σ (E.set i (.own d')) b → OwnS σ E b := fun b ⟨j, x, q1, q2⟩ => by
    rw [gE] at q1
    by_cases h : i = j
    · subst h
      exact ⟨i, d, e1, q2⟩
    · rw [if_neg h] at q1; exact ⟨j, x, q1, q2⟩
  have fz : ∀ b, Fz P σ E b → Fz P σ (E.set i (.own d')) b := fun b z => ⟨z.1, fun q => z.2 (sub b q)⟩
  have k := kp_fz (P := P) (o := o) e1 e2 hm
  refine ⟨⟨by rw [List.length_set]; exact g.len, fun b p => ?_, fun j x e => ?_, fun j x e => ?_, fun b q => g.dis b (sub b q), fun j l x x' b q1 q2 q3 q4 => ?_⟩, sub⟩
  · by_cases hb : b = a
    · subst hb; exact ⟨o, upd_same⟩
    · rw [upd_ne hb]; exact g.dom b p
  · rw [gE] at e
    by_cases h : i = j
    · rw [if_pos h] at e; cases e
    · rw [if_neg h] at e
      obtain ⟨v, q, r⟩ := g.val j x e
      exact ⟨v, q, (r.keep k).mono fz⟩
  · rw [gE] at e
    by_cases h : i = j
    · subst h
      rw [if_pos rfl] at e
      cases e
      exact ⟨a, e2, r.monoD fun b _ _ z => fz b z⟩
    · rw [if_neg h] at e
      obtain ⟨b, q, r'⟩ := g.own j x e
      have hba : b ≠ a := fun z => h (g.inj i j d x a e1 e e2 (by rw [q, z]))
      refine ⟨b, q, (r'.keep fun c u ec hc => ?_).monoD fun b _ _ z => fz b z⟩
      rcases hc with (hc | hc) | hc
      · exact k c u ec (.inl hc)
      · rw [hc] at ec ⊢; rw [upd_ne hba]; exact ec
      · exact k c u ec (.inr hc)
  · rw [gE] at q1 q2
    by_cases h : i = j
    · by_cases h' : i = l
      · omega
      · rw [if_neg h'] at q2
        subst h
        exact g.inj i l d x' b e1 q2 q3 q4
    · rw [if_neg h] at q1
      by_cases h' : i = l
      · subst h'
        exact g.inj j i x d b q1 e1 q3 q4
      · rw [if_neg h'] at q2
        exact g.inj j l x x' b q1 q2 q3 q4
theorem Lnk.upd (l : Lnk P σ E H P1 σ1 E1 H1) {a : Addr} {o : HO} {E2 : SE} (ha : OwnS σ1 E1 a) (sub : ∀ b, OwnS σ1 E2 b → OwnS σ1 E1 b) : Lnk P σ E H P1 σ1 E2 (upd H1 a o) :=
  ⟨fun b u e n => by
    have hb : b ≠ a := fun z => by
      subst z
      rcases l.new b ha with q | q
      · exact n q
      · rw [e] at q; cases q
    rw [upd_ne hb]; exact l.keep b u e n, fun b q => l.new b (sub b q), l.pr⟩
theorem own_at {i : Nat} {d : Lw.D} (g : Good K P H σ E) (e : E[i]? = some (.own d)) : ∃ a, σ[i]? = some (some (.ref a)) ∧ OwnB K H (Fz P σ E) a d ∧ (∀ u, H a = some u → Mu u) := by
  obtain ⟨a, e2, r⟩ := g.own i d e
  refine ⟨a, e2, r, fun u eu => ?_⟩
  obtain ⟨u', eu', m⟩ := g.ownD ⟨i, d, e, e2⟩
  rw [eu] at eu'; cases eu'; exact m
theorem OwnB.lst_inv {a : Addr} {ds : List Lw.D} {T : Addr → Prop} (h : OwnB K H T a (.lst ds)) : ∃ vs, H a = some (.lst vs) ∧ RepsB K H T vs ds := by
  obtain ⟨S, h, hS⟩ := h
  cases h with
  | lst h1 h2 => exact ⟨_, h1, _, h2, hS⟩
theorem RepB.lst_inv {v : V} {ds : List Lw.D} {T : Addr → Prop} (h : RepB K H T v (.lst ds)) : ∃ b vs, v = .ref b ∧ H b = some (.lst vs) ∧ RepsB K H T vs ds ∧ T b := by
  obtain ⟨S, h, hS⟩ := h
  cases h with
  | lst h1 h2 => exact ⟨_, _, rfl, h1, ⟨_, h2, fun a ha => hS a (List.mem_cons_of_mem _ ha)⟩, hS _ List.mem_cons_self⟩
/-- l.append(x) and the like on a slot's list -/
def tMut (i : Nat) (r : V → List V → Hp → VK → Prop) (te : TE) : TE := tBM K "list" r (tVar i) (tCons te tNil)
theorem updS_of {i : Nat} {f : Lw.D → Option Lw.D} (h : PostS K mg W st P σ E H D (updS i f E1)) : ∃ d d', E1[i]? = some (.own d) ∧ f d = some d' ∧ PostS K mg W st P σ E H D (.nx (E1.set i (.own d'))) := by
  unfold updS at h
  split at h
  · rename_i d e
    split at h
    · rename_i d' e'
      exact ⟨d, d', e, e', h⟩
    · exact h.elim
  · exact h.elim
theorem isOwnL_at {i : Nat} (h : isOwnL E i = true) : ∃ ds, E[i]? = some (.own (.lst ds)) := by
  unfold isOwnL at h
  split at h
  · exact ⟨_, by assumption⟩
  · cases h
/-- a statement that changes a slot's list by a value -/
theorem ss_mut {i : Nat} {f : M Sl} {u : Sl → Lw.D → Option Lw.D} {r : V → List V → Hp → VK → Prop}
    (hu : ∀ (H : Hp) (σ : L2.St) (E : SE) (a : Addr) (vs : List V) (v : V) (s : Sl) (ds : List Lw.D) (d' : Lw.D), Good K P H σ E → E[i]? = some (.own (.lst ds)) → σ[i]? = some (some (.ref a)) → H a = some (.lst vs) → RepsB K H (Fz P σ E) vs ds → RepB K H (Fz P σ E) v s.d → u s (.lst ds) = some d' →
      ∃ ws es, d' = .lst es ∧ RepsB K H (Fz P σ E) ws es ∧ ∀ Q : VK, Q .non (upd H a (.lst ws)) → r (.ref a) [v] H Q)
    (hl : ∀ s d d', u s d = some d' → ∃ ds, d = .lst ds)
    (h : ∃ E, Good K P H σ E ∧ PostS K mg W st P σ E H D (if isOwnL E i then .of (f E) fun s => updS i (u s) else .bad)) : tDrop (tMut (K := K) i r (TEof K mg W f)) D σ H := by
  obtain ⟨E, g, h⟩ := h
  by_cases hi : isOwnL E i = true
  · rw [if_pos hi] at h
    obtain ⟨ds0, e0⟩ := isOwnL_at hi
    obtain ⟨a, e2, r0, _⟩ := own_at g e0
    obtain ⟨vs0, ha0, _⟩ := r0.lst_inv
    refine ⟨.ref a, e2, .inl ⟨rfl, vs0, .inl (.inl ha0)⟩, ?_⟩
    show TEof K mg W f σ H _
    refine ⟨P, E, g, ?_⟩
    cases e : f E with
    | bad => rw [e] at h; exact h
    | exc C x E1 => exact of_post e h
    | ok s E1 =>
      rw [e] at h
      intro v H1 g1 l1 r1 n1
      obtain ⟨d, d', e1, ed, h⟩ := updS_of h
      obtain ⟨ds, rfl⟩ := hl s d d' ed
      have g1' : Good K P H1 σ E1 := g1.less fun a z => .inl z
      have l1' : Lnk P σ E H P σ E1 H1 := l1.less fun a z => .inl z
      obtain ⟨b, e3, r3, hm⟩ := own_at g1' e1
      rw [e2] at e3; cases e3
      obtain ⟨vs, ha, rv⟩ := r3.lst_inv
      obtain ⟨ws, es, rfl, rw', q⟩ := hu H1 σ E1 a vs v s ds d' g1' e1 e2 ha rv (r1.frz0 g1 n1) ed
      refine q _ ?_
      obtain ⟨g2, sub⟩ := g1'.upd (o := .lst ws) (d' := .lst es) e1 e2 hm (OwnB.lst upd_same (rw'.keep (kp_fz e1 e2 hm)))
      exact h σ _ g2 (l1'.upd ⟨i, _, e1, e2⟩ sub) Same.refl
  · rw [if_neg hi] at h; exact h.elim
theorem ss_app {i : Nat} {f : M Sl} (h : TSof K mg W st (fun E => if isOwnL E i then .of (f E) fun s => updS i (appD s) else .bad) D σ H) : tDrop (tMut (K := K) i rAppend (TEof K mg W f)) D σ H := by
  obtain ⟨P, E, g, h⟩ := h
  refine ss_mut (P := P) (u := appD) (fun H σ E a vs v s ds d' g e1 e2 ha rv r1 ed => ?_) (fun s d d' ed => ?_) ⟨E, g, h⟩
  · simp only [appD] at ed
    split at ed
    · rename_i hz
      cases ed
      exact ⟨vs ++ [v], _, rfl, rv.append (.cons r1 .nil), fun Q q => ⟨a, vs, v, rfl, rfl, ha, by rw [rv.length]; exact hz, q⟩⟩
    · cases ed
  · cases d with
    | lst ds => exact ⟨ds, rfl⟩
    | _ => cases ed
theorem ss_ext {i : Nat} {f : M Sl} (h : TSof K mg W st (fun E => if isOwnL E i then .of (f E) fun s => updS i (extD s) else .bad) D σ H) : tDrop (tMut (K := K) i rExtend (TEof K mg W f)) D σ H := by
  obtain ⟨P, E, g, h⟩ := h
  refine ss_mut (P := P) (u := extD) (fun H σ E a vs v s ds d' g e1 e2 ha rv r1 ed => ?_) (fun s d d' ed => ?_) ⟨E, g, h⟩
  · simp only [extD] at ed
    split at ed
    · rename_i ys es
      rw [es] at r1
      split at ed
      · rename_i hz
        cases ed
        obtain ⟨b, zs, rfl, hb, rz, _⟩ := r1.lst_inv
        exact ⟨vs ++ zs, _, rfl, rv.append rz, fun Q q => ⟨a, b, vs, zs, rfl, rfl, ha, hb, by rw [rv.length, rz.length]; exact hz, q⟩⟩
      · cases ed
    · cases ed
  · cases d with
    | lst ds => exact ⟨ds, rfl⟩
    | _ => cases ed
/-- name op= e -/
theorem ss_aug {i : Nat} {f : M Sl} {o : Operator} {g : Int → Int → Int} (ho : ∀ d x s, augO o d x = some s → ∃ a b, d = .int a ∧ x = .int b ∧ s = vI (g a b)) (hi : i ∈ st) (h : TSof K mg W st (fun E => .of (evA [.slot i, .ex f] E) fun ds E1 => match ds with
    | [a, b] => (match augO o a b with
      | some s => putS i s E1
      | none => .bad)
    | _ => .bad) D σ H) : tAug i (TEof K mg W f) (ipI g) D σ H := by
  have := argsL (K := K) (mg := mg) (W := W) [.slot i, .ex f] σ H (fun vs H1 => ∃ a b, vs = [.int a, .int b] ∧ D.nx (σ.set i (some (.int (g a b)))) H1) ?_
  · obtain ⟨v, e1, h2⟩ := this
    refine ⟨v, e1, ?_⟩
    obtain ⟨P, E, gd, h2⟩ := (show TEof K mg W f σ H _ from h2)
    refine ⟨P, E, gd, ?_⟩
    cases e : f E with
    | bad => rw [e] at h2; exact h2
    | exc C x E1 => rw [e] at h2; exact h2
    | ok s E1 =>
      rw [e] at h2
      intro w H1 g1 l1 r1 n1
      obtain ⟨a, b, e3, q⟩ := h2 w H1 g1 l1 r1 n1
      cases e3
      exact ⟨a, b, rfl, rfl, q⟩
  · obtain ⟨P, E, gd, h⟩ := h
    dsimp only at h
    refine ⟨P, E, gd, ?_⟩
    cases e : evA [.slot i, .ex f] E with
    | bad => rw [e] at h; exact h
    | exc C x E1 => exact of_post e h
    | ok ds E1 =>
      rw [e] at h
      intro vs H1 P1 hp g1 l1 ts
      dsimp only [SR.of] at h
      split at h
      · rename_i x y
        split at h
        · rename_i s es
          obtain ⟨a, b, rfl, rfl, rfl⟩ := ho _ _ _ es
          have := ts.ints2
          subst this
          refine ⟨a, b, rfl, ?_⟩
          exact put_ok (s := vI (g a b)) hi (g1.less fun a z => z.elim (hp a) False.elim) (l1.less fun a z => z.elim (hp a) False.elim) (RepB.int _) (fun a z => z.elim) h
        · exact h.elim
      · exact h.elim
/-- l[k] = e -/
theorem ss_sidx {i : Nat} {f k : M Sl} (h : TSof K mg W st (fun E => if isOwnL E i then .of (evC [.ex f, .ex k] E) fun ss => (match ss with
    | [v, .val k] => updS i fun d => setD d k v.d
    | _ => fun _ => .bad) else .bad) D σ H) : tAsg (TEof K mg W f) (gSub (tVar i) (TEof K mg W k) rSetL) D σ H := by
  obtain ⟨P, E, g, h⟩ := h
  dsimp only at h
  by_cases hi : isOwnL E i = true
  · rw [if_pos hi] at h
    obtain ⟨ds0, e0⟩ := isOwnL_at hi
    obtain ⟨a, e2, r0, _⟩ := own_at g e0
    have := argsC (K := K) (mg := mg) (W := W) [.ex f, .ex k] σ H (fun vs H1 => ∃ v kv, vs = [v, kv] ∧ rSetL (.ref a) kv v H1 fun H3 => D.nx σ H3) P E g ?_
    · obtain ⟨P2, E2, g2, h2⟩ := (show TEof K mg W f σ H _ from this)
      refine ⟨P2, E2, g2, ?_⟩
      cases e : f E2 with
      | bad => rw [e] at h2; exact h2
      | exc C x E1 => rw [e] at h2; exact h2
      | ok s E1 =>
        rw [e] at h2
        intro v H1 g1 l1 r1 n1
        refine ⟨.ref a, e2, ?_⟩
        obtain ⟨P3, E3, g3, h3⟩ := (show TEof K mg W k σ H1 _ from h2 v H1 g1 l1 r1 n1)
        refine ⟨P3, E3, g3, ?_⟩
        cases e : k E3 with
        | bad => rw [e] at h3; exact h3
        | exc C x E1 => rw [e] at h3; exact h3
        | ok s E1 =>
          rw [e] at h3
          intro kv H2 g4 l4 r4 n4
          obtain ⟨v', kv', eq, q⟩ := h3 kv H2 g4 l4 r4 n4
          cases eq
          exact q
    · cases e : evC [.ex f, .ex k] E with
      | bad => rw [e] at h; exact h
      | exc C x E1 => exact of_post e h
      | ok ss E1 =>
        rw [e] at h
        intro vs H1 P1 hp g1 l1 ar sa
        dsimp only [SR.of] at h
        split at h
        · rename_i s kd
          obtain ⟨d, d', e1, ed, h⟩ := updS_of h
          obtain ⟨v, kv, rfl⟩ : ∃ v kv, vs = [v, kv] := by
            match vs, ar.len with
            | [v, kv], _ => exact ⟨v, kv, rfl⟩
          refine ⟨v, kv, rfl, ?_⟩
          obtain ⟨b, e3, r3, hm⟩ := own_at g1 e1
          rw [e2] at e3; cases e3
          unfold setD at ed
          split at ed
          · rename_i xs n
            obtain ⟨vs, ha, rv⟩ := r3.lst_inv
            have rk := ar.res 1 kv _ rfl rfl
            obtain ⟨S, rk, _⟩ := (show RepB K H1 (Fz P1 σ E1) kv (.int n) from rk)
            cases rk
            cases ej : ixN xs.length n with
            | none => rw [ej] at ed; cases ed
            | some j =>
              rw [ej] at ed
              cases ed
              have g1' : Good K P H1 σ E1 := g1.less hp
              have l1' : Lnk P σ E H P σ E1 H1 := l1.less hp
              have hh : ∀ c, HeldBy v s c → P1 c ∧ ¬ P c := fun c z => by
                cases s with
                | own d => exact ar.held 0 d c rfl (by rw [show v = .ref c from z]; rfl)
                | _ => exact z.elim
              have rs0 := ar.res 0 v s rfl rfl
              have lp : ∀ c, Pl P v s c → P1 c := fun c z => z.elim (hp c) fun z => (hh c z).1
              have rs : RepB K H1 (Fz P σ E1) v s.d := ResR.frz0 (s := s) (ResR.lnk2 rs0 g1 (Lnk.refl.less lp) fun c z => (hh c z).1) (g1.less lp) fun c z => (hh c z).2
              have rv' : RepsB K H1 (Fz P σ E1) vs xs := rv.mono fun c z => ⟨fun q => z.1 (hp c q), z.2⟩
              refine ⟨a, vs, n, j, rfl, rfl, ha, by rw [rv.length]; exact ej, ?_⟩
              obtain ⟨g2, sub⟩ := g1'.upd (o := .lst (vs.set j v)) (d' := .lst (xs.set j s.d)) e1 e2 hm (OwnB.lst upd_same ((rv'.set rs).keep (kp_fz e1 e2 hm)))
              exact h σ _ g2 (l1'.upd ⟨i, _, e1, e2⟩ sub) Same.refl
          · cases ed
        · exact h.elim
  · rw [if_neg hi] at h; exact h.elim
/-! ### loops -/
theorem ss_while {c : M Bool} {b : SE → SR} {n : Nat} (h : TSof K mg W st (whlI c b n) D σ H) : tWhile (TTof K mg W c) (TSof K mg W st b) D σ H := by
  obtain ⟨P, E, g, h⟩ := h
  refine ⟨fun m σ' H' => ∃ E', Good K P H' σ' E' ∧ Lnk P σ E H P σ' E' H' ∧ Same st σ σ' ∧ PostS K mg W st P σ E H D (whlI c b m E'), ⟨n, E, g, Lnk.refl, Same.refl, h⟩, ?_⟩
  rintro m σ1 H1 ⟨E1, g1, l1, s1, h1⟩
  refine ⟨P, E1, g1, ?_⟩
  cases m with
  | zero => exact h1.elim
  | succ m =>
    rw [whlI] at h1
    cases e : c E1 with
    | bad => rw [e] at h1; exact h1
    | exc C x E2 =>
      rw [e] at h1
      exact fun H' cls d g' l' x => h1 σ1 H' cls d g' (l1.trans l') s1 x
    | ok k E2 =>
      rw [e] at h1
      intro H2 g2 l2
      cases k with
      | false => exact h1 σ1 H2 g2 (l1.trans l2) s1
      | true =>
        rw [if_pos rfl]
        refine ⟨fun σ' H' => ∃ E', Good K P H' σ' E' ∧ Lnk P σ E H P σ' E' H' ∧ Same st σ σ' ∧ PostS K mg W st P σ E H D (whlI c b m E'), fun σ' H' q => ⟨m, Nat.lt_succ_self m, q⟩, P, E2, g2, ?_⟩
        dsimp only at h1
        cases eb : b E2 with
        | nx E3 => rw [eb] at h1; exact fun σ' H' g' l' s' => ⟨E3, g', (l1.trans l2).trans l', s1.trans s', h1⟩
        | ct E3 => rw [eb] at h1; exact fun σ' H' g' l' s' => ⟨E3, g', (l1.trans l2).trans l', s1.trans s', h1⟩
        | bk E3 => rw [eb] at h1; exact fun σ' H' g' l' s' => h1 σ' H' g' ((l1.trans l2).trans l') (s1.trans s')
        | rt s E3 => rw [eb] at h1; exact PostS.step0 (r := .rt s E3) h1 (l1.trans l2) s1
        | exc C x E3 => rw [eb] at h1; exact PostS.step0 (r := .exc C x E3) h1 (l1.trans l2) s1
        | bad => rw [eb] at h1; exact h1
theorem ss_for {fI : M (List Lw.D)} {tg : Tgt} {b : SE → SR} (ht : ∀ i ∈ tg.st, i ∈ st) (h : TSof K mg W st (fun E => .of (fI E) fun ds => forI (bindT tg) b ds) D σ H) : tFor (TIof K mg W fI) (tgT K tg) (TSof K mg W st b) D σ H := by
  obtain ⟨P, E, g, h⟩ := h
  refine ⟨P, E, g, ?_⟩
  dsimp only at h
  cases eI : fI E with
  | bad => rw [eI] at h; exact h
  | exc C x E1 => exact of_post eI h
  | ok ds E1 =>
    rw [eI] at h
    intro J H1 P1 hp g1 l1 wk
    refine ⟨fun i m σi Hi => m = ds.length - i ∧ i ≤ ds.length ∧ ∃ Ei, Good K P1 Hi σi Ei ∧ Lnk P1 σ E1 H1 P1 σi Ei Hi ∧ Same st σ σi ∧ PostS K mg W st P σ E H D (forI (bindT tg) b (ds.drop i) Ei),
      ⟨ds.length, by simp, Nat.zero_le _, E1, g1, Lnk.refl, Same.refl, by rw [List.drop_zero]; exact h⟩, ?_⟩
    rintro i m σi Hi ⟨rfl, hi, Ei, gi, li, si, ei⟩
    have kp : Kp (fun a => P1 a ∨ Fz P1 σ E1 a) H1 Hi := fun a o e z => g1.kp li a o e (z.imp (fun z q => z.elim (fun z => g1.dis a q z) fun z => z.2 q) id)
    obtain ⟨wstop, wgo⟩ := wk Hi kp
    by_cases hlt : i < ds.length
    · right
      have ed : ds[i]? = some ds[i] := by simp [hlt]
      obtain ⟨go, yld⟩ := wgo i ds[i] ed
      rw [List.drop_eq_getElem_cons hlt, forI] at ei
      refine ⟨go, fun σ' H' => ds.length - (i + 1) = ds.length - (i + 1) ∧ i + 1 ≤ ds.length ∧ ∃ Ei, Good K P1 H' σ' Ei ∧ Lnk P1 σ E1 H1 P1 σ' Ei H' ∧ Same st σ σ' ∧ PostS K mg W st P σ E H D (forI (bindT tg) b (ds.drop (i + 1)) Ei), fun σ' H' q => ⟨ds.length - (i + 1), by omega, q⟩, fun x H3 y => ?_⟩
      obtain ⟨ext3, rx⟩ := yld x H3 y
      cases eb : bindT tg ds[i] Ei with
      | none => rw [eb] at ei; exact ei.elim
      | some Eb =>
        rw [eb] at ei
        dsimp only at ei
        have g3 := gi.ext ext3
        have l3 := li.trans (Lnk.ext ext3)
        have rx' : RepB K H3 (Fz P1 σi Ei) x ds[i] := rx.mono fun b ⟨z, o, e⟩ => l3.fz (a := b) e z
        refine tgt_ok tg ds[i] x _ _ Eb H3 _ g3 rx' eb fun σ2 g4 l4 s4 => ⟨P1, Eb, g4, ?_⟩
        have s4' : Same st σi σ2 := s4.mono ht
        cases ebb : b Eb with
        | nx E3 => rw [ebb] at ei; exact fun σ' H' g' l' s' => ⟨rfl, hlt, E3, g', (l3.trans l4).trans l', si.trans (s4'.trans s'), ei⟩
        | ct E3 => rw [ebb] at ei; exact fun σ' H' g' l' s' => ⟨rfl, hlt, E3, g', (l3.trans l4).trans l', si.trans (s4'.trans s'), ei⟩
        | bk E3 => rw [ebb] at ei; exact fun σ' H' g' l' s' => ei σ' H' (g'.less hp) ((l1.trans ((l3.trans l4).trans l')).less hp) (si.trans (s4'.trans s'))
        | rt s E3 => rw [ebb] at ei; exact PostS.step (r := .rt s E3) ei (l1.trans (l3.trans l4)) (si.trans s4') hp
        | exc C x E3 => rw [ebb] at ei; exact PostS.step (r := .exc C x E3) ei (l1.trans (l3.trans l4)) (si.trans s4') hp
        | bad => rw [ebb] at ei; exact ei.elim
    · left
      have en : i = ds.length := by omega
      subst en
      refine ⟨wstop _ (Nat.le_refl _), ?_⟩
      rw [List.drop_length] at ei
      exact (show PostS K mg W st P σ E H D (.nx Ei) from ei) σi Hi (gi.less hp) ((l1.trans li).less hp) si
end
end Lw
end

section
set_option Elab.async false
set_option linter.all false
set_option maxRecDepth 100000
set_option maxHeartbeats 4000000
/-! L13b: a tuple backwards -/
namespace Lw
open PySem L2 PySem.Spec PyProof.Rows
section
variable {prog : Program} {w : World} {A : Around} {E : Value → Shared → Prop} {s : Shared}
theorem applied_back {sl : Addr} {vl vu vs : Value} {n : Nat} {Q : Int × Int × Nat → Shared → Prop} (hs : s.heap.IsSliceOf sl vl vu vs) (pl : IsPart vl none) (pu : IsPart vu none) (ps : IsPart vs (some (-1)))
    (h : Q ((n : Int) - 1, -1, n) s) : wpAny (model prog w) A (Builtin.Slice.sliceApplied (.ref sl) (pure (n : Int))) Q E s := by
  obtain ⟨o, h1, _, h2⟩ := id hs
  unfold Builtin.Slice.sliceApplied Builtin.Slice.sliceFields
  refine wpAny_bind (wpAny_bind (wpAny_field h1 h2 (x := vl) rfl (wpAny_bind (wpAny_field h1 h2 (x := vu) rfl (wpAny_bind (wpAny_field h1 h2 (x := vs) rfl (wpAny_pure ?_)))))))
  refine wpAny_bind (HT.slicePart_ ps ?_)
  show wpAny _ _ (if ((-1 : Int) == 0) = true then _ else _) _ _ s
  rw [if_neg (by decide)]
  refine wpAny_bind (HT.slicePart_ pl (wpAny_bind (HT.slicePart_ pu (wpAny_bind (wpAny_pure (wpAny_pure ?_))))))
  have e : Builtin.Slice.slicePlaces ((n : Int) - 1) (-1) (-1) = n := by
    unfold Builtin.Slice.slicePlaces
    rw [if_neg (by decide)]
    split
    · have : (- (-1) : Int) = 1 := rfl
      rw [this, Int.ediv_one]; omega
    · omega
  show Q ((n : Int) - 1, -1, Builtin.Slice.slicePlaces ((n : Int) - 1) (-1) (-1)) s
  rw [e]; exact h
theorem fm_congr {α β : Type} {f g : α → Option β} : ∀ {l : List α}, (∀ x ∈ l, f x = g x) → l.filterMap f = l.filterMap g
  | [], _ => rfl
  | a :: l, h => by
    rw [List.filterMap_cons, List.filterMap_cons, h a (by simp), fm_congr fun x hx => h x (List.mem_cons_of_mem _ hx)]
theorem pick_back (xs : Array Value) : ((List.range xs.size).filterMap fun (m : Nat) => xs[(((xs.size : Int) - 1) + (m : Int) * -1).toNat]?) = xs.toList.reverse := by
  have e : (List.range xs.size).filterMap (fun (m : Nat) => xs[(((xs.size : Int) - 1) + (m : Int) * -1).toNat]?) = ((List.range xs.size).map fun k => xs.size - 1 - k).filterMap (xs[·]?) := by
    rw [List.filterMap_map]
    refine fm_congr fun m hm => ?_
    have := List.mem_range.mp hm
    have e : (((xs.size : Int) - 1) + (m : Int) * -1).toNat = xs.size - 1 - m := by omega
    rw [e]; rfl
  rw [e, PySem.W.krv_range, List.filterMap_reverse, PySem.W.krv_all]
theorem tup_back {t sl : Addr} {items : Array Value} {vl vu vs : Value} {Q : Value → Shared → Prop} (ht : IsTup s.heap t items) (hs : s.heap.IsSliceOf sl vl vu vs) (pl : IsPart vl none) (pu : IsPart vu none) (ps : IsPart vs (some (-1)))
    (h : Q (.ref s.heap.objs.size) { s with heap := s.heap.push { cls := .type "tuple", data := .seq items.toList.reverse.toArray } }) (hz : items.size ≤ sizeLine) : wpAny (model prog w) A (getItem (.ref t) (.ref sl)) Q E s := by
  obtain ⟨o, h1, h3, h2⟩ := id hs
  have ty : s.TypeIs (.ref sl) "slice" := ⟨o, h1, h3⟩
  have big : sizeOk (.seq items.toList.reverse.toArray) := by
    show items.toList.reverse.toArray.size ≤ sizeLine
    simpa using hz
  unfold getItem
  try with_reducible refine wpAny_holding ?_
  first | refine wpAny_bind (wpAny_pure ?_) | skip
  refine wpAny_bind (wpAny_sequenceKey ht.typeIs (by decide) (wpAny_bind (wpAny_callSpecial?_slot (name := Str.ofString "__getitem__") ht.typeIs slot_tuple_getitem (wpAny_call_entry slot_tuple_getitem ht.typeIs entry_tuple_getitem ?_ (args_tuple_getitem _ _)))))
  show wpAny _ _ (Builtin.Tuple.tupleItemsOf (.ref t) >>= _) _ _ s
  refine wpAny_bind (tupleItemsOf_ ht (wpAny_bind (wpAny_typeOf ty ?_)))
  rw [if_pos (by decide)]
  refine wpAny_bind (applied_back hs pl pu ps ?_)
  have no : ¬ ((((items.size : Int) - 1) == 0 && (-1 : Int) == 1 && items.size == items.size) = true) := by simp
  show wpAny _ _ (if (((items.size : Int) - 1) == 0 && (-1 : Int) == 1 && items.size == items.size) = true then _ else _) _ _ s
  rw [if_neg no, pick_back]
  first
    | exact wpAny_bind (m := Builtin.Tuple.tupleExact _) (wpAny_newObj_type (wpAny_pure ⟨_, rfl, wpAny_pure h⟩) big)
    | exact wpAny_bind (m := Builtin.Tuple.tupleExact _) (wpAny_newObj_type (wpAny_bind (wpAny_pure (wpAny_pure ⟨_, rfl, wpAny_pure h⟩))) big)
    | exact wpAny_bind (wpAny_bind (m := Builtin.Tuple.tupleExact _) (wpAny_newObj_type (wpAny_pure (wpAny_pure ⟨_, rfl, wpAny_pure h⟩)) big))
    | exact wpAny_bind (wpAny_bind (m := Builtin.Tuple.tupleExact _) (wpAny_newObj_type (wpAny_pure ⟨_, rfl, wpAny_pure h⟩) big))
end
end Lw
end

section
set_option Elab.async false
set_option linter.all false
set_option maxRecDepth 100000
set_option maxHeartbeats 4000000
/-! L13c: sorted(set(..)) of pairs -/
namespace Lw
open PySem L2
theorem ltP_iff {p q : Int × Int} : ltP p q = true ↔ p.1 < q.1 ∨ (p.1 = q.1 ∧ p.2 < q.2) := by simp [ltP]
theorem mem_insP {p x : Int × Int} : ∀ {l : List (Int × Int)}, x ∈ insP p l ↔ x = p ∨ x ∈ l
  | [] => by simp [insP]
  | q :: r => by
    unfold insP
    split
    · simp
    · split
      · rename_i h; subst h; simp
      · simp only [List.mem_cons, mem_insP (l := r)]
        constructor
        · rintro (h | h | h)
          · exact .inr (.inl h)
          · exact .inl h
          · exact .inr (.inr h)
        · rintro (h | h | h)
          · exact .inr (.inl h)
          · exact .inl h
          · exact .inr (.inr h)
theorem mem_sortP {x : Int × Int} : ∀ {l : List (Int × Int)}, x ∈ sortP l ↔ x ∈ l
  | [] => Iff.rfl
  | q :: r => by rw [sortP, mem_insP, mem_sortP (l := r), List.mem_cons]
abbrev LtP (p q : Int × Int) : Prop := ltP p q = true
theorem ltP_total {p q : Int × Int} (h1 : ¬ LtP p q) (h2 : p ≠ q) : LtP q p := by
  rw [LtP, ltP_iff] at *
  have : ¬ (p.1 = q.1 ∧ p.2 = q.2) := fun z => h2 (Prod.ext z.1 z.2)
  omega
theorem ltP_trans {p q r : Int × Int} (h1 : LtP p q) (h2 : LtP q r) : LtP p r := by
  rw [LtP, ltP_iff] at *
  omega
theorem ltP_irr {p : Int × Int} : ¬ LtP p p := by
  rw [LtP, ltP_iff]; omega
theorem sorted_insP {p : Int × Int} : ∀ {l : List (Int × Int)}, l.Pairwise LtP → (insP p l).Pairwise LtP
  | [], _ => by simp [insP]
  | q :: r, h => by
    rw [List.pairwise_cons] at h
    unfold insP
    split
    · rename_i e
      rw [List.pairwise_cons]
      refine ⟨fun x hx => ?_, List.pairwise_cons.mpr h⟩
      rcases List.mem_cons.mp hx with rfl | hx
      · exact e
      · exact ltP_trans e (h.1 x hx)
    · rename_i e
      split
      · exact List.pairwise_cons.mpr h
      · rename_i ne
        rw [List.pairwise_cons]
        refine ⟨fun x hx => ?_, sorted_insP h.2⟩
        rcases mem_insP.mp hx with rfl | hx
        · exact ltP_total e ne
        · exact h.1 x hx
theorem sorted_sortP : ∀ {l : List (Int × Int)}, (sortP l).Pairwise LtP
  | [] => .nil
  | p :: r => sorted_insP sorted_sortP
theorem sorted_uniq : ∀ {l m : List (Int × Int)}, l.Pairwise LtP → m.Pairwise LtP → (∀ x, x ∈ l ↔ x ∈ m) → l = m
  | [], [], _, _, _ => rfl
  | [], b :: m, _, _, h => absurd ((h b).mpr List.mem_cons_self) List.not_mem_nil
  | a :: l, [], _, _, h => absurd ((h a).mp List.mem_cons_self) List.not_mem_nil
  | a :: l, b :: m, h1, h2, h => by
    rw [List.pairwise_cons] at h1 h2
    have e : a = b := by
      rcases List.mem_cons.mp ((h a).mp List.mem_cons_self) with e | e
      · exact e
      · rcases List.mem_cons.mp ((h b).mpr List.mem_cons_self) with e2 | e2
        · exact e2.symm
        · exact absurd (ltP_trans (h2.1 a e) (h1.1 b e2)) ltP_irr
    subst e
    rw [sorted_uniq h1.2 h2.2 fun x => ?_]
    constructor
    · intro hx
      rcases List.mem_cons.mp ((h x).mp (List.mem_cons_of_mem _ hx)) with e | e
      · exact absurd (h1.1 x hx) (by rw [e]; exact ltP_irr)
      · exact e
    · intro hx
      rcases List.mem_cons.mp ((h x).mpr (List.mem_cons_of_mem _ hx)) with e | e
      · exact absurd (h2.1 x hx) (by rw [e]; exact ltP_irr)
      · exact e
def prL (p : Int × Int) : List Int := [p.1, p.2]
theorem prL_inj {p q : Int × Int} (h : prL p = prL q) : p = q := by
  simp only [prL, List.cons.injEq, and_true] at h
  exact Prod.ext h.1 h.2
section
variable {K : PySem.W.Frag} {H H' : Hp} {T : Addr → Prop}
theorem prs_at : ∀ {xs : List D} {ps : List (Int × Int)} {vs : List V}, prsOf xs = some ps → RepsB K H T vs xs → ∃ ks : List (Addr × List Int), vs = ks.map (fun p => V.ref p.1) ∧ (∀ p ∈ ks, SqT K H p.1 (p.2.map V.int)) ∧ ks.map (·.2) = ps.map prL ∧ ∀ p ∈ ps, (0 ≤ p.1 ∧ p.1 < 2 ^ 31) ∧ (0 ≤ p.2 ∧ p.2 < 2 ^ 31)
  | [], ps, vs, e, r => by
    cases e
    have : vs = [] := List.eq_nil_of_length_eq_zero r.length
    subst this
    exact ⟨[], rfl, fun _ h => (List.not_mem_nil h).elim, rfl, fun _ h => (List.not_mem_nil h).elim⟩
  | d :: xs, ps, vs, e, r => by
    cases vs with
    | nil => have := r.length; simp at this
    | cons v vs =>
      rw [prsOf] at e
      split at e
      · rename_i p qs e1 e2
        cases e
        obtain ⟨r1, r2⟩ := r.uncons
        obtain ⟨ks, rfl, h1, h2, h3⟩ := prs_at e2 r2
        unfold prOf at e1
        split at e1
        · rename_i a b
          split at e1
          · rename_i hb
            cases e1
            obtain ⟨S, r1, _⟩ := r1
            cases r1 with
            | tup q rs =>
              rename_i ad ws
              cases rs with
              | cons ra rs =>
                cases rs with
                | cons rb rs =>
                  cases rs
                  cases ra
                  cases rb
                  refine ⟨(ad, [a, b]) :: ks, rfl, fun p hp => ?_, by simp [h2, prL], fun p hp => ?_⟩
                  · rcases List.mem_cons.mp hp with rfl | hp
                    · exact q
                    · exact h1 p hp
                  · rcases List.mem_cons.mp hp with rfl | hp
                    · exact hb
                    · exact h3 p hp
          · cases e1
        · cases e1
      · cases e
end
end Lw
end

section
set_option Elab.async false
set_option linter.all false
set_option maxRecDepth 100000
set_option maxHeartbeats 4000000
/-! L14: what expressions of the IR come to, as readings -/
namespace Lw
open PySem L2
section
variable {K : PySem.W.Frag} {mg : Str → Option Value} {W : WX} {P P' P1 P2 : Addr → Prop} {H H' H1 H0 H2 : Hp} {σ σ' σ1 : L2.St} {E E' E1 E0 : SE} {Q : VK}
theorem ok_val {d : D} {v : V} (g : Good K P H σ E) (r : RepB K H (Fz P σ E) v d) (h : PostE K mg W P σ E H Q (.ok (.val d) E)) : Q v H :=
  h v H (g.less fun a z => z.elim id False.elim) (Lnk.refl.less fun a z => z.elim id False.elim) (r.mono fun a z => ⟨fun q => z.1 (q.elim id False.elim), z.2⟩) fun a z => z.elim
theorem te_pure {d : D} {v : V} (r : ∀ H, RepB K H (fun _ => False) v d) : TEof K mg W (M.pure (.val d)) σ H Q → tC v σ H Q := fun ⟨P, E, g, h⟩ =>
  ok_val g ((r H).mono fun _ z => z.elim) h
theorem te_var {i : Nat} : TEof K mg W (varS i) σ H Q → tVar i σ H Q := fun ⟨P, E, g, h⟩ => by
  unfold varS at h
  split at h
  · rename_i d e
    obtain ⟨v, e1, r⟩ := g.val i d e
    exact ⟨v, e1, ok_val g r h⟩
  · exact h.elim
theorem te_mv {i : Nat} : TEof K mg W (popS i) σ H Q → tVar i σ H Q := fun ⟨P, E, g, h⟩ => by
  unfold popS at h
  split at h
  · rename_i d e
    obtain ⟨a, e1, r⟩ := g.own i d e
    refine ⟨_, e1, ?_⟩
    have go := g.out i
    have hp : ∀ b, Pl P (.ref a) (.own d) b → (P b ∨ ∃ d, E[i]? = some (.own d) ∧ σ[i]? = some (some (.ref b))) := fun b z => z.imp id fun z => by
      cases (show V.ref a = .ref b from z)
      exact ⟨d, e, e1⟩
    have ow : OwnS σ E a := ⟨i, d, e, e1⟩
    have sub : ∀ b, OwnS σ (E.set i .no) b → OwnS σ E b := fun b ⟨j, x, q1, q2⟩ => by
      rw [getE_set] at q1
      split at q1
      · split at q1 <;> cases q1
      · exact ⟨j, x, q1, q2⟩
    refine h (.ref a) H (go.less hp) ⟨fun a o e _ => e, fun b q => .inl (sub b q), fun b z => (hp b z).imp id fun ⟨d', q1, q2⟩ => .inl ⟨i, d', q1, q2⟩⟩ ⟨a, rfl, r.monoD fun b _ _ z => ⟨fun q => ?_, fun q => z.2 (sub b q)⟩⟩ fun b z => by
      cases (show V.ref a = .ref b from z)
      exact g.dis a ow
    rcases q with q | q
    · exact z.1 q
    · cases (show V.ref a = .ref b from q)
      exact z.2 ow
  · rename_i d e
    obtain ⟨v, e1, r⟩ := g.val i d e
    exact ⟨v, e1, ok_val g r h⟩
  · exact h.elim
theorem Good.frz (g : Good K P H σ E) {i : Nat} {d : D} (e : E[i]? = some (.own d)) : Good K P H σ (E.set i (.val d)) ∧ (∀ b, OwnS σ (E.set i (.val d)) b → OwnS σ E b) ∧ ∃ a, σ[i]? = some (some (.ref a)) ∧ RepB K H (Fz P σ (E.set i (.val d))) (.ref a) d := by
  obtain ⟨a, e1, r⟩ := g.own i d e
  have hi : i < E.length := by
    rcases Nat.lt_or_ge i E.length with h | h
    · exact h
    · rw [List.getElem?_eq_none h] at e; cases e
  have gE : ∀ (j : Nat), (E.set i (.val d))[j]? = if i = j then some (.val d) else E[j]? := fun j => by
    rw [getE_set]
    by_cases h : i = j
    · subst h; rw [if_pos rfl, if_pos rfl, if_pos hi]
    · rw [if_neg h, if_neg h]
  have sub : ∀ b, OwnS σ (E.set i (.val d)) b → OwnS σ E b ∧ b ≠ a := fun b ⟨j, x, q1, q2⟩ => by
    rw [gE] at q1
    by_cases h : i = j
    · rw [if_pos h] at q1; cases q1
    · rw [if_neg h] at q1
      exact ⟨⟨j, x, q1, q2⟩, fun z => h (g.inj i j d x a e q1 e1 (by rw [q2, z]))⟩
  have fz : ∀ b, Fz P σ E b → Fz P σ (E.set i (.val d)) b := fun b z => ⟨z.1, fun q => z.2 (sub b q).1⟩
  have ra : RepB K H (Fz P σ (E.set i (.val d))) (.ref a) d := by
    obtain ⟨S, h1, h2⟩ := r
    refine ⟨_, h1.rep, fun b hb => ?_⟩
    rcases List.mem_cons.mp hb with rfl | hb
    · exact ⟨g.dis _ ⟨i, d, e, e1⟩, fun q => (sub _ q).2 rfl⟩
    · exact fz b (h2 b hb)
  refine ⟨⟨by rw [List.length_set]; exact g.len, g.dom, fun j x q => ?_, fun j x q => ?_, fun b q => g.dis b (sub b q).1, fun j l x x' b q1 q2 q3 q4 => ?_⟩, fun b q => (sub b q).1, a, e1, ra⟩
  · rw [gE] at q
    by_cases h : i = j
    · subst h
      rw [if_pos rfl] at q
      cases q
      exact ⟨_, e1, ra⟩
    · rw [if_neg h] at q
      obtain ⟨v, q1, r⟩ := g.val j x q
      exact ⟨v, q1, r.mono fz⟩
  · rw [gE] at q
    by_cases h : i = j
    · rw [if_pos h] at q; cases q
    · rw [if_neg h] at q
      obtain ⟨b, q1, r⟩ := g.own j x q
      exact ⟨b, q1, r.monoD fun b _ _ z => fz b z⟩
  · rw [gE] at q1 q2
    by_cases h : i = j
    · rw [if_pos h] at q1; cases q1
    · by_cases h' : i = l
      · rw [if_pos h'] at q2; cases q2
      · rw [if_neg h] at q1; rw [if_neg h'] at q2
        exact g.inj j l x x' b q1 q2 q3 q4
theorem te_fz {i : Nat} : TEof K mg W (fzS i) σ H Q → tVar i σ H Q := fun ⟨P, E, g, h⟩ => by
  unfold fzS at h
  split at h
  · rename_i d e
    obtain ⟨g2, sub, a, e1, r⟩ := g.frz e
    refine ⟨_, e1, ?_⟩
    exact h (.ref a) H (g2.less fun a z => z.elim id False.elim) ⟨fun a o e _ => e, fun b q => .inl (sub b q), fun b z => z.elim .inl False.elim⟩ (r.mono fun b z => ⟨fun q => z.1 (q.elim id False.elim), z.2⟩) fun b z => z.elim
  · rename_i d e
    obtain ⟨v, e1, r⟩ := g.val i d e
    exact ⟨v, e1, ok_val g r h⟩
  · exact h.elim
/-- two operands -/
theorem te_op2 {oa ob : Opd} {f : D → D → Option Sl} : TEof K mg W (M.bind (evA [oa, ob]) fun ds => M.opt (match ds with | [x, y] => f x y | _ => none)) σ H Q → tOp (r2D K f) (tOpd K mg W oa) (tOpd K mg W ob) σ H Q := fun h =>
  prim_sound (ops := [oa, ob]) (p := fun ds => match ds with | [x, y] => f x y | _ => none) (r := fun Q vs H => match vs with | [x, y] => r2D K f x y H Q | _ => False) (fun vs H Q T ds ts q => by
    cases ts with
    | nil => exact q.elim
    | cons t1 ts =>
      cases ts with
      | nil => exact q.elim
      | cons t2 ts =>
        cases ts with
        | nil => exact ⟨T, _, _, t1, t2, q⟩
        | cons t3 ts => exact q.elim) σ H Q h
theorem te_op1 {oa : Opd} {f : D → Option Sl} : TEof K mg W (M.bind (evA [oa]) fun ds => M.opt (match ds with | [x] => f x | _ => none)) σ H Q → tUn (r1D K f) (tOpd K mg W oa) σ H Q := fun h =>
  prim_sound (ops := [oa]) (p := fun ds => match ds with | [x] => f x | _ => none) (r := fun Q vs H => match vs with | [x] => r1D K f x H Q | _ => False) (fun vs H Q T ds ts q => by
    cases ts with
    | nil => exact q.elim
    | cons t1 ts =>
      cases ts with
      | nil => exact ⟨T, _, t1, q⟩
      | cons t2 ts => exact q.elim) σ H Q h
theorem te_opn {os : List Opd} {f : List D → Option Sl} : TEof K mg W (M.bind (evA os) fun ds => M.opt (f ds)) σ H Q → tCB (rnD K f) (tOpds K mg W os) σ H Q := fun h =>
  prim_sound (ops := os) (p := f) (r := fun Q vs H => rnD K f vs H Q) (fun vs H Q T ds ts q => ⟨T, ds, ts, q⟩) σ H Q h
/-! ### one after another -/
structure PP (K : PySem.W.Frag) (mg : Str → Option Value) (W : WX) (σ : L2.St) {β : Type} (Post : (Addr → Prop) → SE → Hp → R β → Prop) : Prop where
  step : ∀ {P P1 : Addr → Prop} {E E1 : SE} {H H1 : Hp} {r : R β}, Post P E H r → Lnk P σ E H P1 σ E1 H1 → (∀ a, P a → P1 a) → Post P1 E1 H1 r
  exc : ∀ {P : Addr → Prop} {E E1 : SE} {H : Hp} {C : Str} {x : D}, Post P E H (.exc C x E1) → ∀ H' cls d, Good K P H' σ E1 → Lnk P σ E H P σ E1 H' → ExcR K mg (Fz P σ E1) H' C x cls d → W cls d σ H'
  bad : ∀ {P : Addr → Prop} {E : SE} {H : Hp}, ¬ Post P E H .bad
theorem ppE : PP K mg W σ (fun P E H r => PostE K mg W P σ E H Q r) where
  step := fun {P P1 E E1 H H1 r} h l hp => by
    cases r with
    | ok s E' =>
      have hq : ∀ {w} a, Pl P w s a → Pl P1 w s a := fun a z => z.imp (hp a) id
      exact fun v H' g l' r n => h v H' (g.less hq) ((l.trans l').less hq) (r.lnk2 g (Lnk.refl.less hq) fun a z => .inr z) fun a z q => n a z (hp a q)
    | exc C x E' => exact fun H' cls d g l' x => h H' cls d (g.less hp) ((l.trans l').less hp) (x.less fun a z => ⟨fun q => z.1 (hp a q), z.2⟩)
    | bad => exact h
  exc := fun h => h
  bad := id
theorem ppT {Q : Bool → Hp → Prop} : PP K mg W σ (fun P E H r => PostT K mg W P σ E H Q r) where
  step := fun {P P1 E E1 H H1 r} h l hp => by
    cases r with
    | ok s E' => exact fun H' g l' => h H' (g.less hp) ((l.trans l').less hp)
    | exc C x E' => exact fun H' cls d g l' x => h H' cls d (g.less hp) ((l.trans l').less hp) (x.less fun a z => ⟨fun q => z.1 (hp a q), z.2⟩)
    | bad => exact h
  exc := fun h => h
  bad := id
section
variable {β : Type} {Post : (Addr → Prop) → SE → Hp → R β → Prop}
theorem bindE (pp : PP K mg W σ Post) {f : M Sl} {k : Sl → M β} (g : Good K P H σ E) (h : Post P E H ((f E).bind k)) :
    TEof K mg W f σ H (fun v H1 => ∃ s P E, Good K P H1 σ E ∧ ResR K P σ E H1 v s ∧ (∀ a, HeldBy v s a → P a) ∧ Post P E H1 (k s E)) := by
  refine ⟨P, E, g, ?_⟩
  cases e : f E with
  | bad => rw [e] at h; exact pp.bad h
  | exc C x E1 => rw [e] at h; exact pp.exc h
  | ok s E1 =>
    rw [e] at h
    exact fun v H1 g1 l1 r1 n1 => ⟨s, _, E1, g1, r1, fun a z => .inr z, pp.step h l1 fun a z => .inl z⟩
theorem bindB (pp : PP K mg W σ Post) {f : M Bool} {k : Bool → M β} (g : Good K P H σ E) (h : Post P E H ((f E).bind k)) :
    TTof K mg W f σ H (fun b H1 => ∃ P E, Good K P H1 σ E ∧ Post P E H1 (k b E)) := by
  refine ⟨P, E, g, ?_⟩
  cases e : f E with
  | bad => rw [e] at h; exact pp.bad h
  | exc C x E1 => rw [e] at h; exact pp.exc h
  | ok s E1 =>
    rw [e] at h
    exact fun H1 g1 l1 => ⟨P, E1, g1, pp.step h l1 fun a z => z⟩
theorem bindA (pp : PP K mg W σ Post) {os : List Opd} {k : List D → M β} (g : Good K P H σ E) (h : Post P E H ((evA os E).bind k)) :
    tOpds K mg W os σ H (fun vs H1 => ∃ ds P E, Good K P H1 σ E ∧ TopsB K H1 (Fz P σ E) vs ds ∧ Post P E H1 (k ds E)) := by
  refine argsL os σ H _ ⟨P, E, g, ?_⟩
  cases e : evA os E with
  | bad => rw [e] at h; exact pp.bad h
  | exc C x E1 => rw [e] at h; exact pp.exc h
  | ok ds E1 =>
    rw [e] at h
    exact fun vs H1 P1 hp g1 l1 ts => ⟨ds, P1, E1, g1, ts, pp.step h l1 hp⟩
end
theorem ResR.bl {v : V} {b : Bool} (r : ResR K P σ E H v (.val (.bl b))) : v = .bl b := by
  obtain ⟨S, r, _⟩ := (show RepB K H (Fz P σ E) v (.bl b) from r)
  cases r; rfl
theorem te_mono {f : M Sl} {Q' : VK} (h : TEof K mg W f σ H Q) (m : ∀ v H, Q v H → Q' v H) : TEof K mg W f σ H Q' := by
  obtain ⟨P, E, g, h⟩ := h
  refine ⟨P, E, g, ?_⟩
  cases e : f E with
  | bad => rw [e] at h; exact h
  | exc C x E1 => rw [e] at h; exact h
  | ok s E1 => rw [e] at h; exact fun v H1 g1 l1 r1 n1 => m _ _ (h v H1 g1 l1 r1 n1)
theorem tt_mono {f : M Bool} {Q Q' : Bool → Hp → Prop} (h : TTof K mg W f σ H Q) (m : ∀ v H, Q v H → Q' v H) : TTof K mg W f σ H Q' := by
  obtain ⟨P, E, g, h⟩ := h
  refine ⟨P, E, g, ?_⟩
  cases e : f E with
  | bad => rw [e] at h; exact h
  | exc C x E1 => rw [e] at h; exact h
  | ok s E1 => rw [e] at h; exact fun H1 g1 l1 => m _ _ (h H1 g1 l1)
theorem op_mono {o : Opd} {Q' : VK} (h : tOpd K mg W o σ H Q) (m : ∀ v H, Q v H → Q' v H) : tOpd K mg W o σ H Q' := by
  cases o with
  | slot i => obtain ⟨v, e, q⟩ := h; exact ⟨v, e, m _ _ q⟩
  | ex f => exact te_mono h m
theorem te_and {f g : M Sl} (h : TEof K mg W (M.bind f fun s => match s with
    | .val (.bl true) => g
    | .val (.bl false) => M.pure (vB false)
    | _ => M.bad) σ H Q) : tAndV (TEof K mg W f) (TEof K mg W g) σ H Q := by
  obtain ⟨P, E, gd, h⟩ := h
  refine te_mono (bindE ppE gd h) fun v H1 ⟨s, P1, E1, g1, r1, n1, h1⟩ => ?_
  split at h1
  · exact ⟨true, r1.bl, by rw [if_pos rfl]; exact ⟨P1, E1, g1, h1⟩⟩
  · exact ⟨false, r1.bl, by rw [if_neg (by decide)]; exact ok_val g1 (.bl false) h1⟩
  · exact h1.elim
theorem te_or {f g : M Sl} (h : TEof K mg W (M.bind f fun s => match s with
    | .val (.bl false) => g
    | .val (.bl true) => M.pure (vB true)
    | _ => M.bad) σ H Q) : tOrV (TEof K mg W f) (TEof K mg W g) σ H Q := by
  obtain ⟨P, E, gd, h⟩ := h
  refine te_mono (bindE ppE gd h) fun v H1 ⟨s, P1, E1, g1, r1, n1, h1⟩ => ?_
  split at h1
  · exact ⟨false, r1.bl, by rw [if_neg (by decide)]; exact ⟨P1, E1, g1, h1⟩⟩
  · exact ⟨true, r1.bl, by rw [if_pos rfl]; exact ok_val g1 (.bl true) h1⟩
  · exact h1.elim
theorem te_not {f : M Sl} (h : TEof K mg W (M.bind f fun s => match s with
    | .val (.bl b) => M.pure (vB (!b))
    | _ => M.bad) σ H Q) : tNotV (TEof K mg W f) σ H Q := by
  obtain ⟨P, E, gd, h⟩ := h
  refine te_mono (bindE ppE gd h) fun v H1 ⟨s, P1, E1, g1, r1, n1, h1⟩ => ?_
  split at h1
  · exact ⟨_, r1.bl, ok_val g1 (.bl _) h1⟩
  · exact h1.elim
theorem te_ite {c : M Bool} {f g : M Sl} (h : TEof K mg W (M.bind c fun k => if k then f else g) σ H Q) : tIf (TTof K mg W c) (TEof K mg W f) (TEof K mg W g) σ H Q := by
  obtain ⟨P, E, gd, h⟩ := h
  refine tt_mono (bindB ppE gd h) fun b H1 ⟨P1, E1, g1, h1⟩ => ?_
  cases b with
  | true => rw [if_pos rfl]; exact ⟨P1, E1, g1, h1⟩
  | false => rw [if_neg (by decide)]; exact ⟨P1, E1, g1, h1⟩
theorem tt_ite {c f g : M Bool} {Q : Bool → Hp → Prop} (h : TTof K mg W (M.bind c fun k => if k then f else g) σ H Q) : TTof K mg W c σ H fun c H1 => if c = true then TTof K mg W f σ H1 Q else TTof K mg W g σ H1 Q := by
  obtain ⟨P, E, gd, h⟩ := h
  refine tt_mono (bindB ppT gd h) fun b H1 ⟨P1, E1, g1, h1⟩ => ?_
  cases b with
  | true => rw [if_pos rfl]; exact ⟨P1, E1, g1, h1⟩
  | false => rw [if_neg (by decide)]; exact ⟨P1, E1, g1, h1⟩
theorem tt_pure {b : Bool} {Q : Bool → Hp → Prop} (h : TTof K mg W (M.pure b) σ H Q) : Q b H := by
  obtain ⟨P, E, g, h⟩ := h
  exact h H g Lnk.refl
theorem tt_and {f g : M Bool} {Q : Bool → Hp → Prop} (h : TTof K mg W (M.bind f fun k => if k then g else M.pure false) σ H Q) : tAnd (TTof K mg W f) (TTof K mg W g) σ H Q :=
  tt_mono (tt_ite h) fun b H1 q => by
    cases b with
    | true => rw [if_pos rfl] at q ⊢; exact q
    | false => rw [if_neg (by decide)] at q ⊢; exact tt_pure q
theorem tt_or {f g : M Bool} {Q : Bool → Hp → Prop} (h : TTof K mg W (M.bind f fun k => if k then M.pure true else g) σ H Q) : tOr (TTof K mg W f) (TTof K mg W g) σ H Q :=
  tt_mono (tt_ite h) fun b H1 q => by
    cases b with
    | true => rw [if_pos rfl] at q ⊢; exact tt_pure q
    | false => rw [if_neg (by decide)] at q ⊢; exact q
theorem tt_not {f : M Bool} {Q : Bool → Hp → Prop} (h : TTof K mg W (M.bind f fun b => M.pure (!b)) σ H Q) : tNot (TTof K mg W f) σ H Q := by
  obtain ⟨P, E, gd, h⟩ := h
  refine tt_mono (bindB ppT gd h) fun b H1 ⟨P1, E1, g1, h1⟩ => ?_
  exact h1 H1 g1 Lnk.refl
/-- a value's truth -/
def rTru (K : PySem.W.Frag) : V → Hp → (Bool → Hp → Prop) → Prop := fun x H Q => ∃ T d b, TopB K H T x d ∧ truthD d = some b ∧ Q b H
theorem tt_val {o : Opd} {Q : Bool → Hp → Prop} (h : TTof K mg W (M.bind (evA [o]) fun ds => M.opt (match ds with | [d] => truthD d | _ => none)) σ H Q) : tOpd K mg W o σ H fun x H1 => rTru K x H1 Q := by
  obtain ⟨P, E, gd, h⟩ := h
  refine op_mono (show tOpd K mg W o σ H fun x H1 => _ from bindA (os := [o]) ppT gd h) fun v H1 ⟨ds, P1, E1, g1, ts, h1⟩ => ?_
  match ds, ts with
  | [d], .cons t1 .nil =>
    dsimp only at h1
    cases e : truthD d with
    | none => rw [e] at h1; exact h1.elim
    | some b => rw [e] at h1; exact ⟨_, d, b, t1, e, h1 H1 g1 Lnk.refl⟩
end
end Lw
end

section
set_option Elab.async false
set_option linter.all false
set_option maxRecDepth 100000
set_option maxHeartbeats 4000000
/-! L15: the checker: a text's tree against the IR -/
namespace Lw
open PySem L2

structure Ck where
  N : List Str
  sc : Scope
  fs : List FnE
  cs : List Str
  bl : List Str
  st : List Nat
  cell : Bool

structure Ck.Ok (c : Ck) (X : Cx) (k : Nat) (Φ : Nat → M Sl) (C : Nat → D) (W : WX) : Prop where
  N : X.N = c.N
  nd : c.N.Nodup
  sc : X.env.scope = c.sc
  kind : c.sc.kind = .function
  calm : X.calm = true
  fn : c.cell = true → ∀ x, X.fn x = true
  room : Room k X.A
  gd : X.A.guards = some []
  tk : Takes X W
  pass : PassesOwn (model X.prog X.w) X.A X.env X.xe
  fs : ∀ i e, c.fs[i]? = some e → FnH X.prog X.w X.K X.mg X.base k e (Φ i)
  cs : ∀ i n, c.cs[i]? = some n → ∃ v u, X.mg n = some u ∧ RelV v u ∧ ∀ H, RepB X.K H (fun _ => False) v (C i)
  bl : ∀ n ∈ c.bl, X.mg n = none

def okN (x : Str) : Bool := !(x == ("__debug__" : Str)) && !(x == ("__classdict__" : Str)) && !(x == ("__name__" : Str))
def glB (c : Ck) (x : Str) : Bool := okN x && c.sc.names.lookup x == some .globalImplicit
def visB (c : Ck) (i : Nat) (x : Str) : Bool := okN x && c.N[i]? == some x && (match c.sc.names.lookup x with | some .local => true | some .cell => true | some .free => true | _ => false)
def locB (c : Ck) (i : Nat) (x : Str) : Bool := c.N[i]? == some x && c.st.contains i && (match c.sc.names.lookup x with | some .local => true | some .cell => c.cell | _ => false)
def notStar : Expr → Bool
  | .Starred _ _ => false
  | _ => true
def tyNames : List String := ["int", "str", "bool", "tuple", "list", "dict"]
def notCall : Expr → Bool
  | .Call .. => false
  | _ => true
def plainIx : Expr → Bool
  | .Slice .. => false
  | _ => true
def plainT : Expr → Bool
  | .UnaryOp .. => false
  | .BoolOp .. => false
  | .IfExp .. => false
  | .Compare .. => false
  | _ => true
def notComp : Expr → Bool
  | .ListComp .. => false
  | .SetComp .. => false
  | .DictComp .. => false
  | _ => true
def notSet : Expr → Bool
  | .Set .. => false
  | _ => true
def notTup : Expr → Bool
  | .Tuple .. => false
  | _ => true
mutual
def chkG (c : Ck) : Tgt → Expr → Bool
  | .nm i => fun e => match e with
    | .Name x _ => locB c i x
    | _ => false
  | .tup ts => fun e => match e with
    | .Tuple es _ _ => chkGs c ts es
    | _ => false
def chkGs (c : Ck) : List Tgt → List Expr → Bool
  | [] => fun es => es.isEmpty
  | t :: ts => fun es => match es with
    | e :: es => notStar e && chkG c t e && chkGs c ts es
    | [] => false
end
/-- a tuple display that stores nothing in another order -/
def plainAsg (c : Ck) : List Expr → Expr → Bool
  | ts, .Tuple vs _ _ => vs.all (foldedForSure 8) || !(ts.length == 2 || ts.length == 3) || vs.length != ts.length || ts.any fun e => match e with
    | .Name x _ => c.sc.names.lookup x != some .local
    | _ => true
  | _, _ => true
def namesOf : List Expr → List Str
  | [] => []
  | .Name x _ :: r => x :: namesOf r
  | _ :: r => namesOf r
def swapAsg (c : Ck) (ts vs : List Expr) : Bool :=
  (ts.length == 2 || ts.length == 3) && vs.length == ts.length && (namesOf ts).eraseDups.length == (namesOf ts).length && vs.all notStar && !vs.all (foldedForSure 8) && !vs.all (constantsAlone 8) &&
  (ts.all fun e => match e with
    | .Name x p => c.sc.names.lookup x == some .local && p.line == (ts.head?.map (·.pos.line)).getD 0
    | _ => false)
def inner (c : Ck) (scope : Scope) (own : List Nat) : Ck := { c with sc := relS scope c.sc, st := own, cell := false }
def ownN (c : Ck) (own : List Nat) : List (Str × Nat) := own.map fun i => (c.N.getD i "", i)
inductive Mode where
  | val | test | iter (t : Expr)
def dflt (v : Ck → Expr → Bool) : Mode → Ck → Expr → Bool
  | .val => v
  | .test => fun c e => plainT e && v c e
  | .iter _ => v
mutual
def chk : E → Mode → Ck → Expr → Bool
  | .non => dflt (fun c e => match e with
    | .Constant .none _ _ => true
    | _ => false)
  | .bl b => dflt (fun c e => match e with
    | .Constant (.bool b') _ _ => b == b'
    | _ => false)
  | .int i => dflt (fun c e => match e with
    | .Constant (.int i') _ _ => i == i'
    | _ => false)
  | .str x => dflt (fun c e => match e with
    | .Constant (.str x') _ _ => x == x'
    | _ => false)
  | .tyc n => dflt (fun c e => match e with
    | .Name x _ => tyNames.contains n && x == (n : Str) && glB c x && c.bl.contains x
    | _ => false)
  | .cst i => dflt (fun c e => match e with
    | .Name x _ => c.cs[i]? == some x && glB c x
    | _ => false)
  | .var i => dflt (fun c e => match e with
    | .Name x _ => visB c i x
    | _ => false)
  | .fz i => dflt (fun c e => match e with
    | .Name x _ => visB c i x
    | _ => false)
  | .mv i => dflt (fun c e => match e with
    | .Name x _ => visB c i x
    | _ => false)
  | .bop o a b => dflt (fun c e => match e with
    | .BinOp x o' y _ => o == o' && chk a .val c x && chk b .val c y
    | _ => false)
  | .cmp o a b => fun m => match m with
    | .test => (fun c e => match e with
    | .Compare x [o'] [y] _ => o == o' && notSet y && chk a .val c x && chk b .val c y
    | _ => false)
    | _ => (fun c e => match e with
    | .Compare x [o'] [y] _ => o == o' && notSet y && chk a .val c x && chk b .val c y
    | _ => false)
  | .chn o p a b d => fun m => match m with
    | .test => (fun c e => match e with
    | .Compare x [o', p'] [y, z] _ => o == o' && p == p' && notSet z && chk a .val c x && chk b .val c y && chk d .val c z
    | _ => false)
    | _ => (fun c e => match e with
    | .Compare x [o', p'] [y, z] _ => o == o' && p == p' && notSet z && chk a .val c x && chk b .val c y && chk d .val c z
    | _ => false)
  | .neg a => dflt (fun c e => match e with
    | .UnaryOp .USub x _ => chk a .val c x
    | _ => false)
  | .andV a b => fun m => match m with
    | .test => (fun c e => match e with
    | .BoolOp .And (x :: y :: r) p => chk a .test c x && (if r.isEmpty then chk b .test c y else chk b .test c (.BoolOp .And (y :: r) p))
    | _ => false)
    | _ => (fun c e => match e with
    | .BoolOp .And (x :: y :: r) p => chk a .val c x && (if r.isEmpty then chk b .val c y else chk b .val c (.BoolOp .And (y :: r) p))
    | _ => false)
  | .orV a b => fun m => match m with
    | .test => (fun c e => match e with
    | .BoolOp .Or (x :: y :: r) p => chk a .test c x && (if r.isEmpty then chk b .test c y else chk b .test c (.BoolOp .Or (y :: r) p))
    | _ => false)
    | _ => (fun c e => match e with
    | .BoolOp .Or (x :: y :: r) p => chk a .val c x && (if r.isEmpty then chk b .val c y else chk b .val c (.BoolOp .Or (y :: r) p))
    | _ => false)
  | .notV a => fun m => match m with
    | .test => (fun c e => match e with
    | .UnaryOp .Not x _ => chk a .test c x
    | _ => false)
    | _ => (fun c e => match e with
    | .UnaryOp .Not x _ => chk a .val c x
    | _ => false)
  | .ite t a b => fun m => match m with
    | .test => (fun c e => match e with
    | .IfExp w x y _ => chk t .test c w && chk a .test c x && chk b .test c y
    | _ => false)
    | _ => (fun c e => match e with
    | .IfExp w x y _ => chk t .test c w && chk a .val c x && chk b .val c y
    | _ => false)
  | .bi b as => dflt (fun c e => match e with
    | .Call (.Name x _) es [] _ => x == (b.id : Str) && glB c x && c.bl.contains x && !es.isEmpty && es.all notStar && chkAs as c es
    | _ => false)
  | .ty b as => dflt (fun c e => match e with
    | .Call (.Name x _) es [] _ => x == (b.id : Str) && glB c x && c.bl.contains x && !es.isEmpty && es.all notStar && chkAs as c es
    | _ => false)
  | .mth m a as => dflt (fun c e => match m, as, e with
    | .upper, [], .Call (.Attribute o n ap) [] [] cp => n == ("upper" : Str) && ap.endLine == cp.line && notCall o && chk a .val c o
    | _, _, _ => false)
  | .idx a b => dflt (fun c e => match e with
    | .Subscript x y _ => plainIx y && chk a .val c x && chk b .val c y
    | _ => false)
  | .slc a lo hi => dflt (fun c e => match e with
    | .Subscript x (.Slice l h none _) _ => chk a .val c x && (match lo, l with
      | .non, none => true
      | .non, some _ => false
      | _, some l => chk lo .val c l
      | _, _ => false) && (match hi, h with
      | .non, none => true
      | .non, some _ => false
      | _, some h => chk hi .val c h
      | _, _ => false)
    | _ => false)
  | .rev a => dflt (fun c e => match e with
    | .Subscript x (.Slice none none (some (.UnaryOp .USub (.Constant (.int 1) _ _) _)) _) _ => chk a .val c x
    | _ => false)
  | .tup as => dflt (fun c e => match e with
    | .Tuple es _ _ => chkDs as c es
    | _ => false)
  | .lst as => dflt (fun c e => match e with
    | .List es _ => chkDs as c es
    | _ => false)
  | .star _ => dflt (fun _ _ => false)
  | .lc elt tg it ifs own => dflt (fun c e => match e with
    | .ListComp el [⟨t, i, fs, 0⟩] scope _ => blkC c.N c.sc scope (ownN c own) && tg.st.all own.contains && notSet i && chk it (.iter t) c i && chkG (inner c scope own) tg t && chkTs ifs (inner c scope own) fs && chk elt .val (inner c scope own) el
    | _ => false)
  | .call f as => dflt (fun c e => match e with
    | .Call (.Name x _) es kws _ => (match c.fs[f]? with
      | some fe => fe.name == x && (if kws.isEmpty then fe.np == es.length else kws.all (fun q => q.arg.isSome) && fe.kws.contains (es.length, kws.filterMap (·.arg)) && !es.isEmpty)
      | none => false) && glB c x && (es ++ kws.map (·.value)).all notStar && chkAs as c (es ++ kws.map (·.value))
    | _ => false)
  | .dict0 => dflt (fun _ e => match e with
    | .Dict [] [] _ => true
    | _ => false)
  | .dict1 k n => dflt (fun _ e => match e with
    | .Dict [some (.Constant (.str k') _ _)] [.Constant (.int n') _ _] _ => k == k' && n == n'
    | _ => false)
  | .sset a => dflt (fun c e => match e with
    | .Call (.Name x _) [.Call (.Name y _) [z] [] _] [] _ => x == ("sorted" : Str) && y == ("set" : Str) && glB c x && glB c y && c.bl.contains x && c.bl.contains y && notStar z && chk a .val c z
    | _ => false)
  | .lr1 a => dflt (fun c e => match e with
    | .Call (.Name x _) [.Call (.Name y _) [z] [] _] [] _ => x == ("list" : Str) && y == ("range" : Str) && glB c x && glB c y && c.bl.contains x && c.bl.contains y && notStar z && chk a .val c z
    | _ => false)
  | .lr2 a b => dflt (fun c e => match e with
    | .Call (.Name x _) [.Call (.Name y _) [z, z'] [] _] [] _ => x == ("list" : Str) && y == ("range" : Str) && glB c x && glB c y && c.bl.contains x && c.bl.contains y && notStar z && notStar z' && chk a .val c z && chk b .val c z'
    | _ => false)
  | .rng1 a => fun m => match m with
    | .iter t => (fun c e => match e with
    | .Call (.Name x _) [y] [] _ => x == ("range" : Str) && glB c x && c.bl.contains x && notStar y && chk a .val c y
    | _ => false)
    | _ => fun _ _ => false
  | .rng2 a b => fun m => match m with
    | .iter t => (fun c e => match e with
    | .Call (.Name x _) [y, z] [] _ => x == ("range" : Str) && glB c x && c.bl.contains x && notStar y && notStar z && chk a .val c y && chk b .val c z
    | _ => false)
    | _ => fun _ _ => false
  | .enum _ => dflt (fun _ _ => false)
  | .zip a b => fun m => match m with
    | .iter t => (fun c e => match e with
    | .Call (.Name x _) [y, z] [] _ => !notTup t && x == ("zip" : Str) && glB c x && c.bl.contains x && notStar y && notStar z && chk a .val c y && chk b .val c z
    | _ => false)
    | _ => fun _ _ => false
def chkAs : List E → Ck → List Expr → Bool
  | [] => fun _ es => es.isEmpty
  | a :: as => fun c es => match es with
    | e :: es => chk a .val c e && chkAs as c es
    | [] => false
/-- displays' items -/
def chkDs : List E → Ck → List Expr → Bool
  | [] => fun _ es => es.isEmpty
  | a :: as => fun c es => match es with
    | e :: es => (match e with
      | .Starred e _ => (match a with
        | .star a => chk a .val c e
        | _ => false)
      | e => chk a .val c e) && chkDs as c es
    | [] => false
def chkTs : List E → Ck → List Expr → Bool
  | [] => fun _ es => es.isEmpty
  | a :: as => fun c es => match es, as with
    | [e], [] => chk a .test c e
    | _, _ => false
end
def chkE (a : E) : Ck → Expr → Bool := chk a .val
def chkT (a : E) : Ck → Expr → Bool := chk a .test
def chkI (a : E) (c : Ck) (e t : Expr) : Bool := chk a (.iter t) c e
/-- plain names, for a, b = .. -/
def chkPar (c : Ck) : List Nat → List Expr → Bool
  | [], [] => true
  | i :: is, .Name x _ :: es => locB c i x && chkPar c is es
  | _, _ => false
mutual
def chkS : S → Ck → Stmt → Bool
  | .set i e => fun c s => match s with
    | .Assign [.Name x px] v pos => locB c i x && chkE e c v && (notComp v || (match v with
      | .ListComp _ _ scope p => c.sc.names.lookup x == some .local && px.line == p.line && !(scope.names.any fun (n, k) => n == x && (k == .local || k == .cell))
      | _ => false))
    | _ => false
  | .setT tg e => fun c s => match tg, s with
    | .tup tg, .Assign [.Tuple ts _ _] v _ => chkGs c tg ts && notComp v && plainAsg c ts v && chkE e c v
    | _, _ => false
  | .par is es => fun c s => match s with
    | .Assign [.Tuple ts _ _] (.Tuple vs _ _) _ => chkPar c is ts && decide is.Nodup && (ts.length == 2 || ts.length == 3) && swapAsg c ts vs && chkAs es c vs
    | _ => false
  | .aug i o e => fun c s => match s with
    | .AugAssign (.Name x _) o' v _ => o == o' && (o == .Add || o == .Sub) && locB c i x && chkE e c v
    | _ => false
  | .sidx i k e => fun c s => match s with
    | .Assign [.Subscript (.Name x _) kx _] v _ => visB c i x && plainIx kx && notComp v && chkE k c kx && chkE e c v
    | _ => false
  | .app i e => fun c s => match s with
    | .Expr (.Call (.Attribute (.Name x _) m ap) [v] [] cp) p => m == ("append" : Str) && ap.endLine == cp.line && visB c i x && notStar v && chkE e c v
    | _ => false
  | .ext i e => fun c s => match s with
    | .Expr (.Call (.Attribute (.Name x _) m ap) [v] [] cp) p => m == ("extend" : Str) && ap.endLine == cp.line && visB c i x && notStar v && chkE e c v
    | _ => false
  | .ex e => fun c s => match s with
    | .Expr v _ => notComp v && chkE e c v
    | _ => false
  | .ret e => fun c s => match s with
    | .Return (some v) _ => chkE e c v
    | _ => false
  | .retN => fun c s => match s with
    | .Return none _ => true
    | _ => false
  | .ite t a b => fun c s => match s with
    | .If w x y _ => chkT t c w && chkSs a c x && chkSs b c y
    | _ => false
  | .whl t a => fun c s => match s with
    | .While w x [] _ => chkT t c w && chkSs a c x
    | _ => false
  | .for_ tg it a => fun c s => match s with
    | .For t i x [] _ => notSet i && chkG c tg t && chkI it c i t && chkSs a c x
    | _ => false
  | .brk => fun c s => match s with
    | .Break _ => true
    | _ => false
  | .cnt => fun c s => match s with
    | .Continue _ => true
    | _ => false
  | .pas => fun c s => match s with
    | .Pass _ => true
    | _ => false
  | .nev => fun _ _ => true
def chkSs : List S → Ck → List Stmt → Bool
  | [] => fun _ ss => ss.isEmpty
  | a :: as => fun c ss => match ss with
    | s :: ss => chkS a c s && chkSs as c ss
    | [] => false
end
/-! ### shapes -/
theorem star_cons {e : Expr} (h : notStar e = true) (es : List Expr) (env : PySem.Env) : starEach (e :: es) env = (false, eval e env) :: starEach es env := by
  cases e <;> first | rfl | cases h
theorem star_plain {pos : Pos} (env : PySem.Env) : ∀ {es : List Expr}, es.all notStar = true → (backTo pos (starEach es env)).any (·.1) = false
  | [], _ => rfl
  | e :: es, h => by
    rw [List.all_cons, Bool.and_eq_true] at h
    rw [star_cons h.1]
    show (false || (backTo pos (starEach es env)).any (·.1)) = false
    rw [star_plain env h.2]; rfl
theorem base_of {o : Expr} {n : Str} {env : PySem.Env} {t : Sem Value} (h : notCall o = true) : attributeBase o n env t = t := by
  cases o <;> first | rfl | cases h
theorem plainIx_of {e : Expr} (h : plainIx e = true) : PlainIx e := fun o i => by
  cases e <;> first | rfl | cases h
theorem isTrue_of {e : Expr} {env : PySem.Env} (h : plainT e = true) (whole : Sem Value) : isTrue e env whole = (do let v ← whole; standAt e.pos; holding [v] (truthy v)) := by
  cases e <;> first | rfl | cases h
theorem marks_of {op : CmpOp} {e : Expr} (h : notSet e = true) : behindInMarks op e = false := by
  cases e <;> first | rfl | cases h
theorem lastMarks_of {o p : CmpOp} {y z : Expr} (h : notSet z = true) : lastMarks [o, p] [y, z] = false := by
  show behindInMarks p z = false
  exact marks_of h
theorem folded_of {e : Expr} {env : PySem.Env} (h : notSet e = true) (x : Value) : foldedSetIterable e env x = pure x := by
  cases e <;> first | rfl | cases h
theorem noswap_of {e : Expr} {t : Option Expr} {l : Nat} {env : PySem.Env} (h : notComp e = true) : swapsWith e t l env = pure false := by
  cases e <;> first | rfl | cases h
theorem assign_cons {e : Expr} {es : List Expr} {env : PySem.Env} (h : notStar e = true) : assignEach (e :: es) env = (false, assign e env) :: assignEach es env := by
  cases e <;> first | rfl | cases h
end Lw
end

section
set_option Elab.async false
set_option linter.all false
set_option maxRecDepth 100000
set_option maxHeartbeats 4000000
/-! L16: readings of the composed expressions -/
namespace Lw
open PySem L2
section
variable {K : PySem.W.Frag} {mg : Str → Option Value} {W : WX} {P P' P1 P2 : Addr → Prop} {H H' H1 H0 H2 : Hp} {σ σ' σ1 : L2.St} {E E' E1 E0 : SE} {Q : VK}
theorem isEmpty_len {α β : Type} {xs : List α} {ys : List β} (h : xs.length = ys.length) : (!xs.isEmpty) = !ys.isEmpty := by
  cases xs <;> cases ys <;> simp at h ⊢
theorem truth_ok {T : Addr → Prop} {v : V} {d : D} {b : Bool} (h : TopB K H T v d) (e : truthD d = some b) : TruV K v H b := by
  unfold truthD at e
  split at e
  · have := h.non; subst this; cases e; rfl
  · have := h.bl; subst this; cases e; rfl
  · have := h.int; subst this; cases e; rfl
  · have := h.str; subst this
    split at e
    · cases e; exact ⟨by assumption, rfl⟩
    · cases e
  · obtain ⟨p, vs, rfl, h1, h2⟩ := h.lst
    cases e
    refine .inl ⟨vs, SqL.of h1, ?_⟩
    rw [isEmpty_len h2.length]
  · obtain ⟨p, vs, rfl, h1, h2⟩ := h.tup
    cases e
    refine .inr (.inl ⟨vs, h1, ?_⟩)
    rw [isEmpty_len h2.length]
  · obtain ⟨p, rfl, h1⟩ := h.scr
    cases e
    refine .inl ⟨_, h1.sq, ?_⟩
    rename_i ns
    cases ns <;> rfl
  · obtain ⟨p, vs, rfl, h1, h2, h3⟩ := h.dk
    cases e
    refine .inr (.inr ⟨_, h1, ?_⟩)
    rename_i ks _
    cases ks with
    | nil => simp
    | cons k ks =>
      cases vs with
      | nil => simp at h2
      | cons v vs => simp
  · cases e
theorem truR {X : Cx} : TruR X (rTru X.K) := fun pins s σ H x v Q I rx ⟨T, d, b, h, e, q⟩ => tru_ok pins s σ H x v Q I rx ⟨b, truth_ok h e, q⟩
theorem cmpS_bl {o : CmpOp} {a b : D} {s : Sl} (h : cmpS o a b = some s) : ∃ k, s = vB k := by
  have m : ∀ {x : Option Bool} {f : Bool → Bool}, (x.map fun k => vB (f k)) = some s → ∃ k, s = vB k := fun {x f} e => by
    cases x with
    | none => cases e
    | some k => cases e; exact ⟨_, rfl⟩
  have m0 : ∀ {x : Option Bool}, x.map vB = some s → ∃ k, s = vB k := fun {x} e => by
    cases x with
    | none => cases e
    | some k => cases e; exact ⟨_, rfl⟩
  have m2 : ∀ {c : Bool} {k : Bool}, (if c = true then some (vB k) else none) = some s → ∃ k, s = vB k := fun {c k} e => by
    cases c with
    | false => cases e
    | true => cases e; exact ⟨_, rfl⟩
  unfold cmpS at h
  cases o <;> dsimp only at h
  · exact m0 h
  · exact m h
  all_goals (split at h <;> first | (cases h; exact ⟨_, rfl⟩) | cases h | exact m0 h | exact m h | exact m2 h)
/-- a comparison's truth -/
theorem cmp_tru {o : CmpOp} {x y : V} {Q : Bool → Hp → Prop} (h : r2D K (cmpS o) x y H fun x H' => rTru K x H' Q) : r2D K (cmpS o) x y H fun x H' => ∃ k, x = .bl k ∧ Q k H' := by
  obtain ⟨T, a, b, h1, h2, h3⟩ := h
  refine ⟨T, a, b, h1, h2, ?_⟩
  cases e : cmpS o a b with
  | none => rw [e] at h3; exact h3
  | some s =>
    rw [e] at h3
    obtain ⟨k, rfl⟩ := cmpS_bl e
    intro v H' ext r
    obtain ⟨T', d, b, t, e, q⟩ := h3 v H' ext r
    have hv : v = .bl k := by
      obtain ⟨S, r, _⟩ := (show RepB K H' T v (.bl k) from r)
      cases r; rfl
    subst hv
    refine ⟨k, rfl, ?_⟩
    obtain ⟨S, t, _⟩ := t
    cases t with
    | sc t _ =>
      cases t
      cases e
      exact q
theorem tt_cmp {o : CmpOp} {oa ob : Opd} {Q : Bool → Hp → Prop} (h : tOp (r2D K (cmpS o)) (tOpd K mg W oa) (tOpd K mg W ob) σ H fun x H1 => rTru K x H1 Q) : tTest (tOp (r2D K (cmpS o)) (tOpd K mg W oa) (tOpd K mg W ob)) σ H Q :=
  op_mono h fun x H1 h => op_mono h fun y H2 h => cmp_tru h
/-- a < b < c -/
theorem te_chn {o o' : CmpOp} {oa ob oc : Opd} (h : TEof K mg W (M.bind (evA [oa, ob]) fun ds => match ds with
    | [.int x, .int y] => match cmpS o (.int x) (.int y) with
      | some (.val (.bl true)) => M.bind (evA [oc]) fun es => M.opt (match es with | [.int z] => cmpS o' (.int y) (.int z) | _ => none)
      | some (.val (.bl false)) => M.pure (vB false)
      | _ => M.bad
    | _ => M.bad) σ H Q) : tChain (r2D K (cmpS o)) (r2D K (cmpS o')) (tOpd K mg W oa) (tOpd K mg W ob) (tOpd K mg W oc) σ H Q := by
  obtain ⟨P, E, gd, h⟩ := h
  have ha := bindA (os := [oa, ob]) ppE gd h
  refine op_mono (show tOpd K mg W oa σ H _ from ha) fun v H1 hb => ?_
  refine op_mono (show tOpd K mg W ob σ H1 _ from hb) fun w H2 hc => ?_
  clear h ha hb gd
  obtain ⟨ds, P1, E1, g1, ts, h⟩ := hc
  obtain ⟨x, y, rfl⟩ : ∃ x y, ds = [.int x, .int y] := by
    rcases ds with _ | ⟨d1, _ | ⟨d2, _ | ⟨d3, r⟩⟩⟩
    · exact h.elim
    · cases d1 <;> exact h.elim
    · cases d1 <;> first | exact h.elim | (cases d2 <;> first | exact h.elim | exact ⟨_, _, rfl⟩)
    · cases d1 <;> first | exact h.elim | (cases d2 <;> exact h.elim)
  have e2 := ts.ints2
  cases e2
  obtain ⟨t1, t2⟩ : TopB K H2 (Fz P1 σ E1) (.int x) (.int x) ∧ TopB K H2 (Fz P1 σ E1) (.int y) (.int y) := by
    cases ts with
    | cons t1 ts => cases ts with
      | cons t2 ts => exact ⟨t1, t2⟩
  refine ⟨_, _, _, t1, t2, ?_⟩
  dsimp only at h
  cases e : cmpS o (.int x) (.int y) with
  | none => rw [e] at h; exact h.elim
  | some s =>
  obtain ⟨k, rfl⟩ := cmpS_bl e
  rw [e] at h
  intro z H3 ext r
  have hz : z = .bl k := by
    obtain ⟨S, r, _⟩ := (show RepB K H3 _ z (.bl k) from r)
    cases r; rfl
  refine ⟨k, hz, ?_⟩
  have h3 := ppE.step h (Lnk.ext ext) fun _ z => z
  cases k with
  | true =>
    rw [if_pos rfl]
    refine op_mono (show tOpd K mg W oc σ H3 _ from bindA (os := [oc]) ppE (g1.ext ext) h3) fun u H4 hd => ?_
    clear h3
    obtain ⟨ds, P2, E2, g2, ts2, h4⟩ := hd
    obtain ⟨zz, rfl⟩ : ∃ z, ds = [.int z] := by
      rcases ds with _ | ⟨d1, _ | ⟨d2, r⟩⟩
      · exact h4.elim
      · cases d1 <;> first | exact h4.elim | exact ⟨_, rfl⟩
      · cases d1 <;> exact h4.elim
    obtain ⟨t3⟩ : Nonempty (PLift (TopB K H4 (Fz P2 σ E2) u (.int zz))) := by
      cases ts2 with
      | cons t3 ts => exact ⟨⟨t3⟩⟩
    refine ⟨_, _, _, (RepB.int (K := K) (H := H4) (T := Fz P2 σ E2) y).top, t3.down, ?_⟩
    dsimp only at h4
    cases e3 : cmpS o' (.int y) (.int zz) with
    | none => rw [e3] at h4; exact h4.elim
    | some s =>
      rw [e3] at h4
      intro q H5 ext5 pr
      exact post_of g2 g2 Lnk.refl (fun _ z => z) ext5 pr h4
  | false =>
    rw [if_neg (by decide)]
    exact ok_val (g1.ext ext) (.bl false) h3
/-! ### slices -/
def partV : Bool → V → Option (Option Int)
  | true, .non => some none
  | false, .int i => some (some i)
  | _, _ => none
theorem part_of {T : Addr → Prop} {b : Bool} {v : V} {d : D} {lo : Option Int} (t : TopB K H T v d) (e : partD b d = some lo) : partV b v = some lo := by
  unfold partD at e
  split at e
  · have := t.non; subst this; cases e; rfl
  · have := t.int; subst this; cases e; rfl
  · cases e
theorem te_part {b : Bool} {o : Opd} {G : VK} (h : tOpd K mg W (partO b o) σ H G) : tOpd K mg W o σ H fun v H1 => ∃ lo, partV b v = some lo ∧ G v H1 :=
  op_mono (te_op1 (f := fun d => (partD b d).map fun _ => .val d) h) fun v H1 ⟨T, d, t, q⟩ => by
    dsimp only at q
    cases e : partD b d with
    | none => rw [e] at q; exact q.elim
    | some lo =>
      rw [e] at q
      refine ⟨lo, part_of t e, PostP.v q ?_⟩
      unfold partD at e
      split at e
      · have := t.non; subst this; exact .non
      · have := t.int; subst this; exact .int _
      · cases e
theorem te_slc {oa ol oh : Opd} {bl bh : Bool} (h : TEof K mg W (M.bind (evA [oa, partO bl ol, partO bh oh]) fun ds => M.opt (slP bl bh ds)) σ H Q) :
    tOpd K mg W oa σ H fun x H1 => tOpd K mg W ol σ H1 fun l H2 => ∃ lo, partV bl l = some lo ∧ tOpd K mg W oh σ H2 fun u H3 => ∃ hi, partV bh u = some hi ∧ rsD K x lo hi H3 Q := by
  have h := prim_sound (ops := [oa, partO bl ol, partO bh oh]) (p := slP bl bh) (r := fun Q vs H => match vs with | [x, l, u] => ∃ lo hi, partV bl l = some lo ∧ partV bh u = some hi ∧ rsD K x lo hi H Q | _ => False) (fun vs H Q T ds ts q => by
    unfold slP at q
    split at q
    · cases ts with
      | cons t1 ts => cases ts with
        | cons t2 ts => cases ts with
          | cons t3 ts => cases ts with
            | nil =>
              split at q
              · exact ⟨_, _, part_of t2 (by assumption), part_of t3 (by assumption), T, _, t1, q⟩
              · exact q.elim
    · exact q.elim) σ H Q h
  refine op_mono (show tOpd K mg W oa σ H _ from h) fun x H1 h1 => ?_
  refine op_mono (te_part (show tOpd K mg W (partO bl ol) σ H1 _ from h1)) fun l H2 ⟨lo, e, h2⟩ => ⟨lo, e, ?_⟩
  refine op_mono (te_part (show tOpd K mg W (partO bh oh) σ H2 _ from h2)) fun u H3 ⟨hi, e2, h3⟩ => ⟨hi, e2, ?_⟩
  obtain ⟨lo', hi', e3, e4, q⟩ := h3
  rw [e] at e3; cases e3
  rw [e2] at e4; cases e4
  exact q
/-! ### displays -/
theorem disp_tup {P : Addr → Prop} {xs : List V} {ds : List D} {p : Addr} (g : Good K P H σ E) (r : RepsB K H (Fz P σ E) xs ds) (hp : H p = none) (h : PostE K mg W P σ E H Q (.ok (.val (.tup ds)) E)) : Q (.ref p) (upd H p (.tup xs)) :=
  post_of g g Lnk.refl (fun _ z => z) (ext_upd hp) (s := .val (.tup ds)) (RepB.tup (SqT.of upd_same) (r.keep (Kp.of (ext_upd hp)))) h
theorem disp_lst {P : Addr → Prop} {xs : List V} {ds : List D} {p : Addr} (g : Good K P H σ E) (r : RepsB K H (Fz P σ E) xs ds) (hp : H p = none) (h : PostE K mg W P σ E H Q (.ok (.own (.lst ds)) E)) : Q (.ref p) (upd H p (.lst xs)) :=
  post_of g g Lnk.refl (fun _ z => z) (ext_upd hp) (s := .own (.lst ds)) ⟨p, rfl, hp, OwnB.lst upd_same ((r.monoD fun b o e z => ⟨z, ne_of_none e hp⟩ : RepsB K H (fun b => Fz P σ E b ∧ b ≠ p) xs ds).keep (Kp.of (ext_upd hp)))⟩ h
theorem te_tup {Φ : Nat → M Sl} {C : Nat → D} {as : List Lw.E} (h : TEof K mg W (M.bind (evD Φ C as) fun ds => if ds.length ≤ sizeLine then M.pure (.val (.tup ds)) else M.bad) σ H Q) : tTup (tDisp K mg W Φ C as) σ H Q := by
  obtain ⟨P, E, g, h⟩ := h
  refine dispL as σ H _ ⟨P, E, g, ?_⟩
  rw [mbind] at h
  cases e : evD Φ C as E with
  | bad => rw [e] at h; exact h
  | exc Cn x E1 => rw [e] at h; exact h
  | ok ds E1 =>
    rw [e, bind_ok] at h
    intro vs H1 g1 l1 rs
    by_cases hz : ds.length ≤ sizeLine
    · rw [if_pos hz] at h
      exact ⟨by rw [rs.length]; exact hz, fun p hp => disp_tup g1 rs hp (ppE.step (r := .ok (.val (.tup ds)) E1) h l1 fun _ z => z)⟩
    · rw [if_neg hz] at h; exact h.elim
theorem te_lst {Φ : Nat → M Sl} {C : Nat → D} {as : List Lw.E} (h : TEof K mg W (M.bind (evD Φ C as) fun ds => if ds.length ≤ sizeLine then M.pure (.own (.lst ds)) else M.bad) σ H Q) : tLst (tDisp K mg W Φ C as) σ H Q := by
  obtain ⟨P, E, g, h⟩ := h
  refine dispL as σ H _ ⟨P, E, g, ?_⟩
  rw [mbind] at h
  cases e : evD Φ C as E with
  | bad => rw [e] at h; exact h
  | exc Cn x E1 => rw [e] at h; exact h
  | ok ds E1 =>
    rw [e, bind_ok] at h
    intro vs H1 g1 l1 rs
    by_cases hz : ds.length ≤ sizeLine
    · rw [if_pos hz] at h
      exact ⟨by rw [rs.length]; exact hz, fun p hp => disp_lst g1 rs hp (ppE.step (r := .ok (.own (.lst ds)) E1) h l1 fun _ z => z)⟩
    · rw [if_neg hz] at h; exact h.elim
/-- a new object of one's own -/
theorem te_new {d : D} (h : TEof K mg W (M.pure (.own d)) σ H Q) {p : Addr} {H' : Hp} (hp : H p = none) (ext : ∀ a o, H a = some o → H' a = some o) (r : ∀ T, OwnB K H' T p d) : Q (.ref p) H' := by
  obtain ⟨P, E, g, h⟩ := h
  exact post_of g g Lnk.refl (fun _ z => z) ext (s := .own d) ⟨p, rfl, hp, r _⟩ h
theorem te_dict0 (h : TEof K mg W (M.pure (.own (.dk [] []))) σ H Q) : tDNewK σ H Q := fun p hp =>
  te_new h hp (ext_upd hp) fun T => ⟨[], .dk (vs := []) upd_same rfl .nil, fun _ z => nomatch z⟩
theorem te_dict1 {k : Str} {n : Int} (h : TEof K mg W (M.pure (.own (.dk [.inr k] [.int n]))) σ H Q) : L2.tDisp [(tC (.str k), tC (.int n))] σ H Q := fun p hp => by
  refine ⟨upd_same, [(.inr k, .int n)], rfl, by simp, ?_⟩
  refine te_new h hp (fun a o e => ?_) fun T => ⟨[], .dk (vs := [.int n]) upd_same rfl (.cons (.int n) .nil), fun _ z => nomatch z⟩
  have hne : a ≠ p := ne_of_none e hp
  rw [upd_ne hne, upd_ne hne]; exact e
theorem te_sset {P : Program} {w : World} {o : Opd} (h : TEof K mg W (M.bind (evA [o]) fun ds => M.opt (match ds with | [x] => ssetS x | _ => none)) σ H Q) :
    tCB (rSortedT K P w) (tCons (tCB (rSetOfT K P w) (tCons (tOpd K mg W o) tNil)) tNil) σ H Q :=
  op_mono (te_op1 h) fun x H1 ⟨T, d, t, q⟩ => by
    unfold ssetS at q
    split at q
    · rename_i xs
      cases ep : prsOf xs with
      | none => rw [ep] at q; exact q.elim
      | some ps =>
        rw [ep] at q
        dsimp only at q
        split at q
        · rename_i hlen
          obtain ⟨l, vs, rfl, h1, h2⟩ := t.lst
          obtain ⟨ks, rfl, k1, k2, k3⟩ := prs_at ep h2
          have kl : ks.length = ps.length := by have := congrArg List.length k2; simpa using this
          refine ⟨l, ks, rfl, SqL.of h1, k1, by omega, fun a L ha sub cov => ?_⟩
          have ext := ext_upd (o := SetTO P w a L) ha
          have inps : ∀ p ∈ L, ∃ q ∈ ps, p.2 = prL q := fun p hp => by
            have : p.2 ∈ ks.map (·.2) := List.mem_map_of_mem (sub p hp)
            rw [k2] at this
            obtain ⟨q, hq, e⟩ := List.mem_map.mp this
            exact ⟨q, hq, e.symm⟩
          refine ⟨a, L, 2, 2 ^ 31, rfl, upd_same, fun p hp => (Kp.of ext : Kp (fun _ => True) H1 _).sqT (k1 p (sub p hp)), by decide, fun p hp => ?_, fun L' p pm nd hln pw hp => ?_⟩
          · obtain ⟨q, hq, e⟩ := inps p hp
            rw [e]
            have := k3 q hq
            refine ⟨rfl, fun x hx => ?_⟩
            simp [prL] at hx
            rcases hx with rfl | rfl
            · exact this.1
            · exact this.2
          · have hpa : p ≠ a := fun e => by rw [e, upd_same] at hp; cases hp
            rw [upd_ne hpa] at hp
            -- what is sorted
            have toP : ∀ q ∈ L', ∃ r ∈ ps, q.2 = prL r := fun q hq => inps q (pm.mem_iff.mp hq)
            have getP : ∃ rs : List (Int × Int), L'.map (·.2) = rs.map prL ∧ ∀ r ∈ rs, r ∈ ps := by
              clear pm nd pw hln
              induction L' with
              | nil => exact ⟨[], rfl, fun _ z => (List.not_mem_nil z).elim⟩
              | cons q L' ih =>
                obtain ⟨rs, e1, e2⟩ := ih fun q hq => toP q (List.mem_cons_of_mem _ hq)
                obtain ⟨r, hr, e⟩ := toP q List.mem_cons_self
                exact ⟨r :: rs, by simp [e, e1], fun x hx => (List.mem_cons.mp hx).elim (fun z => z ▸ hr) (e2 x)⟩
            obtain ⟨rs, e1, e2⟩ := getP
            have srt : rs.Pairwise LtP := by
              have pw' : (L'.map (·.2)).Pairwise fun a b => TS.code (2 ^ 31) a ≤ TS.code (2 ^ 31) b := List.pairwise_map.mpr pw
              have nd' : (L'.map (·.2)).Pairwise (· ≠ ·) := nd
              rw [e1] at pw' nd'
              rw [List.pairwise_map] at pw' nd'
              refine (pw'.and nd').imp_of_mem fun {x y} hx hy z => ?_
              have bx := k3 x (e2 x hx)
              have by' := k3 y (e2 y hy)
              have bd : ∀ z : Int × Int, ((0 ≤ z.1 ∧ z.1 < 2 ^ 31) ∧ (0 ≤ z.2 ∧ z.2 < 2 ^ 31)) → TS.Bd (2 ^ 31) [z.1, z.2] := fun z hz u hu => by
                simp at hu
                rcases hu with rfl | rfl
                · exact hz.1
                · exact hz.2
              have := code_lex (bd x bx) (bd y by') z.1
              rw [LtP, ltP_iff]
              have ne : ¬ (x.1 = y.1 ∧ x.2 = y.2) := fun e => z.2 (by rw [Prod.ext e.1 e.2])
              omega
            have eq : rs = sortP ps := sorted_uniq srt sorted_sortP fun x => by
              rw [mem_sortP]
              refine ⟨e2 x, fun hx => ?_⟩
              have hk : prL x ∈ ks.map (·.2) := by rw [k2]; exact List.mem_map_of_mem hx
              obtain ⟨q, hq, e⟩ := List.mem_map.mp hk
              have := cov q hq
              rw [e] at this
              have := (pm.map (·.2)).mem_iff.mpr this
              rw [e1] at this
              obtain ⟨r, hr, e⟩ := List.mem_map.mp this
              rw [← prL_inj e]; exact hr
            subst eq
            refine q (.ref p) _ (fun b o e => ?_) ⟨p, rfl, hp, OwnB.lst upd_same (RepsB.of_get (by have := congrArg List.length e1; simpa using this) fun i v d ev ed => ?_)⟩
            · have n1 : b ≠ p := ne_of_none e hp
              have n2 : b ≠ a := ne_of_none e ha
              rw [upd_ne n1, upd_ne n2]; exact e
            · rw [List.getElem?_map] at ev ed
              cases ei : L'[i]? with
              | none => rw [ei] at ev; cases ev
              | some q0 =>
                rw [ei] at ev
                cases ev
                cases er : (sortP ps)[i]? with
                | none => rw [er] at ed; cases ed
                | some r =>
                  rw [er] at ed
                  cases ed
                  have h0 : (L'.map (·.2))[i]? = ((sortP ps).map prL)[i]? := by rw [e1]
                  rw [List.getElem?_map, List.getElem?_map, ei, er] at h0
                  have h0 : q0.2 = prL r := by simpa using h0
                  have sq := k1 q0 (sub q0 (pm.mem_iff.mp (List.mem_of_getElem? ei)))
                  have ex2 : ∀ b o, H1 b = some o → upd (upd H1 a (SetTO P w a L)) p (.lst (L'.map fun q => V.ref q.1)) b = some o := fun b o e => by
                    have n1 : b ≠ p := ne_of_none e hp
                    have n2 : b ≠ a := ne_of_none e ha
                    rw [upd_ne n1, upd_ne n2]; exact e
                  have sq := (Kp.of ex2 : Kp (fun _ => True) H1 _).sqT sq
                  rw [h0] at sq
                  exact RepB.tup sq (.cons (.int _) (.cons (.int _) .nil))
        · exact q.elim
    · exact q.elim
def tRev2 (K : PySem.W.Frag) (te : TE) : TE := fun σ H Q => te σ H fun x H1 => ∃ a xs, x = .ref a ∧ ((SqL K H1 a xs ∧ ∀ p, H1 p = none → Q (.ref p) (upd H1 p (.lst xs.reverse))) ∨ (SqT K H1 a xs ∧ ∀ p, H1 p = none → Q (.ref p) (upd H1 p (.tup xs.reverse))))
theorem te_rev {o : Opd} (h : TEof K mg W (M.bind (evA [o]) fun ds => M.opt (match ds with | [x] => revS x | _ => none)) σ H Q) : tRev2 K (tOpd K mg W o) σ H Q :=
  op_mono (te_op1 h) fun x H1 ⟨T, d, t, q⟩ => by
    cases d with
    | lst xs =>
      obtain ⟨p, vs, rfl, h1, h2⟩ := t.lst
      exact ⟨p, vs, rfl, .inl ⟨SqL.of h1, fun a ha => PostP.newLst q ha h2.reverse⟩⟩
    | tup xs =>
      obtain ⟨p, vs, rfl, h1, h2⟩ := t.tup
      exact ⟨p, vs, rfl, .inr ⟨h1, fun a ha => PostP.newTup q ha h2.reverse⟩⟩
    | _ => exact q.elim
theorem te_upper {o : Opd} (h : TEof K mg W (M.bind (evA [o]) fun ds => M.opt (mtP .upper ds)) σ H Q) : tM0 (fun x xs H Q => ∃ a, x = .str a ∧ xs = [] ∧ a.length ≤ 5592405 ∧ Q (.str (Txt.upper a)) H) (tOpd K mg W o) σ H Q := by
  have h := prim_sound (ops := [o]) (p := mtP .upper) (r := fun Q vs H => match vs with | [x] => r1D K (fun d => mtS .upper d []) x H Q | _ => False) (fun vs H Q T ds ts q => by
    cases ts with
    | nil => exact q.elim
    | cons t1 ts =>
      cases ts with
      | nil => exact ⟨T, _, t1, q⟩
      | cons t2 ts => rename_i v1 d1 v2 d2 l1 l2; cases d1 <;> exact q.elim) σ H Q h
  refine op_mono (show tOpd K mg W o σ H _ from h) fun x H1 ⟨T, d, t, q⟩ => ?_
  cases d with
  | str z =>
    have := t.str; subst this
    simp only [mtS] at q
    split at q
    · rename_i hz
      exact ⟨⟨z, rfl⟩, z, rfl, rfl, hz, PostP.v q (.str _)⟩
    · exact q.elim
  | _ => exact q.elim
theorem te_neg {o : Opd} (h : TEof K mg W (M.bind (evA [o]) fun ds => M.opt (match ds with | [x] => negS x | _ => none)) σ H Q) : tUn (rU fun i => .int (-i)) (tOpd K mg W o) σ H Q :=
  op_mono (te_op1 h) fun x H1 ⟨T, d, t, q⟩ => by
    cases d with
    | int i =>
      have := t.int; subst this
      exact ⟨i, rfl, PostP.v q (.int _)⟩
    | _ => exact q.elim
theorem rgV_reps {T : Addr → Prop} (a b : Int) : RepsB K H T (rgV a b) (rngD a b) := by
  unfold rgV rngD
  refine RepsB.of_get (by simp) fun i v d e1 e2 => ?_
  rw [List.getElem?_map] at e1 e2
  cases e : (List.range (b - a).toNat)[i]? with
  | none => rw [e] at e1; cases e1
  | some j =>
    rw [e] at e1 e2
    cases e1; cases e2
    exact .int _
theorem lr_ok {T : Addr → Prop} {a b : Int} {Q : VK} (q : PostP K H T Q (lrS a b)) : RgOk a b ∧ ∀ p, H p = none → Q (.ref p) (upd H p (.lst (rgV a b))) := by
  unfold lrS at q
  split at q
  · rename_i h
    exact ⟨⟨h.1.1, h.1.2, h.2.1.1, h.2.1.2, h.2.2⟩, fun p hp => PostP.newLst q hp (rgV_reps a b)⟩
  · exact q.elim
theorem te_lr1 {o : Opd} (h : TEof K mg W (M.bind (evA [o]) fun ds => M.opt (match ds with | [x] => lr1S x | _ => none)) σ H Q) : tLstRg (tRg1 (tOpd K mg W o)) σ H Q :=
  op_mono (te_op1 h) fun x H1 ⟨T, d, t, q⟩ => by
    cases d with
    | int n =>
      have := t.int; subst this
      exact ⟨n, rfl, lr_ok q⟩
    | _ => exact q.elim
theorem te_lr2 {o p : Opd} (h : TEof K mg W (M.bind (evA [o, p]) fun ds => M.opt (match ds with | [x, y] => lr2S x y | _ => none)) σ H Q) : tLstRg (tRg2 (tOpd K mg W o) (tOpd K mg W p)) σ H Q :=
  op_mono (te_op2 h) fun x H1 h => op_mono h fun y H2 ⟨T, a, b, t1, t2, q⟩ => by
    cases a with
    | int m =>
      cases b with
      | int n =>
        have := t1.int; subst this
        have := t2.int; subst this
        exact ⟨m, n, rfl, rfl, lr_ok q⟩
      | _ => exact q.elim
    | _ => exact q.elim
end
section
variable {X : Cx}
open PyProof.Rows in
/-- xs[::-1] of a list or a tuple -/
theorem pe_rev2 {e : Expr} {te : TE} {k : Nat} {p1 p2 p3 pos : Pos} (he : PE X e te) : PE X (.Subscript e (.Slice none none (some (.UnaryOp .USub (.Constant (.int 1) k p1) p2)) p3) pos) (tRev2 X.K te) := by
  refine ⟨fun pins s σ H Q I h => ?_⟩
  refine Subscript_ (thn (he.run pins s σ H _ I h) fun v s1 ⟨x, H1, I1, r1, a, xs, ex, hq⟩ => ?_)
  subst ex
  cases r1
  have one : PO X (some (.UnaryOp .USub (.Constant (.int 1) k p1) p2)) (tPart (tUn (rU fun i => .int (-i)) (tC (.int 1)))) := po_some (pe_un un_neg pe_int)
  refine wpAny_Slice (thn (po_none.run pins s1 σ H1 (fun o J => o = none ∧ J = H1) I1 ⟨rfl, rfl⟩) fun vl s2 ⟨l, H2, I2, pl, el, e2⟩ => ?_)
  subst el e2
  refine thn (po_none.run pins s2 σ H2 (fun o J => o = none ∧ J = H2) I2 ⟨rfl, rfl⟩) fun vu s3 ⟨u, H3, I3, pu, eu, e3⟩ => ?_
  subst eu e3
  refine thn (one.run pins s3 σ H3 (fun o J => o = some (-1) ∧ J = H3) I3 ⟨1, rfl, -1, rfl, rfl, rfl⟩) fun vs s4 ⟨o, H4, I4, ps, eo, e4⟩ => ?_
  subst eo e4
  have J : Inv X pins σ H4 { s4 with heap := s4.heap.push { cls := .type "slice", data := .fields #[vl, vu, vs] } } := I4.kept (t' := s4.toks) fun b ob q => Heap.get?_push_of_some _ q
  rcases hq with ⟨hx, q⟩ | ⟨hx, q⟩
  · obtain ⟨its, r, ht, hz⟩ := J.list hx
    have hl := r.length
    refine tail_any (ops := [.ref a, .ref s4.heap.objs.size]) ht.isList.typeIs (PySem.slot_list_getitem.lookup) ?_ (by with_unfolding_all rfl)
    refine wpAny_getItem_list_slice ht.isList (Heap.IsSliceOf.new _ vl vu vs) pl pu ps (by decide) ?_ (by rw [List.size_toArray]; omega)
    rw [PySem.W.krv_pick]
    refine ⟨.ref _, _, J.laid (t' := s4.toks) (o := .lst xs.reverse) (fun b ob z => Heap.get?_push_of_some _ z) (Nat.le_refl _) ?_, rfl, q _ (J.hok.fresh (Nat.le_refl _))⟩
    exact ⟨by rw [List.length_reverse]; exact hz, _, 0, r.reverse, Heap.get?_push_size _ rfl⟩
  · obtain ⟨its, r, ht, hz⟩ := J.tuple hx
    have hl := r.length
    refine tail_any (ops := [.ref a, .ref s4.heap.objs.size]) ht.typeIs (PyProof.Rows.slot_tuple_getitem.lookup) ?_ (by with_unfolding_all rfl)
    refine tup_back ht (Heap.IsSliceOf.new _ vl vu vs) pl pu ps ?_ (by rw [List.size_toArray]; omega)
    refine ⟨.ref _, _, J.laid (t' := s4.toks) (o := .tup xs.reverse) (fun b ob z => Heap.get?_push_of_some _ z) (Nat.le_refl _) ?_, rfl, q _ (J.hok.fresh (Nat.le_refl _))⟩
    exact ⟨by rw [List.length_reverse]; exact hz, _, r.reverse, IsTup.new _ _⟩
end
end Lw
end

section
set_option Elab.async false
set_option linter.all false
set_option maxRecDepth 100000
set_option maxHeartbeats 4000000
/-! L17: the checker's word is good: expressions -/
namespace Lw
open PySem L2
section
variable {K : PySem.W.Frag} {mg : Str → Option Value} {W : WX}
theorem tArg_mono {o : Arg} {σ : L2.St} {H : Hp} {Q Q' : VK} (h : tArg K mg W o σ H Q) (m : ∀ v H, Q v H → Q' v H) : tArg K mg W o σ H Q' := by
  cases o with
  | slot i => obtain ⟨v, e, q⟩ := h; exact ⟨v, e, m _ _ q⟩
  | ex f => exact te_mono h m
theorem tArgs_mono : ∀ (as : List Arg) {σ : L2.St} {H : Hp} {Q Q' : List V → Hp → Prop}, (∀ v H, Q v H → Q' v H) → tArgs K mg W as σ H Q → tArgs K mg W as σ H Q'
  | [], _, _, _, _, m, h => m _ _ h
  | a :: as, _, _, _, _, m, h => tArg_mono (show tArg K mg W a _ _ _ from h) fun v H1 q => tArgs_mono as (fun vs H2 q => m _ _ q) q
end
theorem okN_d {x : Str} (h : okN x = true) : (x == ("__debug__" : Str)) = false := by
  unfold okN at h; revert h; cases (x == ("__debug__" : Str)) <;> simp
theorem okN_c {x : Str} (h : okN x = true) : (x == ("__classdict__" : Str)) = false := by
  unfold okN at h; revert h; cases (x == ("__classdict__" : Str)) <;> simp
theorem okN_n {x : Str} (h : okN x = true) : x ≠ "__name__" := by
  unfold okN at h; intro e; subst e; revert h; simp
section
variable {X : Cx} {c : Ck} {k : Nat} {Φ : Nat → M Sl} {C : Nat → D} {W : WX}
theorem gl_of (o : c.Ok X k Φ C W) {x : Str} (h : glB c x = true) : Gl X x ∧ okN x = true := by
  unfold glB at h
  rw [Bool.and_eq_true] at h
  exact ⟨by show X.env.scope.names.lookup x = _; rw [o.sc]; simpa using h.2, h.1⟩
theorem pe_varO (o : c.Ok X k Φ C W) {i : Nat} {x : Str} {pos : Pos} (h : visB c i x = true) : PE X (.Name x pos) (tVar i) := by
  unfold visB at h
  simp only [Bool.and_eq_true] at h
  obtain ⟨⟨h1, h2⟩, h3⟩ := h
  refine pe_var (by rw [o.N]; simpa using h2) ?_ (okN_d h1) (okN_c h1)
  show X.env.scope.names.lookup x = _ ∨ X.env.scope.names.lookup x = _ ∨ X.env.scope.names.lookup x = _
  rw [o.sc]
  split at h3
  · exact .inl (by assumption)
  · exact .inr (.inl (by assumption))
  · exact .inr (.inr (by assumption))
  · cases h3
theorem visB_name (o : c.Ok X k Φ C W) {i : Nat} {e : Expr} (h : (match e with | .Name x _ => visB c i x | _ => false) = true) : PE X e (tVar i) := by
  cases e <;> first | exact pe_varO o h | cases h
theorem loc_of (o : c.Ok X k Φ C W) {i : Nat} {x : Str} (h : locB c i x = true) : X.N[i]? = some x ∧ L2.Loc X.env.scope x ∧ (X.fn x = true ∨ X.env.scope.names.lookup x = some .local) := by
  unfold locB at h
  simp only [Bool.and_eq_true] at h
  obtain ⟨⟨h1, h2⟩, h3⟩ := h
  refine ⟨by rw [o.N]; simpa using h1, ?_⟩
  unfold L2.Loc
  rw [o.sc]
  split at h3
  · exact ⟨.inl (by assumption), .inr (by assumption)⟩
  · exact ⟨.inr (by assumption), .inl (o.fn h3 x)⟩
  · cases h3
/-! the default forms -/
theorem opd_var {i : Nat} : opd Φ C (.var i) = .slot i := by rw [opd]
theorem opd_ex {a : E} (h : ∀ i, a ≠ .var i) : opd Φ C a = .ex (ev Φ C a) := by
  cases a <;> first | exact absurd rfl (h _) | simp only [opd]
theorem args_var {i : Nat} {r : List E} : args Φ C (.var i :: r) = .slot i :: args Φ C r := by rw [args]
theorem args_ex {a : E} {r : List E} (h : ∀ i, a ≠ .var i) : args Φ C (a :: r) = .ex (ev Φ C a) :: args Φ C r := by
  cases a <;> first | exact absurd rfl (h _) | simp only [args]
def Snd (X : Cx) (W : WX) (Φ : Nat → M Sl) (C : Nat → D) (a : E) (e : Expr) : Mode → Prop
  | .val => PE X e (TEof X.K X.mg W (ev Φ C a))
  | .test => PT X e (TTof X.K X.mg W (evT Φ C a))
  | .iter t => PI X t e (TIof X.K X.mg W (evI Φ C a))
/-- an operand by its expression -/
theorem opd_snd (o : c.Ok X k Φ C W) {a : E} {e : Expr} (h : chk a .val c e = true) (s : Snd X W Φ C a e .val) : PE X e (tOpd X.K X.mg W (opd Φ C a)) := by
  by_cases q : ∃ i, a = .var i
  · obtain ⟨i, rfl⟩ := q
    rw [opd_var]
    exact visB_name o h
  · rw [opd_ex fun i z => q ⟨i, z⟩]
    exact s
theorem pt_truthV {a : Expr} {ta : TE} {r : V → Hp → (Bool → Hp → Prop) → Prop} (ha : PE X a ta) (hr : TruR X r) (he : ∀ whole, isTrue a X.env whole = (do let v ← whole; standAt a.pos; holding [v] (truthy v))) :
    PT X a (fun σ H Q => ta σ H fun x H' => r x H' Q) :=
  ⟨fun pins s σ H Q I h => PyProof.Rows.isTrue_plain (thn (ha.run pins s σ H _ I h) fun v s1 ⟨x, H1, I1, r1, q1⟩ => hr pins s1 σ H1 x v Q I1 r1 q1) (he _)⟩
theorem dflt_snd (o : c.Ok X k Φ C W) {a : E} {e : Expr} (hc : ∀ m, chk a m = dflt (chk a .val) m) (hT : evT Φ C a = M.bind (evA [opd Φ C a]) fun ds => M.opt (match ds with | [d] => truthD d | _ => none)) (hI : evI Φ C a = M.bind (ev Φ C a) fun s => M.opt (itemsD s.d))
    (hv : chk a .val c e = true → PE X e (TEof X.K X.mg W (ev Φ C a))) : ∀ m, chk a m c e = true → Snd X W Φ C a e m
  | .val, h => hv h
  | .test, h => by
    rw [hc] at h
    have h : (plainT e && chk a .val c e) = true := h
    rw [Bool.and_eq_true] at h
    show PT X e (TTof X.K X.mg W (evT Φ C a))
    rw [hT]
    refine PT.imp (pt_truthV (opd_snd o h.2 (hv h.2)) truR fun whole => isTrue_of h.1 whole) fun σ H Q q => tt_val q
  | .iter t, h => by
    rw [hc] at h
    show PI X t e (TIof X.K X.mg W (evI Φ C a))
    rw [hI]
    exact pi_seq (hv h)
/-! calls of defs -/
theorem tArgs_app {K : PySem.W.Frag} {mg : Str → Option Value} : ∀ (l1 l2 : List Arg) {σ : L2.St} {H : Hp} {Q : List V → Hp → Prop}, tArgs K mg W (l1 ++ l2) σ H Q → tArgs K mg W l1 σ H fun vs H1 => vs.length = l1.length ∧ tArgs K mg W l2 σ H1 fun ws H2 => ws.length = l2.length ∧ Q (vs ++ ws) H2 := by
  have len : ∀ (l : List Arg) {σ : L2.St} {H : Hp} {Q : List V → Hp → Prop}, tArgs K mg W l σ H Q → tArgs K mg W l σ H fun vs H1 => vs.length = l.length ∧ Q vs H1 := by
    intro l
    induction l with
    | nil => exact fun h => ⟨rfl, h⟩
    | cons a l ih =>
      intro σ H Q h
      cases a with
      | slot i =>
        have h : tVar i σ H (fun v H1 => tArgs K mg W l σ H1 fun vs H2 => Q (v :: vs) H2) := h
        obtain ⟨v, e, q⟩ := h
        exact ⟨v, e, tArgs_mono l (fun vs H1 q => ⟨by simp [q.1], q.2⟩) (ih q)⟩
      | ex f => exact te_mono (show TEof K mg W f σ H _ from h) fun v H1 q => tArgs_mono l (fun vs H1 q => ⟨by simp [q.1], q.2⟩) (ih q)
  intro l1
  induction l1 with
  | nil => exact fun l2 σ H Q h => ⟨rfl, len l2 h⟩
  | cons a l ih =>
    intro l2 σ H Q h
    have step : ∀ {v : V} {H1 : Hp}, tArgs K mg W (l ++ l2) σ H1 (fun vs H2 => Q (v :: vs) H2) → tArgs K mg W l σ H1 fun vs H1 => (v :: vs).length = (a :: l).length ∧ tArgs K mg W l2 σ H1 fun ws H2 => ws.length = l2.length ∧ Q ((v :: vs) ++ ws) H2 :=
      fun {v H1} q => tArgs_mono l (fun vs H1 q => ⟨by simp [q.1], q.2⟩) (ih l2 q)
    cases a with
    | slot i =>
      have h : tVar i σ H (fun v H1 => tArgs K mg W (l ++ l2) σ H1 fun vs H2 => Q (v :: vs) H2) := h
      obtain ⟨v, e, q⟩ := h
      exact ⟨v, e, step q⟩
    | ex f => exact te_mono (show TEof K mg W f σ H _ from h) fun v H1 q => step q
abbrev PEs (X : Cx) (W : WX) : List Expr → List Arg → Prop := Paired fun e a => PE X e (tArg X.K X.mg W a)
theorem PEs.pa : ∀ {es : List Expr} {as : List Arg}, PEs X W es as → es.all notStar = true → PA X es (tArgs X.K X.mg W as)
  | _, _, .nil, _ => pa_nil
  | _, _, .cons h r, hs => by
    rw [List.all_cons, Bool.and_eq_true] at hs
    exact pa_cons h (PEs.pa r hs.2) (star_cons hs.1 _ _)
theorem PEs.pk : ∀ {kws : List Keyword} {as : List Arg}, PEs X W (kws.map (·.value)) as → PK X kws (tArgs X.K X.mg W as)
  | [], _, .nil => pk_nil
  | ⟨n, e, p⟩ :: kws, _, .cons h r => pk_cons h (PEs.pk r)
theorem paired_split {α β : Type} {F : α → β → Prop} : ∀ {l1 l2 : List α} {m : List β}, Paired F (l1 ++ l2) m → ∃ m1 m2, m = m1 ++ m2 ∧ Paired F l1 m1 ∧ Paired F l2 m2
  | [], l2, m, h => ⟨[], m, rfl, .nil, h⟩
  | a :: l1, l2, _, .cons h r => by
    obtain ⟨m1, m2, rfl, q1, q2⟩ := paired_split r
    exact ⟨_ :: m1, m2, rfl, .cons h q1, q2⟩
theorem paired_len {α β : Type} {F : α → β → Prop} : ∀ {l : List α} {m : List β}, Paired F l m → m.length = l.length
  | _, _, .nil => rfl
  | _, _, .cons _ r => by simp [paired_len r]
theorem kw_all {env : PySem.Env} {pos : Pos} : ∀ {kws : List Keyword}, kws.all (fun q => q.arg.isSome) = true → (backToKw pos (keywordEach kws env)).all (·.1.isSome) = true ∧ (backToKw pos (keywordEach kws env)).any (·.1.isNone) = false ∧ (backToKw pos (keywordEach kws env)).filterMap (·.1) = kws.filterMap (·.arg)
  | [], _ => ⟨rfl, rfl, rfl⟩
  | ⟨n, e, p⟩ :: kws, h => by
    rw [List.all_cons, Bool.and_eq_true] at h
    obtain ⟨q1, q2, q3⟩ := kw_all (env := env) (pos := pos) h.2
    cases n with
    | none => cases h.1
    | some n =>
      have e : backToKw pos (keywordEach (⟨some n, e, p⟩ :: kws) env) = (some n, do let v ← eval e env; standAt pos; pure v) :: backToKw pos (keywordEach kws env) := rfl
      rw [e]
      refine ⟨by rw [List.all_cons, q1]; rfl, by rw [List.any_cons, q2]; rfl, ?_⟩
      simp [q3]
theorem kw_len : ∀ {l : List Keyword}, l.all (fun q => q.arg.isSome) = true → (l.filterMap (·.arg)).length = l.length
  | [], _ => rfl
  | a :: l, h => by
    rw [List.all_cons, Bool.and_eq_true] at h
    cases e : a.arg with
    | none => rw [e] at h; cases h.1
    | some n => simp [e, kw_len h.2]
/-- f(a, .., k = b, ..) -/
theorem pe_callF {fe : FnE} {F : M Sl} {es : List Expr} {kws : List Keyword} {as : List Arg} {p pos : Pos} (fh : FnH X.prog X.w X.K X.mg X.base k fe F) (o : c.Ok X k Φ C W) (hg : Gl X fe.name) (hd : okN fe.name = true)
    (hk : (if kws.isEmpty then fe.np == es.length else kws.all (fun q => q.arg.isSome) && fe.kws.contains (es.length, kws.filterMap (·.arg)) && !es.isEmpty) = true) (ha : PEs X W (es ++ kws.map (·.value)) as) (hs : (es ++ kws.map (·.value)).all notStar = true) :
    as.length = fe.np ∧ PE X (.Call (.Name fe.name p) es kws pos) (fun σ H Q => tArgs X.K X.mg W as σ H fun vs H1 => spF X.K X.mg fe.np F vs H1 Q fun c d H' => W c d σ H') := by
  obtain ⟨f, fd, ps, hm, hkp, hb, hkb, hl, fo⟩ := fh.ex
  have hlen := paired_len ha
  cases kws with
  | nil =>
    have hn : fe.np = es.length := by simpa using hk
    simp only [List.map_nil, List.append_nil] at ha hs hlen
    refine ⟨hlen.trans hn.symm, ⟨fun pins s σ H Q I h => ?_⟩⟩
    refine wpAny_Call_Name_kw (ld_glob I hg hm ?_ (okN_d hd))
    cases es with
    | nil =>
      cases ha
      exact PySem.W.callWith_K0 I.kIn hkp (run_f (us := []) fo o.room o.gd hb (passesS o.tk σ) I .nil h)
    | cons e es =>
      have pa := PEs.pa ha hs
      rw [List.all_cons, Bool.and_eq_true] at hs
      refine PySem.W.callWith_K (h₀ := X.base) I.ok.mod.kin hkp (thn (pa.run pos pins s σ H _ I h) fun us s1 ⟨vs, H1, I1, r, q⟩ => ⟨I1.kIn, ?_⟩) (star_cons hs.1 _ _) (star_plain _ hs.2)
      exact run_f fo o.room o.gd hb (passesS o.tk σ) I1 r q
  | cons kw kws =>
    rw [if_neg (by simp)] at hk
    simp only [Bool.and_eq_true] at hk
    obtain ⟨⟨h1, h2⟩, h3⟩ := hk
    have h2 : (es.length, (kw :: kws).filterMap (·.arg)) ∈ fe.kws := by simpa using h2
    obtain ⟨b1, b2⟩ := hkb _ h2
    have hkl : ((kw :: kws).filterMap (·.arg)).length = (kw :: kws).length := kw_len h1
    obtain ⟨a1, a2, rfl, p1, p2⟩ := paired_split ha
    have l1 := paired_len p1
    have l2 := paired_len p2
    refine ⟨by rw [hlen, ← b1, List.length_append, List.length_map, hkl], ⟨fun pins s σ H Q I h => ?_⟩⟩
    rw [List.all_append, Bool.and_eq_true] at hs
    have pa := PEs.pa p1 hs.1
    have pk := PEs.pk p2
    obtain ⟨k1, k2, k3⟩ := kw_all (env := X.env) (pos := pos) h1
    refine wpAny_Call_Name_kw (ld_glob I hg hm ?_ (okN_d hd))
    cases es with
    | nil => cases h3
    | cons e es =>
      have hs1 := hs.1
      rw [List.all_cons, Bool.and_eq_true] at hs1
      refine PySem.W.callWith_KW (h₀ := X.base) I.ok.mod.kin hkp k1 (thn (pa.run pos pins s σ H _ I (tArgs_app a1 a2 h)) fun us s1 ⟨vs, H1, I1, r, hv, q⟩ => ?_) (by rw [k2, star_plain _ hs.1]; rfl) (star_cons hs1.1 _ _)
      refine thn (pk.run pos pins s1 σ H1 _ I1 q) fun ws s2 ⟨zs, H2, I2, rz, hz, q2⟩ => ⟨I2.kIn, ?_⟩
      rw [k3]
      exact run_fk fo o.room o.gd (passesS o.tk σ) I2 (b2 s2 us ws I2.kIn (by rw [← r.length, hv, l1]) (by rw [← rz.length, hz, l2, List.length_map, hkl])) (r.append rz) q2
theorem pw_bool {op : BoolOp} {vs : List Expr} {p : Pos} {t : TT} (h : PT X (.BoolOp op vs p) t) : PW X (.BoolOp op vs p) t := ⟨fun whole pins s σ H Q I q => h.run pins s σ H Q I q⟩
theorem pt_ifExp {w x y : Expr} {p : Pos} {tc ta tb : TT} (hc : PT X w tc) (ha : PT X x ta) (hb : PT X y tb) : PT X (.IfExp w x y p) (fun σ H Q => tc σ H fun c H1 => if c = true then ta σ H1 Q else tb σ H1 Q) := by
  refine ⟨fun pins s σ H Q I h => ?_⟩
  show wpAny _ _ (do if ← isTrue w X.env (eval w X.env) then isTrue x X.env (eval x X.env) else isTrue y X.env (eval y X.env)) _ _ _
  refine wpAny_bind (thn (hc.run pins s σ H _ I h) fun d s1 ⟨H1, I1, q1⟩ => ?_)
  cases d with
  | true => exact ha.run pins s1 σ H1 Q I1 q1
  | false => exact hb.run pins s1 σ H1 Q I1 q1
theorem Ck.Ok.inner (o : c.Ok X k Φ C W) {scope : Scope} {own : List Nat} {s : Shared} {H : Hp} {Cc : Addr} {cl : List (Str × Addr)} {fp : List Addr} (hk : scope.kind = .function) : (inner c scope own).Ok (X.blk s H scope (compEnvC scope cl Cc X.env) fp) k Φ C W0 where
  N := o.N
  nd := o.nd
  sc := by
    show relS scope X.env.scope = relS scope c.sc
    rw [o.sc]
  kind := hk
  calm := o.calm
  fn := fun h => by cases h
  room := o.room
  gd := o.gd
  tk := fun _ _ x => by
    obtain ⟨_, _, _, _, _, _, _, _, _, _, _, _, _, _, _, _, z⟩ := x
    exact z.elim
  pass := PassesOwn.never
  fs := o.fs
  cs := o.cs
  bl := o.bl
theorem bi_boot (b : Bi) : bootBuiltins (b.id : Str) = some (.builtin b.id) := by cases b <;> decide +kernel
theorem bt_boot (b : Bt) : bootBuiltins (b.id : Str) = some (.type b.id) := by cases b <;> decide +kernel
theorem ty_boot {n : String} (h : tyNames.contains n = true) : bootBuiltins (n : Str) = some (.type n) := by
  simp [tyNames] at h
  rcases h with rfl | rfl | rfl | rfl | rfl | rfl <;> decide +kernel
def ttOf (K : PySem.W.Frag) (mg : Str → Option Value) (W : WX) (Φ : Nat → M Sl) (C : Nat → D) : List E → TT
  | [] => tYes
  | a :: _ => TTof K mg W (evT Φ C a)
end
end Lw
end

section
set_option Elab.async false
set_option linter.all false
set_option maxRecDepth 100000
set_option maxHeartbeats 4000000
/-! L18: the checker's word is good: every expression -/
namespace Lw
open PySem L2
section
variable {K : PySem.W.Frag} {mg : Str → Option Value} {W : WX} {σ : L2.St} {H : Hp}
theorem tt_chn {o o' : CmpOp} {oa ob oc : Opd} {Q : Bool → Hp → Prop} (h : tChain (r2D K (cmpS o)) (r2D K (cmpS o')) (tOpd K mg W oa) (tOpd K mg W ob) (tOpd K mg W oc) σ H fun x H1 => rTru K x H1 Q) : tTest (tChain (r2D K (cmpS o)) (r2D K (cmpS o')) (tOpd K mg W oa) (tOpd K mg W ob) (tOpd K mg W oc)) σ H Q := by
  refine op_mono h fun x H1 h => op_mono h fun y H2 h => ?_
  obtain ⟨T, a, b, h1, h2, h3⟩ := h
  refine ⟨T, a, b, h1, h2, ?_⟩
  cases e : cmpS o a b with
  | none => rw [e] at h3; exact h3
  | some s =>
    rw [e] at h3
    intro v H' ext r
    obtain ⟨k, hv, q⟩ := h3 v H' ext r
    refine ⟨k, hv, ?_⟩
    cases k with
    | true =>
      rw [if_pos rfl] at q ⊢
      exact op_mono q fun w H4 q => cmp_tru q
    | false =>
      rw [if_neg (by decide)] at q ⊢
      obtain ⟨T, d, b, t, e, q⟩ := q
      obtain ⟨S, t, _⟩ := t
      cases t with
      | sc t _ =>
        cases t
        cases e
        exact ⟨_, rfl, q⟩
end
section
variable {X : Cx} {c : Ck} {k : Nat} {Φ : Nat → M Sl} {C : Nat → D} {W : WX}
theorem spec_snd (o : c.Ok X k Φ C W) {a : E} {e : Expr} (hc : ∀ t, chk a (.iter t) = chk a .val) (hI : evI Φ C a = M.bind (ev Φ C a) fun s => M.opt (itemsD s.d))
    (hv : chk a .val c e = true → PE X e (TEof X.K X.mg W (ev Φ C a))) (ht : chk a .test c e = true → PT X e (TTof X.K X.mg W (evT Φ C a))) : ∀ m, chk a m c e = true → Snd X W Φ C a e m
  | .val, h => hv h
  | .test, h => ht h
  | .iter t, h => by
    rw [hc] at h
    show PI X t e (TIof X.K X.mg W (evI Φ C a))
    rw [hI]
    exact pi_seq (hv h)
theorem tup_of {t : Expr} (h : (!notTup t) = true) : ∃ es kk p, t = .Tuple es kk p := by
  cases t <;> first | exact ⟨_, _, _, rfl⟩ | cases h
theorem chkTs_len {ifs : List E} {c : Ck} {es : List Expr} (h : chkTs ifs c es = true) : ifs.length ≤ 1 := by
  cases ifs with
  | nil => simp
  | cons a as =>
    rw [chkTs] at h; dsimp only at h
    split at h
    · simp
    · cases h
theorem evT_cmp {o : CmpOp} {a b : E} : evT Φ C (.cmp o a b) = M.bind (evA [opd Φ C (.cmp o a b)]) fun ds => M.opt (match ds with | [d] => truthD d | _ => none) := by rw [evT] <;> first | rfl | (intros; contradiction)
theorem evT_chn {o p : CmpOp} {a b d : E} : evT Φ C (.chn o p a b d) = M.bind (evA [opd Φ C (.chn o p a b d)]) fun ds => M.opt (match ds with | [d] => truthD d | _ => none) := by rw [evT] <;> first | rfl | (intros; contradiction)
theorem tts_of {K : PySem.W.Frag} {mg : Str → Option Value} {σ : L2.St} {H : Hp} {Q : Bool → Hp → Prop} : ∀ (ifs : List E), ifs.length ≤ 1 → TTof K mg W (lcI.allT (evTs Φ C ifs)) σ H Q → ttOf K mg W Φ C ifs σ H Q
  | [], _, h => tt_pure (by rw [evTs] at h; exact h)
  | [a], _, h => by
    rw [evTs, evTs] at h
    refine tt_mono (tt_ite (show TTof K mg W (M.bind (evT Φ C a) fun b => if b then M.pure true else M.pure false) σ H Q from h)) fun b H1 q => ?_
    cases b with
    | true => rw [if_pos rfl] at q; exact tt_pure q
    | false => rw [if_neg (by decide)] at q; exact tt_pure q
  | a :: b :: r, hl, h => by simp at hl
def PoQ (K : PySem.W.Frag) (mg : Str → Option Value) (W : WX) (b : Bool) (o : Opd) (tl : TO) : Prop := ∀ σ H (G : Option Int → Hp → Prop), (tOpd K mg W o σ H fun l H2 => ∃ lo, partV b l = some lo ∧ G lo H2) → tl σ H G
theorem po_of (o : c.Ok X k Φ C W) {lo : E} {l : Option Expr} (h : (match lo, l with
      | .non, none => true
      | .non, some _ => false
      | _, some l => chk lo .val c l
      | _, _ => false) = true) (s : ∀ l, chk lo .val c l = true → PE X l (tOpd X.K X.mg W (opd Φ C lo))) : ∃ tl, PO X l tl ∧ PoQ X.K X.mg W (isNonE lo) (opd Φ C lo) tl := by
  cases l with
  | none =>
    cases lo <;> first | cases h | skip
    refine ⟨_, po_none, fun σ H G q => ?_⟩
    rw [opd_ex (by intros; simp), ev] at q
    obtain ⟨lo, e, q⟩ := te_pure (v := .non) (fun H => .non) q
    cases e
    exact q
  | some l =>
    have hn : isNonE lo = false := by cases lo <;> first | rfl | cases h
    have h : chk lo .val c l = true := by cases lo <;> first | exact h | cases h
    refine ⟨_, po_some (s l h), fun σ H G q => op_mono q fun v H1 ⟨lo', e, q⟩ => ?_⟩
    rw [hn] at e
    unfold partV at e
    split at e
    · rename_i heq _; cases heq
    · cases e; exact ⟨_, rfl, q⟩
    · cases e
end
section
variable {X : Cx} {c : Ck} {k : Nat} {Φ : Nat → M Sl} {C : Nat → D} {W : WX}
mutual
theorem sndG : ∀ (tg : Tgt) (c : Ck) (X : Cx) (k : Nat) (W : WX) (e : Expr), c.Ok X k Φ C W → chkG c tg e = true → PG X e (tgT X.K tg)
  | .nm i, c, X, k, W, e, o, h => by
    rw [chkG] at h; dsimp only at h
    split at h
    · rw [tgT]
      obtain ⟨h1, h2, h3⟩ := loc_of o h
      exact pg_name (by rw [o.N]; exact o.nd) h1 h2 h3
    · cases h
  | .tup ts, c, X, k, W, e, o, h => by
    rw [chkG] at h; dsimp only at h
    split at h
    · rw [tgT]
      obtain ⟨h1, h2, h3⟩ := sndGs ts c X k W _ o h
      exact pg_tup o.calm h1 h2 h3
    · cases h
theorem sndGs : ∀ (ts : List Tgt) (c : Ck) (X : Cx) (k : Nat) (W : WX) (es : List Expr), c.Ok X k Φ C W → chkGs c ts es = true → PGs X es (tgT.tgTs X.K ts) ∧ (assignEach es X.env).length = ts.length ∧ (assignEach es X.env).findIdx? (·.1) = none
  | [], c, X, k, W, es, o, h => by
    rw [chkGs] at h
    cases es with
    | nil => rw [tgT.tgTs]; exact ⟨pgs_nil, rfl, rfl⟩
    | cons e es => cases h
  | t :: ts, c, X, k, W, es, o, h => by
    rw [chkGs] at h
    cases es with
    | nil => cases h
    | cons e es =>
      simp only [Bool.and_eq_true] at h
      obtain ⟨⟨h0, h1⟩, h2⟩ := h
      obtain ⟨q1, q2, q3⟩ := sndGs ts c X k W es o h2
      rw [tgT.tgTs]
      refine ⟨pgs_cons (sndG t c X k W e o h1) q1 (by rw [assign_cons h0]; rfl), by rw [assign_cons h0]; simp [q2], ?_⟩
      rw [assign_cons h0, List.findIdx?_cons]
      simp [q3]
end
end
section
variable {Φ : Nat → M Sl} {C : Nat → D}
mutual
theorem snd : ∀ (a : E) (m : Mode) (c : Ck) (X : Cx) (k : Nat) (W : WX) (e : Expr), c.Ok X k Φ C W → chk a m c e = true → Snd X W Φ C a e m
  | .non, m, c, X, k, W, e, o, h => dflt_snd o (fun m => by cases m <;> rfl) (by rw [evT] <;> first | rfl | (intros; contradiction)) (by rw [evI] <;> first | rfl | (intros; contradiction)) (fun h => by
      rw [chk] at h; dsimp only [dflt] at h
      split at h
      · rw [ev]; exact PE.imp pe_non fun σ H Q => te_pure fun H => .non
      · cases h) m h
  | .bl b, m, c, X, k, W, e, o, h => dflt_snd o (fun m => by cases m <;> rfl) (by rw [evT] <;> first | rfl | (intros; contradiction)) (by rw [evI] <;> first | rfl | (intros; contradiction)) (fun h => by
      rw [chk] at h; dsimp only [dflt] at h
      split at h
      · simp only [beq_iff_eq] at h
        subst h
        rw [ev]
        exact PE.imp pe_bl fun σ H Q => te_pure fun H => .bl _
      · cases h) m h
  | .int b, m, c, X, k, W, e, o, h => dflt_snd o (fun m => by cases m <;> rfl) (by rw [evT] <;> first | rfl | (intros; contradiction)) (by rw [evI] <;> first | rfl | (intros; contradiction)) (fun h => by
      rw [chk] at h; dsimp only [dflt] at h
      split at h
      · simp only [beq_iff_eq] at h
        subst h
        rw [ev]
        exact PE.imp pe_int fun σ H Q => te_pure fun H => .int _
      · cases h) m h
  | .str b, m, c, X, k, W, e, o, h => dflt_snd o (fun m => by cases m <;> rfl) (by rw [evT] <;> first | rfl | (intros; contradiction)) (by rw [evI] <;> first | rfl | (intros; contradiction)) (fun h => by
      rw [chk] at h; dsimp only [dflt] at h
      split at h
      · simp only [beq_iff_eq] at h
        subst h
        rw [ev]
        exact PE.imp pe_str fun σ H Q => te_pure fun H => .str _
      · cases h) m h
  | .tyc n, m, c, X, k, W, e, o, h => dflt_snd o (fun m => by cases m <;> rfl) (by rw [evT] <;> first | rfl | (intros; contradiction)) (by rw [evI] <;> first | rfl | (intros; contradiction)) (fun h => by
      rw [chk] at h; dsimp only [dflt] at h
      split at h
      · simp only [Bool.and_eq_true, beq_iff_eq] at h
        obtain ⟨⟨⟨h1, rfl⟩, h3⟩, h4⟩ := h
        obtain ⟨g1, g2⟩ := gl_of o h3
        rw [ev]
        exact PE.imp (pe_bltn (v := .ty n) g1 (o.bl _ (by simpa using h4)) (ty_boot h1) rfl (okN_n g2) (okN_d g2)) fun σ H Q => te_pure fun H => .ty n
      · cases h) m h
  | .cst i, m, c, X, k, W, e, o, h => dflt_snd o (fun m => by cases m <;> rfl) (by rw [evT] <;> first | rfl | (intros; contradiction)) (by rw [evI] <;> first | rfl | (intros; contradiction)) (fun h => by
      rw [chk] at h; dsimp only [dflt] at h
      split at h
      · simp only [Bool.and_eq_true, beq_iff_eq] at h
        obtain ⟨g1, g2⟩ := gl_of o h.2
        obtain ⟨v, u, q1, q2, q3⟩ := o.cs i _ h.1
        rw [ev]
        exact PE.imp (pe_glob g1 q1 q2 (okN_d g2)) fun σ H Q => te_pure q3
      · cases h) m h
  | .var i, m, c, X, k, W, e, o, h => dflt_snd o (fun m => by cases m <;> rfl) (by rw [evT] <;> first | rfl | (intros; contradiction)) (by rw [evI] <;> first | rfl | (intros; contradiction)) (fun h => by
      rw [chk] at h; dsimp only [dflt] at h
      rw [ev]; exact PE.imp (visB_name o h) fun σ H Q => te_var) m h
  | .fz i, m, c, X, k, W, e, o, h => dflt_snd o (fun m => by cases m <;> rfl) (by rw [evT] <;> first | rfl | (intros; contradiction)) (by rw [evI] <;> first | rfl | (intros; contradiction)) (fun h => by
      rw [chk] at h; dsimp only [dflt] at h
      rw [ev]; exact PE.imp (visB_name o h) fun σ H Q => te_fz) m h
  | .mv i, m, c, X, k, W, e, o, h => dflt_snd o (fun m => by cases m <;> rfl) (by rw [evT] <;> first | rfl | (intros; contradiction)) (by rw [evI] <;> first | rfl | (intros; contradiction)) (fun h => by
      rw [chk] at h; dsimp only [dflt] at h
      rw [ev]; exact PE.imp (visB_name o h) fun σ H Q => te_mv) m h
  | .bop op a b, m, c, X, k, W, e, o, h => dflt_snd o (fun m => by cases m <;> rfl) (by rw [evT] <;> first | rfl | (intros; contradiction)) (by rw [evI] <;> first | rfl | (intros; contradiction)) (fun h => by
      rw [chk] at h; dsimp only [dflt] at h
      split at h
      · simp only [Bool.and_eq_true, beq_iff_eq] at h
        obtain ⟨⟨rfl, h1⟩, h2⟩ := h
        rw [ev]
        exact PE.imp (pe_op (bop_ok op) (opd_snd o h1 (snd a .val c X k W _ o h1)) (opd_snd o h2 (snd b .val c X k W _ o h2))) fun σ H Q => te_op2
      · cases h) m h
  | .neg a, m, c, X, k, W, e, o, h => dflt_snd o (fun m => by cases m <;> rfl) (by rw [evT] <;> first | rfl | (intros; contradiction)) (by rw [evI] <;> first | rfl | (intros; contradiction)) (fun h => by
      rw [chk] at h; dsimp only [dflt] at h
      split at h
      · rw [ev]
        exact PE.imp (pe_un un_neg (opd_snd o h (snd a .val c X k W _ o h))) fun σ H Q => te_neg
      · cases h) m h
  | .idx a b, m, c, X, k, W, e, o, h => dflt_snd o (fun m => by cases m <;> rfl) (by rw [evT] <;> first | rfl | (intros; contradiction)) (by rw [evI] <;> first | rfl | (intros; contradiction)) (fun h => by
      rw [chk] at h; dsimp only [dflt] at h
      split at h
      · simp only [Bool.and_eq_true] at h
        obtain ⟨⟨h0, h1⟩, h2⟩ := h
        rw [ev]
        exact PE.imp (pe_ix ix_ok (opd_snd o h1 (snd a .val c X k W _ o h1)) (opd_snd o h2 (snd b .val c X k W _ o h2)) (plainIx_of h0)) fun σ H Q => te_op2
      · cases h) m h
  | .rev a, m, c, X, k, W, e, o, h => dflt_snd o (fun m => by cases m <;> rfl) (by rw [evT] <;> first | rfl | (intros; contradiction)) (by rw [evI] <;> first | rfl | (intros; contradiction)) (fun h => by
      rw [chk] at h; dsimp only [dflt] at h
      split at h
      · rw [ev]
        exact PE.imp (pe_rev2 (opd_snd o h (snd a .val c X k W _ o h))) fun σ H Q => te_rev
      · cases h) m h
  | .bi b as, m, c, X, k, W, e, o, h => dflt_snd o (fun m => by cases m <;> rfl) (by rw [evT] <;> first | rfl | (intros; contradiction)) (by rw [evI] <;> first | rfl | (intros; contradiction)) (fun h => by
      rw [chk] at h; dsimp only [dflt] at h
      split at h
      · simp only [Bool.and_eq_true, beq_iff_eq, Bool.not_eq_true', List.contains_iff_mem] at h
        obtain ⟨⟨⟨⟨⟨rfl, h3⟩, h4⟩, h5⟩, h6⟩, h7⟩ := h
        obtain ⟨g1, g2⟩ := gl_of o h3
        rw [ev]
        rename_i es _
        cases es with
        | nil => cases h5
        | cons e0 es =>
          have h6' : (e0 :: es).all notStar = true := h6
          rw [List.all_cons, Bool.and_eq_true] at h6
          exact PE.imp (pe_callB (bi_ok o.room o.calm o.gd b) g1 (o.bl _ h4) (bi_boot b) (sndAs as c X k W (e0 :: es) o h6' h7).1 (okN_n g2) (okN_d g2) (star_cons h6.1 _ _) (star_plain _ h6.2)) fun σ H Q => te_opn
      · cases h) m h
  | .ty b as, m, c, X, k, W, e, o, h => dflt_snd o (fun m => by cases m <;> rfl) (by rw [evT] <;> first | rfl | (intros; contradiction)) (by rw [evI] <;> first | rfl | (intros; contradiction)) (fun h => by
      rw [chk] at h; dsimp only [dflt] at h
      split at h
      · simp only [Bool.and_eq_true, beq_iff_eq, Bool.not_eq_true', List.contains_iff_mem] at h
        obtain ⟨⟨⟨⟨⟨rfl, h3⟩, h4⟩, h5⟩, h6⟩, h7⟩ := h
        obtain ⟨g1, g2⟩ := gl_of o h3
        rw [ev]
        rename_i es _
        cases es with
        | nil => cases h5
        | cons e0 es =>
          have h6' : (e0 :: es).all notStar = true := h6
          rw [List.all_cons, Bool.and_eq_true] at h6
          exact PE.imp (pe_callTy (ty_ok b) g1 (o.bl _ h4) (bt_boot b) (sndAs as c X k W (e0 :: es) o h6' h7).1 (okN_n g2) (okN_d g2) (star_cons h6.1 _ _) (star_plain _ h6.2)) fun σ H Q => te_opn
      · cases h) m h
  | .slc a lo hi, m, c, X, k, W, e, o, h => dflt_snd o (fun m => by cases m <;> rfl) (by rw [evT] <;> first | rfl | (intros; contradiction)) (by rw [evI] <;> first | rfl | (intros; contradiction)) (fun h => by
      rw [chk] at h; dsimp only [dflt] at h
      split at h
      · simp only [Bool.and_eq_true] at h
        obtain ⟨⟨h1, h2⟩, h3⟩ := h
        rw [ev]
        have pa := opd_snd o h1 (snd a .val c X k W _ o h1)
        obtain ⟨tl, pl, ql⟩ := po_of o h2 fun l h => opd_snd o h (snd lo .val c X k W _ o h)
        obtain ⟨th, ph, qh⟩ := po_of o h3 fun l h => opd_snd o h (snd hi .val c X k W _ o h)
        exact PE.imp (pe_slice sl_ok pa pl ph) fun σ H Q q => op_mono (te_slc q) fun x H1 q => ql _ _ _ (op_mono q fun l H2 ⟨lo, e, q⟩ => ⟨lo, e, qh _ _ _ q⟩)
      · cases h) m h
  | .tup as, m, c, X, k, W, e, o, h => dflt_snd o (fun m => by cases m <;> rfl) (by rw [evT] <;> first | rfl | (intros; contradiction)) (by rw [evI] <;> first | rfl | (intros; contradiction)) (fun h => by
      rw [chk] at h; dsimp only [dflt] at h
      split at h
      · rw [ev]; exact PE.imp (pe_tup (sndDs as c X k W _ o h)) fun σ H Q => te_tup
      · cases h) m h
  | .lst as, m, c, X, k, W, e, o, h => dflt_snd o (fun m => by cases m <;> rfl) (by rw [evT] <;> first | rfl | (intros; contradiction)) (by rw [evI] <;> first | rfl | (intros; contradiction)) (fun h => by
      rw [chk] at h; dsimp only [dflt] at h
      split at h
      · rw [ev]; exact PE.imp (pe_lst (sndDs as c X k W _ o h)) fun σ H Q => te_lst
      · cases h) m h
  | .call f as, m, c, X, k, W, e, o, h => dflt_snd o (fun m => by cases m <;> rfl) (by rw [evT] <;> first | rfl | (intros; contradiction)) (by rw [evI] <;> first | rfl | (intros; contradiction)) (fun h => by
      rw [chk] at h; dsimp only [dflt] at h
      split at h
      · simp only [Bool.and_eq_true] at h
        obtain ⟨⟨⟨h1, h2⟩, h3⟩, h4⟩ := h
        obtain ⟨g1, g2⟩ := gl_of o h2
        cases ef : c.fs[f]? with
        | none => rw [ef] at h1; cases h1
        | some fe =>
          rw [ef] at h1
          dsimp only at h1
          rw [Bool.and_eq_true] at h1
          obtain ⟨hx, hn⟩ := h1
          have hx := beq_iff_eq.mp hx
          subst hx
          rw [ev]
          obtain ⟨q1, q2⟩ := pe_callF (o.fs f fe ef) o g1 g2 hn (sndAs as c X k W _ o h3 h4).2.2 h3
          exact PE.imp q2 fun σ H Q q => call_sound (Φ f) (args Φ C as) fe.np q1 σ H Q q
      · cases h) m h
  | .dict0, m, c, X, k, W, e, o, h => dflt_snd o (fun m => by cases m <;> rfl) (by rw [evT] <;> first | rfl | (intros; contradiction)) (by rw [evI] <;> first | rfl | (intros; contradiction)) (fun h => by
      rw [chk] at h; dsimp only [dflt] at h
      split at h
      · rw [ev]; exact PE.imp pe_dnewK fun σ H Q => te_dict0
      · cases h) m h
  | .dict1 k' n, m, c, X, k, W, e, o, h => dflt_snd o (fun m => by cases m <;> rfl) (by rw [evT] <;> first | rfl | (intros; contradiction)) (by rw [evI] <;> first | rfl | (intros; contradiction)) (fun h => by
      rw [chk] at h; dsimp only [dflt] at h
      split at h
      · simp only [Bool.and_eq_true, beq_iff_eq] at h
        obtain ⟨rfl, rfl⟩ := h
        rw [ev]
        exact PE.imp (pe_disp (pps_cons pe_str pe_int pps_nil) rfl rfl (by simp) (by simp)) fun σ H Q => te_dict1
      · cases h) m h
  | .sset a, m, c, X, k, W, e, o, h => dflt_snd o (fun m => by cases m <;> rfl) (by rw [evT] <;> first | rfl | (intros; contradiction)) (by rw [evI] <;> first | rfl | (intros; contradiction)) (fun h => by
      rw [chk] at h; dsimp only [dflt] at h
      split at h
      · simp only [Bool.and_eq_true, beq_iff_eq, List.contains_iff_mem] at h
        obtain ⟨⟨⟨⟨⟨⟨⟨rfl, rfl⟩, h1⟩, h2⟩, h3⟩, h4⟩, h5⟩, h6⟩ := h
        rw [ev]
        have hu : X.A.units + 64 < cLine := by have := o.room.un; omega
        exact PE.imp (pe_callB (cr_sortedT o.calm) (gl_of o h1).1 (o.bl _ h3) (by decide +kernel) (pa_cons (pe_callTy (cr_setOfT o.calm hu) (gl_of o h2).1 (o.bl _ h4) (by decide +kernel) (pa_cons (opd_snd o h6 (snd a .val c X k W _ o h6)) pa_nil (star_cons h5 _ _)) (okN_n (gl_of o h2).2) (okN_d (gl_of o h2).2) (star_cons h5 _ _) rfl) pa_nil rfl) (okN_n (gl_of o h1).2) (okN_d (gl_of o h1).2) rfl rfl) fun σ H Q => te_sset
      · cases h) m h
  | .lr1 a, m, c, X, k, W, e, o, h => dflt_snd o (fun m => by cases m <;> rfl) (by rw [evT] <;> first | rfl | (intros; contradiction)) (by rw [evI] <;> first | rfl | (intros; contradiction)) (fun h => by
      rw [chk] at h; dsimp only [dflt] at h
      split at h
      · simp only [Bool.and_eq_true, beq_iff_eq, List.contains_iff_mem] at h
        obtain ⟨⟨⟨⟨⟨⟨⟨rfl, rfl⟩, h1⟩, h2⟩, h3⟩, h4⟩, h5⟩, h6⟩ := h
        rw [ev]
        exact PE.imp (pe_listRg o.calm (gl_of o h1).1 (o.bl _ h3) (prg_1 (gl_of o h2).1 (o.bl _ h4) (opd_snd o h6 (snd a .val c X k W _ o h6)) (star_cons h5 _ _))) fun σ H Q => te_lr1
      · cases h) m h
  | .lr2 a b, m, c, X, k, W, e, o, h => dflt_snd o (fun m => by cases m <;> rfl) (by rw [evT] <;> first | rfl | (intros; contradiction)) (by rw [evI] <;> first | rfl | (intros; contradiction)) (fun h => by
      rw [chk] at h; dsimp only [dflt] at h
      split at h
      · simp only [Bool.and_eq_true, beq_iff_eq, List.contains_iff_mem] at h
        obtain ⟨⟨⟨⟨⟨⟨⟨⟨⟨rfl, rfl⟩, h1⟩, h2⟩, h3⟩, h4⟩, h5⟩, h5'⟩, h6⟩, h7⟩ := h
        rw [ev]
        exact PE.imp (pe_listRg o.calm (gl_of o h1).1 (o.bl _ h3) (prg_2 (gl_of o h2).1 (o.bl _ h4) (opd_snd o h6 (snd a .val c X k W _ o h6)) (opd_snd o h7 (snd b .val c X k W _ o h7)) (star_cons h5 _ _) (star_cons h5' _ _) (star_plain _ (by simp [h5'])))) fun σ H Q => te_lr2
      · cases h) m h
  | .lc elt tg it ifs own, m, c, X, k, W, e, o, h => dflt_snd o (fun m => by cases m <;> rfl) (by rw [evT] <;> first | rfl | (intros; contradiction)) (by rw [evI] <;> first | rfl | (intros; contradiction)) (fun h => by
      rw [chk] at h; dsimp only [dflt] at h
      split at h
      · simp only [Bool.and_eq_true] at h
        obtain ⟨⟨⟨⟨⟨⟨h1, h2⟩, h3⟩, h4⟩, h5⟩, h6⟩, h7⟩ := h
        rw [ev]
        have hb := blkOk_by h1
        have hb' := hb
        rw [← o.N, ← o.sc] at hb'
        have hst : ∀ i ∈ tg.st, i ∈ own := fun i hi => by simpa using List.all_eq_true.mp h2 i hi
        have ok := fun s H C' cl fp => o.inner (Cc := C') (cl := cl) (own := own) (s := s) (H := H) (fp := fp) hb.kind
        refine PE.imp (pe_lc (te := TEof X.K X.mg W0 (ev Φ C elt)) (tt := ttOf X.K X.mg W0 Φ C ifs) (g := tgT X.K tg) o.calm (by rw [o.N]; exact o.nd) (snd it (.iter _) c X k W _ o h4) hb' (fun s H C' cl fp => sndG tg _ _ _ _ _ (ok s H C' cl fp) h5) (fun s H C' cl fp => sndTs ifs _ _ _ _ _ (ok s H C' cl fp) h6) (fun s H C' cl fp => snd elt .val _ _ _ _ _ (ok s H C' cl fp) h7) (folded_of h3)) fun σ H Q q => ?_
        have hown : (ownN c own).map (·.2) = own := by simp [ownN, Function.comp_def]
        rw [hown]
        exact lc_sound hst (fun σ H Q => tts_of ifs (chkTs_len h6)) σ H Q q
      · cases h) m h
  | .mth m' a as, m, c, X, k, W, e, o, h => dflt_snd o (fun m => by cases m <;> rfl) (by rw [evT] <;> first | rfl | (intros; contradiction)) (by rw [evI] <;> first | rfl | (intros; contradiction)) (fun h => by
      rw [chk] at h; dsimp only [dflt] at h
      split at h
      · simp only [Bool.and_eq_true, beq_iff_eq] at h
        obtain ⟨⟨⟨rfl, h1⟩, h2⟩, h3⟩ := h
        rw [ev, opds]
        exact PE.imp (pe_upper (opd_snd o h3 (snd a .val c X k W _ o h3)) (base_of h2) (by simpa using h1)) fun σ H Q => te_upper
      · cases h) m h
  | .star a, m, c, X, k, W, e, o, h => by cases m <;> simp [chk, dflt] at h
  | .enum a, m, c, X, k, W, e, o, h => by cases m <;> simp [chk, dflt] at h
  | .rng1 a, m, c, X, k, W, e, o, h => by
      cases m with
      | iter t =>
        rw [chk] at h; dsimp only at h
        show PI X t e (TIof X.K X.mg W (evI Φ C (.rng1 a)))
        split at h
        · simp only [Bool.and_eq_true, beq_iff_eq, List.contains_iff_mem] at h
          obtain ⟨⟨⟨⟨rfl, h2⟩, h3⟩, h4⟩, h5⟩ := h
          obtain ⟨g1, g2⟩ := gl_of o h2
          rw [evI]
          exact pi_rng1 g1 (o.bl _ h3) (pa_cons (snd a .val c X k W _ o h5) pa_nil (star_cons h4 _ _)) (star_cons h4 _ _)
        · cases h
      | _ => simp [chk] at h
  | .rng2 a b, m, c, X, k, W, e, o, h => by
      cases m with
      | iter t =>
        rw [chk] at h; dsimp only at h
        show PI X t e (TIof X.K X.mg W (evI Φ C (.rng2 a b)))
        split at h
        · simp only [Bool.and_eq_true, beq_iff_eq, List.contains_iff_mem] at h
          obtain ⟨⟨⟨⟨⟨⟨rfl, h2⟩, h3⟩, h4⟩, h4'⟩, h5⟩, h6⟩ := h
          obtain ⟨g1, g2⟩ := gl_of o h2
          rw [evI]
          exact pi_rng2 g1 (o.bl _ h3) (pa_cons (opd_snd o h5 (snd a .val c X k W _ o h5)) (pa_cons (opd_snd o h6 (snd b .val c X k W _ o h6)) pa_nil (star_cons h4' _ _)) (star_cons h4 _ _)) (by rw [star_cons h4, star_cons h4']; rfl) (by rw [star_cons h4']; rfl)
        · cases h
      | _ => simp [chk] at h
  | .zip a b, m, c, X, k, W, e, o, h => by
      cases m with
      | iter t =>
        rw [chk] at h; dsimp only at h
        show PI X t e (TIof X.K X.mg W (evI Φ C (.zip a b)))
        split at h
        · simp only [Bool.and_eq_true, beq_iff_eq, List.contains_iff_mem] at h
          obtain ⟨⟨⟨⟨⟨⟨⟨h0, rfl⟩, h2⟩, h3⟩, h4⟩, h4'⟩, h5⟩, h6⟩ := h
          obtain ⟨g1, g2⟩ := gl_of o h2
          obtain ⟨es, kk, tp, rfl⟩ := tup_of h0
          rw [evI]
          exact pi_zip' g1 (o.bl _ h3) (pa_cons (snd a .val c X k W _ o h5) (pa_cons (snd b .val c X k W _ o h6) pa_nil (star_cons h4' _ _)) (star_cons h4 _ _)) (star_cons h4 _ _) (star_plain _ (by simp [h4']))
        · cases h
      | _ => simp [chk] at h
  | .andV a b, m, c, X, k, W, e, o, h => spec_snd o (fun t => rfl) (by rw [evI] <;> first | rfl | (intros; contradiction)) (fun h => by
      rw [chk] at h; dsimp only at h
      split at h
      · simp only [Bool.and_eq_true] at h
        obtain ⟨h1, h2⟩ := h
        rw [ev]
        refine PE.imp (pe_and (snd a .val c X k W _ o h1) ?_) fun σ H Q => te_and
        rename_i r _
        cases r with
        | nil => exact pe_one (snd b .val c X k W _ o h2)
        | cons z r => exact snd b .val c X k W _ o h2
      · cases h) (fun h => by
      rw [chk] at h; dsimp only at h
      split at h
      · simp only [Bool.and_eq_true] at h
        obtain ⟨h1, h2⟩ := h
        rw [evT]
        refine PT.imp (pw_and (tB' := TTof X.K X.mg W (evT Φ C b)) (snd a .test c X k W _ o h1) ?_).pt fun σ H Q => tt_and
        rename_i r _
        cases r with
        | nil => exact pw_and1 (snd b .test c X k W _ o h2)
        | cons z r => exact pw_bool (snd b .test c X k W _ o h2)
      · cases h) m h
  | .orV a b, m, c, X, k, W, e, o, h => spec_snd o (fun t => rfl) (by rw [evI] <;> first | rfl | (intros; contradiction)) (fun h => by
      rw [chk] at h; dsimp only at h
      split at h
      · simp only [Bool.and_eq_true] at h
        obtain ⟨h1, h2⟩ := h
        rw [ev]
        refine PE.imp (pe_or (snd a .val c X k W _ o h1) ?_) fun σ H Q => te_or
        rename_i r _
        cases r with
        | nil => exact pe_one (snd b .val c X k W _ o h2)
        | cons z r => exact snd b .val c X k W _ o h2
      · cases h) (fun h => by
      rw [chk] at h; dsimp only at h
      split at h
      · simp only [Bool.and_eq_true] at h
        obtain ⟨h1, h2⟩ := h
        rw [evT]
        refine PT.imp (pw_or (tB' := TTof X.K X.mg W (evT Φ C b)) (snd a .test c X k W _ o h1) ?_).pt fun σ H Q => tt_or
        rename_i r _
        cases r with
        | nil => exact pw_or1 (snd b .test c X k W _ o h2)
        | cons z r => exact pw_bool (snd b .test c X k W _ o h2)
      · cases h) m h
  | .notV a, m, c, X, k, W, e, o, h => spec_snd o (fun t => rfl) (by rw [evI] <;> first | rfl | (intros; contradiction)) (fun h => by
      rw [chk] at h; dsimp only at h
      split at h
      · rw [ev]; exact PE.imp (pe_not (snd a .val c X k W _ o h)) fun σ H Q => te_not
      · cases h) (fun h => by
      rw [chk] at h; dsimp only at h
      split at h
      · rw [evT]; exact PT.imp (pt_not (snd a .test c X k W _ o h)) fun σ H Q => tt_not
      · cases h) m h
  | .ite t a b, m, c, X, k, W, e, o, h => spec_snd o (fun t => rfl) (by rw [evI] <;> first | rfl | (intros; contradiction)) (fun h => by
      rw [chk] at h; dsimp only at h
      split at h
      · simp only [Bool.and_eq_true] at h
        obtain ⟨⟨h1, h2⟩, h3⟩ := h
        rw [ev]; exact PE.imp (pe_ifExp (snd t .test c X k W _ o h1) (snd a .val c X k W _ o h2) (snd b .val c X k W _ o h3)) fun σ H Q => te_ite
      · cases h) (fun h => by
      rw [chk] at h; dsimp only at h
      split at h
      · simp only [Bool.and_eq_true] at h
        obtain ⟨⟨h1, h2⟩, h3⟩ := h
        rw [evT]; exact PT.imp (pt_ifExp (snd t .test c X k W _ o h1) (snd a .test c X k W _ o h2) (snd b .test c X k W _ o h3)) fun σ H Q => tt_ite
      · cases h) m h
  | .cmp op a b, m, c, X, k, W, e, o, h => spec_snd o (fun t => rfl) (by rw [evI] <;> first | rfl | (intros; contradiction)) (fun h => by
      rw [chk] at h; dsimp only at h
      split at h
      · simp only [Bool.and_eq_true, beq_iff_eq] at h
        obtain ⟨⟨⟨rfl, h1⟩, h2⟩, h3⟩ := h
        rw [ev]
        exact PE.imp (pe_cmpR (cmp_ok o.room op) (opd_snd o h2 (snd a .val c X k W _ o h2)) (opd_snd o h3 (snd b .val c X k W _ o h3)) (marks_of h1)) fun σ H Q => te_op2
      · cases h) (fun h => by
      rw [chk] at h; dsimp only at h
      split at h
      · simp only [Bool.and_eq_true, beq_iff_eq] at h
        obtain ⟨⟨⟨rfl, h1⟩, h2⟩, h3⟩ := h
        refine PT.imp (pt_cmpR (cmp_ok o.room op) (opd_snd o h2 (snd a .val c X k W _ o h2)) (opd_snd o h3 (snd b .val c X k W _ o h3)) (marks_of h1)) fun σ H Q q => tt_cmp ?_
        rw [evT_cmp] at q
        have q := tt_val q
        rw [opd_ex (by intros; simp)] at q
        rw [ev] at q
        exact te_op2 q
      · cases h) m h
  | .chn op p a b d, m, c, X, k, W, e, o, h => spec_snd o (fun t => rfl) (by rw [evI] <;> first | rfl | (intros; contradiction)) (fun h => by
      rw [chk] at h; dsimp only at h
      split at h
      · simp only [Bool.and_eq_true, beq_iff_eq] at h
        obtain ⟨⟨⟨⟨⟨rfl, rfl⟩, h1⟩, h2⟩, h3⟩, h4⟩ := h
        rw [ev]
        exact PE.imp (pe_chain (cmp_ok o.room op) (cmp_ok o.room p) (opd_snd o h2 (snd a .val c X k W _ o h2)) (opd_snd o h3 (snd b .val c X k W _ o h3)) (opd_snd o h4 (snd d .val c X k W _ o h4)) (lastMarks_of h1)) fun σ H Q => te_chn
      · cases h) (fun h => by
      rw [chk] at h; dsimp only at h
      split at h
      · simp only [Bool.and_eq_true, beq_iff_eq] at h
        obtain ⟨⟨⟨⟨⟨rfl, rfl⟩, h1⟩, h2⟩, h3⟩, h4⟩ := h
        refine PT.imp (pt_chain (cmp_ok o.room op) (cmp_ok o.room p) (opd_snd o h2 (snd a .val c X k W _ o h2)) (opd_snd o h3 (snd b .val c X k W _ o h3)) (opd_snd o h4 (snd d .val c X k W _ o h4)) (lastMarks_of h1)) fun σ H Q q => tt_chn ?_
        rw [evT_chn] at q
        have q := tt_val q
        rw [opd_ex (by intros; simp)] at q
        rw [ev] at q
        exact te_chn q
      · cases h) m h
theorem sndAs : ∀ (as : List E) (c : Ck) (X : Cx) (k : Nat) (W : WX) (es : List Expr), c.Ok X k Φ C W → es.all notStar = true → chkAs as c es = true → PA X es (tOpds X.K X.mg W (opds Φ C as)) ∧ PA X es (tArgs X.K X.mg W (args Φ C as)) ∧ PEs X W es (args Φ C as)
  | [], c, X, k, W, es, o, hs, h => by
    rw [chkAs] at h
    cases es with
    | nil => rw [opds, args]; exact ⟨pa_nil, pa_nil, .nil⟩
    | cons e es => cases h
  | a :: as, c, X, k, W, es, o, hs, h => by
    rw [chkAs] at h
    cases es with
    | nil => cases h
    | cons e es =>
      have hs' := hs
      rw [List.all_cons, Bool.and_eq_true] at hs
      simp only [Bool.and_eq_true] at h
      have s := snd a .val c X k W e o h.1
      obtain ⟨q1, q2, q3⟩ := sndAs as c X k W es o hs.2 h.2
      have so := opd_snd o h.1 s
      have pe : PEs X W (e :: es) (args Φ C (a :: as)) := by
        by_cases q : ∃ i, a = .var i
        · obtain ⟨i, rfl⟩ := q
          rw [args_var]
          rw [opd_var] at so
          exact .cons so q3
        · rw [args_ex fun i z => q ⟨i, z⟩]
          exact .cons s q3
      rw [opds]
      exact ⟨pa_cons so q1 (star_cons hs.1 _ _), PEs.pa pe hs', pe⟩
theorem sndDs : ∀ (as : List E) (c : Ck) (X : Cx) (k : Nat) (W : WX) (es : List Expr), c.Ok X k Φ C W → chkDs as c es = true → PA X es (tDisp X.K X.mg W Φ C as)
  | [], c, X, k, W, es, o, h => by
    rw [chkDs] at h
    cases es with
    | nil => rw [tDisp]; exact pa_nil
    | cons e es => cases h
  | a :: as, c, X, k, W, es, o, h => by
    rw [chkDs] at h
    cases es with
    | nil => cases h
    | cons e es =>
      simp only [Bool.and_eq_true] at h
      obtain ⟨h1, h2⟩ := h
      have sd := sndDs as c X k W es o h2
      have sa := fun h => snd a .val c X k W e o h
      cases a
      case star b =>
        split at h1
        · have s := snd b .val c X k W _ o h1
          rw [tDisp]
          exact StX.pa_star s sd rfl
        · simp [chk, dflt] at h1
      all_goals (
        have hns : notStar e = true := by
          cases e <;> first | rfl | cases h1
        have h1 := (show chk _ .val c e = true by cases e <;> first | exact h1 | cases hns)
        rw [tDisp_cons _ as (by intros; simp)]
        exact pa_cons (sa h1) sd (star_cons hns _ _))
theorem sndTs : ∀ (as : List E) (c : Ck) (X : Cx) (k : Nat) (W : WX) (es : List Expr), c.Ok X k Φ C W → chkTs as c es = true → PTs X es (ttOf X.K X.mg W Φ C as)
  | [], c, X, k, W, es, o, h => by
    rw [chkTs] at h
    cases es with
    | nil => exact pts_nil
    | cons e es => cases h
  | a :: as, c, X, k, W, es, o, h => by
    rw [chkTs] at h
    dsimp only at h
    split at h
    · exact pts_one (snd a .test c X k W _ o h)
    · cases h
end
end
end Lw
end

section
set_option Elab.async false
set_option linter.all false
set_option maxRecDepth 100000
set_option maxHeartbeats 4000000
/-! L19: the checker's word is good: statements -/
namespace Lw
open PySem L2
section
variable {X : Cx} {c : Ck} {k : Nat} {Φ : Nat → M Sl} {C : Nat → D} {W : WX}
theorem filterMap_all {α β : Type} {f : α → Option β} : ∀ {l : List α}, (l.filterMap f).length = l.length → ∀ x ∈ l, (f x).isSome = true
  | [], _, x, h => nomatch h
  | a :: l, e, x, h => by
    rw [List.filterMap_cons] at e
    have hle := List.length_filterMap_le f l
    cases ea : f a with
    | none => rw [ea] at e; simp at e; omega
    | some b =>
      rw [ea] at e
      rcases List.mem_cons.mp h with rfl | h
      · rw [ea]; rfl
      · exact filterMap_all (by simpa using e) x h
theorem swap_none {ts : List Expr} {v : Expr} {a b} (o : c.Ok X k Φ C W) (h : plainAsg c ts v = true) : swappedStores [.Tuple ts a b] v X.env = pure none := by
  cases v with
  | Tuple vs k p =>
    unfold swappedStores
    simp only [plainAsg, Bool.or_eq_true] at h
    dsimp only
    split
    · rfl
    · rename_i h1
      split
      · rfl
      · split
        · rfl
        · rename_i h3
          split
          · rfl
          · rename_i h4
            exfalso
            simp only [Bool.or_eq_true, not_or] at h1 h3
            rcases h with ((h | h) | h) | h
            · exact h4 h
            · exact h1.1.1 h
            · exact h1.1.2 h
            · rw [List.any_eq_true] at h
              obtain ⟨e, he, h⟩ := h
              have := filterMap_all (by have q := h3.1; rw [bne_iff_ne] at q; exact Classical.not_not.mp q) e he
              cases e <;> first | cases this | skip
              rename_i x p
              have hk : X.env.kindOf x = c.sc.names.lookup x := by show X.env.scope.names.lookup x = _; rw [o.sc]
              dsimp only at this h
              rw [hk] at this
              cases e2 : (c.sc.names.lookup x == some .local) with
              | false => rw [e2] at this; cases this
              | true => simp only [bne, e2] at h; cases h
  | _ => rfl
theorem names_eq (o : c.Ok X k Φ C W) (l : Nat) : ∀ {ts : List Expr}, (ts.all fun e => match e with
    | .Name x p => c.sc.names.lookup x == some .local && p.line == l
    | _ => false) = true → (ts.filterMap fun e => match e with
    | .Name id pos => if X.env.kindOf id == some .local && pos.line == l then some id else none
    | _ => none) = namesOf ts ∧ (namesOf ts).length = ts.length
  | [], _ => ⟨rfl, rfl⟩
  | e :: ts, h => by
    rw [List.all_cons, Bool.and_eq_true] at h
    obtain ⟨q1, q2⟩ := names_eq o l h.2
    cases e <;> first | cases h.1 | skip
    rename_i x p
    have hk : X.env.kindOf x = c.sc.names.lookup x := by show X.env.scope.names.lookup x = _; rw [o.sc]
    have h1 : (c.sc.names.lookup x == some .local && p.line == l) = true := h.1
    refine ⟨?_, by simp [namesOf, q2]⟩
    rw [List.filterMap_cons]
    dsimp only
    rw [hk, h1, namesOf, ← q1]
    rfl
theorem swap_some {ts vs : List Expr} {a b k' p} (o : c.Ok X k Φ C W) (h : swapAsg c ts vs = true) : swappedStores [.Tuple ts a b] (.Tuple vs k' p) X.env = pure (some (namesOf ts)) := by
  have hb : X.env.blockKind = .function := by unfold Env.blockKind; rw [o.sc, o.kind]; rfl
  simp only [swapAsg, Bool.and_eq_true, Bool.not_eq_true'] at h
  obtain ⟨⟨⟨⟨⟨⟨h1, h2⟩, h3⟩, h4⟩, h5⟩, h6⟩, h7⟩ := h
  obtain ⟨q1, q2⟩ := names_eq o _ h7
  unfold swappedStores
  dsimp only
  have e4 : (vs.any fun | .Starred .. => true | _ => false) = false := by
    rw [List.any_eq_false]
    intro x hx
    have := List.all_eq_true.mp h4 x hx
    cases x <;> first | (simp; done) | cases this
  have eh : ts[0]? = ts.head? := by cases ts <;> rfl
  rw [if_neg (by rw [hb]; simp only [h1]; simp only [beq_iff_eq] at h2; simp [h2])]
  split
  · rename_i z; exact absurd (e4.symm.trans z) (by decide)
  · split
    · rename_i z
      exfalso
      erw [q1] at z
      simp only [beq_iff_eq] at h3
      simp [q2, h3] at z
    · rw [if_neg (by rw [h5]; decide), if_neg (by rw [h6]; decide)]
      erw [q1]
end
end Lw
end

section
set_option Elab.async false
set_option linter.all false
set_option maxRecDepth 100000
set_option maxHeartbeats 4000000
/-! L20: the checker's word is good: every statement -/
namespace Lw
open PySem L2
section
variable {Φ : Nat → M Sl} {C : Nat → D}
/-- l = [.. for ..] -/
theorem set_lc {X : Cx} {c : Ck} {k : Nat} {W : WX} (o : c.Ok X k Φ C W) {e : E} {i : Nat} {x : Str} {px pos p : Pos} {el : Expr} {gs : List Comprehension} {scope : Scope} (hl : locB c i x = true) (he : chk e .val c (.ListComp el gs scope p) = true)
    (h1 : (c.sc.names.lookup x == some .local) = true) (h2 : (px.line == p.line) = true) (h3 : (scope.names.any fun (n, k) => n == x && (k == .local || k == .cell)) = false) :
    PS X (.Assign [.Name x px] (.ListComp el gs scope p) pos) (tAsg (TEof X.K X.mg W (ev Φ C e)) (gName i)) := by
  cases e
  case mth m a as => rw [chk] at he; dsimp only [dflt] at he; cases m <;> cases as <;> cases he
  case lc =>
    rename_i elt tg it ifs own
    rw [chk] at he; dsimp only [dflt] at he
    split at he
    · rename_i heq
      cases heq
      simp only [Bool.and_eq_true] at he
      obtain ⟨⟨⟨⟨⟨⟨h1', h2'⟩, h3'⟩, h4⟩, h5⟩, h6⟩, h7⟩ := he
      rw [ev]
      have hb := blkOk_by h1'
      have hb' := hb
      rw [← o.N, ← o.sc] at hb'
      have hst : ∀ i ∈ tg.st, i ∈ own := fun i hi => by simpa using List.all_eq_true.mp h2' i hi
      have ok := fun s H C' cl fp => o.inner (Cc := C') (cl := cl) (own := own) (s := s) (H := H) (fp := fp) hb.kind
      obtain ⟨q1, q2, q3⟩ := loc_of o hl
      have hy : X.env.scope.names.lookup x = some .local := by rw [o.sc]; simpa using h1
      refine PS.imp (ps_setLc (te := TEof X.K X.mg W0 (ev Φ C elt)) (tt := ttOf X.K X.mg W0 Φ C ifs) (g := tgT X.K tg) o.calm (by rw [o.N]; exact o.nd) q1 hy (sw_true (by rw [o.sc]; exact o.kind) hy h2 h3) (snd it (.iter _) c X k W _ o h4) hb' (fun s H C' cl fp => sndG tg _ _ _ _ _ (ok s H C' cl fp) h5) (fun s H C' cl fp => sndTs ifs _ _ _ _ _ (ok s H C' cl fp) h6) (fun s H C' cl fp => snd elt .val _ _ _ _ _ (ok s H C' cl fp) h7) (folded_of h3')) fun D σ H q => ?_
      have hown : (ownN c own).map (·.2) = own := by simp [ownN, Function.comp_def]
      rw [hown]
      exact lc_sound hst (fun σ H Q => tts_of ifs (chkTs_len h6)) σ H _ q
    · cases he
  all_goals (rw [chk] at he; dsimp only [dflt] at he; cases he)
theorem par_of {X : Cx} {c : Ck} {k : Nat} {W : WX} (o : c.Ok X k Φ C W) : ∀ {is : List Nat} {ts : List Expr}, chkPar c is ts = true → is.length = ts.length ∧ ∀ i ∈ is, i ∈ c.st
  | [], [], _ => ⟨rfl, fun _ h => nomatch h⟩
  | i :: is, e :: ts, h => by
    cases e <;> first | cases h | skip
    rw [chkPar, Bool.and_eq_true] at h
    obtain ⟨q1, q2⟩ := par_of o h.2
    refine ⟨by simp [q1], fun j hj => ?_⟩
    rcases List.mem_cons.mp hj with rfl | hj
    · have := h.1
      unfold locB at this
      simp only [Bool.and_eq_true] at this
      simpa using this.1.2
    · exact q2 j hj
  | [], e :: ts, h => by simp [chkPar] at h
  | i :: is, [], h => by simp [chkPar] at h
theorem par_cons {c : Ck} {is : List Nat} {ts : List Expr} {n : Nat} (h : chkPar c is ts = true) (e : ts.length = n + 1) : ∃ i is' x px ts', is = i :: is' ∧ ts = .Name x px :: ts' ∧ locB c i x = true ∧ chkPar c is' ts' = true ∧ ts'.length = n := by
  cases ts with
  | nil => cases e
  | cons t ts =>
    cases is with
    | nil => simp [chkPar] at h
    | cons i is =>
      cases t <;> first | cases h | skip
      rw [chkPar, Bool.and_eq_true] at h
      exact ⟨_, _, _, _, _, rfl, rfl, h.1, h.2, by simpa using e⟩
theorem par_nil {c : Ck} {is : List Nat} {ts : List Expr} (h : chkPar c is ts = true) (e : ts.length = 0) : is = [] ∧ ts = [] := by
  cases ts with
  | nil => cases is with
    | nil => exact ⟨rfl, rfl⟩
    | cons i is => simp [chkPar] at h
  | cons t ts => cases e
theorem locB_st {c : Ck} {i : Nat} {x : Str} (h : locB c i x = true) : i ∈ c.st := by
  unfold locB at h
  simp only [Bool.and_eq_true] at h
  simpa using h.1.2
mutual
theorem chkG_st : ∀ (tg : Tgt) {c : Ck} {e : Expr}, chkG c tg e = true → ∀ i ∈ tg.st, i ∈ c.st
  | .nm i, c, e, h, j, hj => by
    rw [chkG] at h; dsimp only at h
    rw [Tgt.st] at hj
    split at h
    · have := locB_st h
      simp at hj; rw [hj]; exact this
    · cases h
  | .tup ts, c, e, h, j, hj => by
    rw [chkG] at h; dsimp only at h
    rw [Tgt.st] at hj
    split at h
    · exact chkGs_st ts h j hj
    · cases h
theorem chkGs_st : ∀ (ts : List Tgt) {c : Ck} {es : List Expr}, chkGs c ts es = true → ∀ i ∈ Tgt.sts ts, i ∈ c.st
  | [], c, es, h, j, hj => by rw [Tgt.sts] at hj; cases hj
  | t :: ts, c, es, h, j, hj => by
    rw [chkGs] at h
    cases es with
    | nil => cases h
    | cons e es =>
      simp only [Bool.and_eq_true] at h
      rw [Tgt.sts] at hj
      rcases List.mem_append.mp hj with hj | hj
      · exact chkG_st t h.1.2 j hj
      · exact chkGs_st ts h.2 j hj
end
theorem aug_add {d x : Lw.D} {s : Sl} (h : augO .Add d x = some s) : ∃ a b, d = .int a ∧ x = .int b ∧ s = vI (a + b) := by
  unfold augO at h
  split at h
  · cases h; exact ⟨_, _, rfl, rfl, rfl⟩
  · rename_i heq; cases heq
  · cases h
theorem aug_sub {d x : Lw.D} {s : Sl} (h : augO .Sub d x = some s) : ∃ a b, d = .int a ∧ x = .int b ∧ s = vI (a - b) := by
  unfold augO at h
  split at h
  · rename_i heq; cases heq
  · cases h; exact ⟨_, _, rfl, rfl, rfl⟩
  · cases h
theorem noswap1 {t e : Expr} {l : Nat} {env : PySem.Env} (h : notComp e = true) : swapsWithSole [t] e l env = pure false := by
  unfold swapsWithSole
  exact noswap_of h
theorem asg_sub {o i : Expr} {pos : Pos} {env : PySem.Env} {v : Value} (h : plainIx i = true) : assign (.Subscript o i pos) env v = (do
      let ov ← holding [v] (eval o env)
      let iv ← holding [v, ov] (eval i env)
      standAt pos
      holding [v, ov, iv] (setItem ov iv v)
      release [v, ov, iv] []) := by
  cases i <;> first | rfl | cases h
theorem base_name {x : Str} {p : Pos} {m : Str} {env : PySem.Env} {w : Sem Value} : attributeBase (.Name x p) m env w = w := rfl
mutual
theorem sndS : ∀ (a : S) (c : Ck) (X : Cx) (k : Nat) (W : WX) (s : Stmt), c.Ok X k Φ C W → chkS a c s = true → PS X s (TSof X.K X.mg W c.st (ex Φ C a))
  | .set i e, c, X, k, W, s, o, h => by
    rw [chkS] at h; dsimp only at h
    split at h
    · rename_i x px v pos
      simp only [Bool.and_eq_true, Bool.or_eq_true] at h
      obtain ⟨⟨h1, h2⟩, h3⟩ := h
      refine PS.imp (t := tAsg (TEof X.K X.mg W (ev Φ C e)) (gName i)) ?_ fun D σ H q => ss_set (locB_st h1) (by rw [ex] at q; exact q)
      rcases h3 with h3 | h3
      · obtain ⟨q1, q2, q3⟩ := loc_of o h1
        exact ps_set (by rw [o.N]; exact o.nd) q1 q2 (snd e .val c X k W v o h2) (noswap_of h3) q3
      · split at h3
        · simp only [Bool.and_eq_true, Bool.not_eq_true'] at h3
          exact set_lc o h1 h2 h3.1.1 h3.1.2 h3.2
        · cases h3
    · cases h
  | .setT tg e, c, X, k, W, s, o, h => by
    rw [chkS] at h; dsimp only at h
    split at h
    · rename_i tg ts a b v pos
      simp only [Bool.and_eq_true] at h
      obtain ⟨⟨⟨h1, h2⟩, h3⟩, h4⟩ := h
      obtain ⟨q1, q2, q3⟩ := sndGs tg c X k W ts o h1
      refine PS.imp (ps_asg (snd e .val c X k W v o h4) (pg_tup o.calm q1 q2 q3) (noswap1 h2) (swap_none o h3) rfl) fun D σ H q => ?_
      rw [ex] at q
      have := ss_setT (chkGs_st tg h1) q
      rwa [tgT] at this
    · cases h
  | .par is es, c, X, k, W, s, o, h => by
    rw [chkS] at h; dsimp only at h
    split at h
    · rename_i ts a b vs k' p pos
      simp only [Bool.and_eq_true] at h
      obtain ⟨⟨⟨⟨h1, h2⟩, h3⟩, h4⟩, h5⟩ := h
      have hsw := swap_some (a := a) (b := b) (k' := k') (p := p) o h4
      obtain ⟨hl, hst⟩ := par_of o h1
      have h4' := h4
      simp only [swapAsg, Bool.and_eq_true, Bool.not_eq_true'] at h4'
      obtain ⟨⟨⟨⟨⟨⟨g1, g2⟩, g3⟩, g4⟩, g5⟩, g6⟩, g7⟩ := h4'
      have nd : is.Nodup := by simpa using h2
      have lcl : ∀ {x p}, Expr.Name x p ∈ ts → X.env.scope.names.lookup x = some .local := fun {x p} hx => by
        have := List.all_eq_true.mp g7 _ hx
        simp only [Bool.and_eq_true] at this
        rw [o.sc]; simpa using this.1
      have hN : X.N.Nodup := by rw [o.N]; exact o.nd
      have pa := (sndAs es c X k W vs o g4 h5).2.1
      simp only [Bool.or_eq_true, beq_iff_eq] at g1 g2
      rcases g1 with g1 | g1
      · obtain ⟨i, is1, x, px, ts1, rfl, rfl, l1, h1, e1⟩ := par_cons h1 g1
        obtain ⟨j, is2, y, py, ts2, rfl, rfl, l2, h1, e2⟩ := par_cons h1 e1
        obtain ⟨rfl, rfl⟩ := par_nil h1 e2
        obtain ⟨x1, _, _⟩ := loc_of o l1
        obtain ⟨y1, _, _⟩ := loc_of o l2
        obtain ⟨v, w, rfl⟩ : ∃ v w, vs = [v, w] := by
          match vs, g2 with
          | [v, w], _ => exact ⟨v, w, rfl⟩
        refine PS.imp (ps_par o.calm hN x1 y1 (by intro e; simp [e] at nd) (lcl (p := px) (by simp)) (lcl (p := py) (by simp)) pa hsw rfl) fun D σ H q => ?_
        rw [ex] at q
        exact tPar_of (fun σ H Q Q' m => tArgs_mono _ m) (ss_par hst q)
      · obtain ⟨i, is1, x, px, ts1, rfl, rfl, l1, h1, e1⟩ := par_cons h1 g1
        obtain ⟨j, is2, y, py, ts2, rfl, rfl, l2, h1, e2⟩ := par_cons h1 e1
        obtain ⟨l, is3, z, pz, ts3, rfl, rfl, l3, h1, e3⟩ := par_cons h1 e2
        obtain ⟨rfl, rfl⟩ := par_nil h1 e3
        obtain ⟨x1, _, _⟩ := loc_of o l1
        obtain ⟨y1, _, _⟩ := loc_of o l2
        obtain ⟨z1, _, _⟩ := loc_of o l3
        obtain ⟨v, w, u, rfl⟩ : ∃ v w u, vs = [v, w, u] := by
          match vs, g2 with
          | [v, w, u], _ => exact ⟨v, w, u, rfl⟩
        refine PS.imp (ps_par3 o.calm hN x1 y1 z1 (by intro e; simp [e] at nd) (by intro e; simp [e] at nd) (by intro e; simp [e] at nd) (lcl (p := px) (by simp)) (lcl (p := py) (by simp)) (lcl (p := pz) (by simp)) pa hsw rfl) fun D σ H q => ?_
        rw [ex] at q
        refine tArgs_mono _ (fun vs H1 ⟨hl, q⟩ => ?_) (ss_par hst q)
        match vs, hl, q with
        | [v, w, u], _, q => exact ⟨v, w, u, rfl, q⟩
    · cases h
  | .aug i op e, c, X, k, W, s, o, h => by
    rw [chkS] at h; dsimp only at h
    split at h
    · rename_i x px op' v pos
      simp only [Bool.and_eq_true, Bool.or_eq_true, beq_iff_eq] at h
      obtain ⟨⟨⟨rfl, h1⟩, h2⟩, h3⟩ := h
      obtain ⟨q1, q2, q3⟩ := loc_of o h2
      have hN : X.N.Nodup := by rw [o.N]; exact o.nd
      rcases h1 with rfl | rfl
      · exact PS.imp (ps_aug hN q1 q2 (snd e .val c X k W v o h3) ip_add q3) fun D σ H q => ss_aug (fun d x s => aug_add) (locB_st h2) (by rw [ex] at q; exact q)
      · exact PS.imp (ps_aug hN q1 q2 (snd e .val c X k W v o h3) ip_sub q3) fun D σ H q => ss_aug (fun d x s => aug_sub) (locB_st h2) (by rw [ex] at q; exact q)
    · cases h
  | .sidx i kx e, c, X, k, W, s, o, h => by
    rw [chkS] at h; dsimp only at h
    split at h
    · rename_i x px kx' p2 v pos
      simp only [Bool.and_eq_true] at h
      obtain ⟨⟨⟨⟨h1, h2⟩, h3⟩, h4⟩, h5⟩ := h
      refine PS.imp (ps_asg (snd e .val c X k W v o h5) (pg_sub (pe_varO o h1) (snd kx .val c X k W kx' o h4) set_list (fun v => asg_sub h2)) (noswap1 h3) (by cases v <;> rfl) rfl) fun D σ H q => ?_
      rw [ex] at q
      exact ss_sidx q
    · cases h
  | .app i e, c, X, k, W, s, o, h => by
    rw [chkS] at h; dsimp only at h
    split at h
    · rename_i x px m ap v cp p
      simp only [Bool.and_eq_true, beq_iff_eq] at h
      obtain ⟨⟨⟨⟨rfl, h1⟩, h2⟩, h3⟩, h4⟩ := h
      refine PS.imp (ps_expr (pe_bm PySem.F.plainAttrs_list PySem.F.slot_list_append PySem.F.type_list_append mt_append (pe_varO o h2) (pa_cons (snd e .val c X k W v o h4) pa_nil (star_cons h3 _ _)) rfl (by rw [star_cons h3]; rfl) (by simpa using h1) (star_cons h3 _ _) rfl) rfl) fun D σ H q => ?_
      rw [ex] at q
      exact ss_app q
    · cases h
  | .ext i e, c, X, k, W, s, o, h => by
    rw [chkS] at h; dsimp only at h
    split at h
    · rename_i x px m ap v cp p
      simp only [Bool.and_eq_true, beq_iff_eq] at h
      obtain ⟨⟨⟨⟨rfl, h1⟩, h2⟩, h3⟩, h4⟩ := h
      refine PS.imp (ps_expr (pe_bm PySem.F.plainAttrs_list PySem.F.slot_list_extend PySem.F.type_list_extend mt_extend (pe_varO o h2) (pa_cons (snd e .val c X k W v o h4) pa_nil (star_cons h3 _ _)) rfl (by rw [star_cons h3]; rfl) (by simpa using h1) (star_cons h3 _ _) rfl) rfl) fun D σ H q => ?_
      rw [ex] at q
      exact ss_ext q
    · cases h
  | .ex e, c, X, k, W, s, o, h => by
    rw [chkS] at h; dsimp only at h
    split at h
    · simp only [Bool.and_eq_true] at h
      exact PS.imp (ps_expr (snd e .val c X k W _ o h.2) (noswap_of h.1)) fun D σ H q => ss_drop (by rw [ex] at q; exact q)
    · cases h
  | .ret e, c, X, k, W, s, o, h => by
    rw [chkS] at h; dsimp only at h
    split at h
    · exact PS.imp (ps_ret (snd e .val c X k W _ o h)) fun D σ H q => ss_ret (by rw [ex] at q; exact q)
    · cases h
  | .retN, c, X, k, W, s, o, h => by
    rw [chkS] at h; dsimp only at h
    split at h
    · exact PS.imp ps_retN fun D σ H q => ss_retN (by rw [ex] at q; exact q)
    · cases h
  | .ite t a b, c, X, k, W, s, o, h => by
    rw [chkS] at h; dsimp only at h
    split at h
    · simp only [Bool.and_eq_true] at h
      exact PS.imp (ps_if (snd t .test c X k W _ o h.1.1) (sndSs a c X k W _ o h.1.2) (sndSs b c X k W _ o h.2)) fun D σ H q => ss_if (by rw [ex] at q; exact q)
    · cases h
  | .whl t a, c, X, k, W, s, o, h => by
    rw [chkS] at h; dsimp only at h
    split at h
    · simp only [Bool.and_eq_true] at h
      exact PS.imp (ps_while o.pass (snd t .test c X k W _ o h.1) (sndSs a c X k W _ o h.2)) fun D σ H q => ss_while (by rw [ex] at q; exact q)
    · cases h
  | .for_ tg it a, c, X, k, W, s, o, h => by
    rw [chkS] at h; dsimp only at h
    split at h
    · simp only [Bool.and_eq_true] at h
      obtain ⟨⟨⟨h1, h2⟩, h3⟩, h4⟩ := h
      exact PS.imp (ps_for o.pass o.calm (snd it (.iter _) c X k W _ o h3) (sndG tg c X k W _ o h2) (sndSs a c X k W _ o h4) (folded_of h1)) fun D σ H q => ss_for (chkG_st tg h2) (by rw [ex] at q; exact q)
    · cases h
  | .brk, c, X, k, W, s, o, h => by
    rw [chkS] at h; dsimp only at h
    split at h
    · exact PS.imp ps_break fun D σ H q => ss_bk (by rw [ex] at q; exact q)
    · cases h
  | .cnt, c, X, k, W, s, o, h => by
    rw [chkS] at h; dsimp only at h
    split at h
    · exact PS.imp ps_continue fun D σ H q => ss_ct (by rw [ex] at q; exact q)
    · cases h
  | .pas, c, X, k, W, s, o, h => by
    rw [chkS] at h; dsimp only at h
    split at h
    · exact PS.imp ps_pass fun D σ H q => ss_nil (by rw [ex] at q; exact q)
    · cases h
  | .nev, c, X, k, W, s, o, h => PS.imp ps_never fun D σ H q => ss_bad (t := tNever) (by rw [ex] at q; exact q)
theorem sndSs : ∀ (as : List S) (c : Ck) (X : Cx) (k : Nat) (W : WX) (ss : List Stmt), c.Ok X k Φ C W → chkSs as c ss = true → PSs X ss (TSof X.K X.mg W c.st (exs Φ C as))
  | [], c, X, k, W, ss, o, h => by
    rw [chkSs] at h
    cases ss with
    | nil => exact ⟨fun pins s σ H D I q => pss_nil.run pins s σ H D I (ss_nil (by rw [exs] at q; exact q))⟩
    | cons s ss => cases h
  | a :: as, c, X, k, W, ss, o, h => by
    rw [chkSs] at h
    cases ss with
    | nil => cases h
    | cons s ss =>
      simp only [Bool.and_eq_true] at h
      have q := pss_cons (sndS a c X k W s o h.1) (sndSs as c X k W ss o h.2)
      exact ⟨fun pins s σ H D I h => q.run pins s σ H D I (ss_seq (by rw [exs] at h; exact h))⟩
end
end
end Lw
end

section
set_option Elab.async false
set_option linter.all false
set_option maxRecDepth 100000
set_option maxHeartbeats 4000000
/-! L21: a def by its IR -/
namespace Lw
open PySem L2
section
variable {K : PySem.W.Frag} {mg : Str → Option Value} {W : WX} {P P' P1 P2 : Addr → Prop} {H H' H1 H0 H2 : Hp} {σ σ' σ1 σ2 : L2.St} {E E' E1 E2 E0 : SE}
/-- the slots seen anew: what is there agrees -/
theorem own_re (hm : ∀ (i : Nat) (s : Sl), E2[i]? = some s → s ≠ .no → E[i]? = some s ∧ σ2[i]? = σ[i]?) {a : Addr} (h : OwnS σ2 E2 a) : OwnS σ E a := by
  obtain ⟨i, d, e1, e2⟩ := h
  obtain ⟨q1, q2⟩ := hm i _ e1 (by simp)
  exact ⟨i, d, q1, by rw [← q2]; exact e2⟩
theorem Good.re (g : Good K P H σ E) (hl : σ2.length = E2.length) (hm : ∀ (i : Nat) (s : Sl), E2[i]? = some s → s ≠ .no → E[i]? = some s ∧ σ2[i]? = σ[i]?) : Good K P H σ2 E2 where
  len := hl
  dom := g.dom
  val := fun i d e => by
    obtain ⟨q1, q2⟩ := hm i _ e (by simp)
    obtain ⟨v, e1, r⟩ := g.val i d q1
    exact ⟨v, by rw [q2]; exact e1, r.mono fun a z => ⟨z.1, fun q => z.2 (own_re hm q)⟩⟩
  own := fun i d e => by
    obtain ⟨q1, q2⟩ := hm i _ e (by simp)
    obtain ⟨v, e1, r⟩ := g.own i d q1
    exact ⟨v, by rw [q2]; exact e1, r.monoD fun a _ _ z => ⟨z.1, fun q => z.2 (own_re hm q)⟩⟩
  dis := fun a q => g.dis a (own_re hm q)
  inj := fun i j d d' a e1 e2 e3 e4 => by
    obtain ⟨q1, q2⟩ := hm i _ e1 (by simp)
    obtain ⟨q3, q4⟩ := hm j _ e2 (by simp)
    exact g.inj i j d d' a q1 q3 (by rw [← q2]; exact e3) (by rw [← q4]; exact e4)
theorem Lnk.re (l : Lnk P σ E H P' σ' E' H') (h1 : ∀ a, OwnS σ E a → OwnS σ1 E1 a) (h2 : ∀ a, OwnS σ2 E2 a → OwnS σ' E' a) (h3 : ∀ a, OwnS σ E a → OwnS σ1 E1 a) : Lnk P σ1 E1 H P' σ2 E2 H' :=
  ⟨fun a o e n => l.keep a o e fun q => n (h1 a q), fun a q => (l.new a (h2 a q)).imp (h1 a) id, fun a p => (l.pr a p).imp id (·.imp (h1 a) id)⟩
end
section
variable {P : Program} {w : World} {K : PySem.W.Frag} {mg : Str → Option Value} {base : Heap} {k : Nat} {Φ : Nat → M Sl} {C : Nat → D}
/-- a body by its IR -/
theorem body_of {W : WX} {Pr : Addr → Prop} {H : Hp} {vs : List V} {E : SE} {n : Nat} {rb st : List Nat} {body : List S} {Q : VK} (hn : vs.length ≤ n) (hst : ∀ i, i < vs.length → i ∈ st → i ∈ rb) (hW : ∀ c d σ σ' H, W c d σ H → W c d σ' H) (g : Good K Pr H (vs.map some) E)
    (h : PostE K mg W Pr (vs.map some) E H Q (fnS Φ C n rb body E)) : TSof K mg W st (exs Φ C body) { nx := fun _ H' => Q .non H', rt := Q } (vs.map some ++ List.replicate (n - vs.length) none) H := by
  have hlen : E.length = vs.length := by rw [← g.len, List.length_map]
  have m0 : ∀ (i : Nat) (s : Sl), (E ++ List.replicate (n - E.length) Sl.no)[i]? = some s → s ≠ .no → E[i]? = some s ∧ (vs.map some ++ List.replicate (n - vs.length) none)[i]? = (vs.map some)[i]? := fun i s e hs => by
    by_cases hi : i < E.length
    · rw [List.getElem?_append_left hi] at e
      exact ⟨e, List.getElem?_append_left (by rw [List.length_map]; omega)⟩
    · rw [List.getElem?_append_right (by omega), List.getElem?_replicate] at e
      split at e
      · cases e; exact absurd rfl hs
      · cases e
  have m1 : ∀ (i : Nat) (s : Sl), E[i]? = some s → s ≠ .no → (E ++ List.replicate (n - E.length) Sl.no)[i]? = some s ∧ (vs.map some)[i]? = (vs.map some ++ List.replicate (n - vs.length) none)[i]? := fun i s e hs => by
    have hi : i < E.length := by
      rcases Nat.lt_or_ge i E.length with h | h
      · exact h
      · rw [List.getElem?_eq_none h] at e; cases e
    exact ⟨by rw [List.getElem?_append_left hi]; exact e, (List.getElem?_append_left (by rw [List.length_map]; omega)).symm⟩
  have g0 : Good K Pr H (vs.map some ++ List.replicate (n - vs.length) none) (E ++ List.replicate (n - E.length) Sl.no) := g.re (by simp [hlen]) m0
  refine ⟨Pr, _, g0, ?_⟩
  unfold fnS at h
  -- the slots at the end, seen from outside
  have fin : ∀ {σ' : L2.St} {E' : SE}, σ'.length = E'.length → Same st (vs.map some ++ List.replicate (n - vs.length) none) σ' → (vs.map some).length = ((wipeE E' rb).take E.length).length ∧
      ∀ (i : Nat) (s : Sl), ((wipeE E' rb).take E.length)[i]? = some s → s ≠ .no → E'[i]? = some s ∧ (vs.map some)[i]? = σ'[i]? := fun {σ' E'} hl sm => by
    have hl' : E'.length = n := by
      rw [← hl, sm.1]; simp; omega
    refine ⟨by rw [List.length_take, wipeE_len, hl', hlen]; simp; omega, fun i s e hs => ?_⟩
    rw [List.getElem?_take] at e
    split at e
    · rename_i hi
      rw [wipeE_at] at e
      split at e
      · split at e
        · cases e; exact absurd rfl hs
        · cases e
      · rename_i hr
        refine ⟨e, ?_⟩
        rw [sm.2 i fun q => hr (hst i (by omega) q)]
        exact (List.getElem?_append_left (by rw [List.length_map]; omega)).symm
    · cases e
  cases e : exs Φ C body (E ++ List.replicate (n - E.length) .no) with
  | bad => rw [e] at h; exact h.elim
  | bk E' => rw [e] at h; exact h.elim
  | ct E' => rw [e] at h; exact h.elim
  | nx E' =>
    rw [e] at h
    intro σ' H' g' l' s'
    obtain ⟨f1, f2⟩ := fin g'.len s'
    have g2 := g'.re f1 f2
    refine h .non H' (g2.less fun a z => z.elim id False.elim) ?_ .non fun a z => z.elim
    exact (l'.re (fun a => own_re m0) (fun a => own_re f2) (fun a => own_re m0)).less fun a z => z.elim id False.elim
  | rt s E' =>
    rw [e] at h
    intro v σ' H' g' l' s' r' n'
    obtain ⟨f1, f2⟩ := fin g'.len s'
    exact h v H' (g'.re f1 f2) (l'.re (fun a => own_re m0) (fun a => own_re f2) (fun a => own_re m0)) (r'.mono2 fun a z => ⟨z.1, fun q => z.2 (own_re f2 q)⟩) n'
  | exc Cn x E' =>
    rw [e] at h
    intro σ' H' cls d g' l' s' x'
    obtain ⟨f1, f2⟩ := fin g'.len s'
    exact hW _ _ _ _ _ (h H' cls d (g'.re f1 f2) (l'.re (fun a => own_re m0) (fun a => own_re f2) (fun a => own_re m0)) (x'.less fun a z => ⟨z.1, fun q => z.2 (own_re f2 q)⟩))
/-- what a def's text may lean on -/
structure Facts (P : Program) (w : World) (K : PySem.W.Frag) (mg : Str → Option Value) (base : Heap) (k : Nat) (Φ : Nat → M Sl) (C : Nat → D) (fs : List FnE) (cs bl : List Str) : Prop where
  fs : ∀ i e, fs[i]? = some e → FnH P w K mg base k e (Φ i)
  cs : ∀ i n, cs[i]? = some n → ∃ v u, mg n = some u ∧ RelV v u ∧ ∀ H, RepB K H (fun _ => False) v (C i)
  bl : ∀ n ∈ bl, mg n = none
def slotsOk (np : Nat) (st rb : List Nat) : Bool := st.all fun i => !(decide (i < np)) || rb.contains i
theorem fn_ok {f : Addr} {name qual : Str} {params : Arguments} {body : List Stmt} {scope : Scope} {dV kV doc pm cdv ct oc : Value} {an od : Option Addr}
    {osl : Array (Option Value)} {N ps : List Str} {fs : List FnE} {cs bl : List Str} {st rb : List Nat} {b : List S}
    (lk : K.lookup f = some ⟨oc, od, .func (PySem.W.fnOf name qual params body scope dV kV doc pm an cdv ct), osl⟩) (hcd : PySem.W.codeIn K cdv qual = true) (S : FnScope N ps scope)
    (F : Facts P w K mg base k Φ C fs cs bl) (hs : slotsOk ps.length st rb = true) (hc : chkSs b ⟨N, scope, fs, cs, bl, st, true⟩ body = true) :
    FOk P w K mg base (k + 1) f (PySem.W.fnOf name qual params body scope dV kV doc pm an cdv ct) ps (spF K mg ps.length (fnS Φ C N.length rb b)) := by
  refine ⟨fun vs H Q E h => h.1, fun A outer s H args us vs Q E hr hg e0 hb r hsp => ?_⟩
  obtain ⟨hl, Pr, E0, g, hp⟩ := hsp
  have hpl : ps.length ≤ N.length := by have := congrArg List.length S.pre; rw [List.length_take] at this; omega
  have KX : K.In s.heap := e0.mod.kin.keeps fun b o e => (e0.bs b o e).1
  have lim : s.heap.NoLimit := e0.mod.nolimit.keeps fun b o e => (e0.bs b o e).1
  have hkind : ∀ y ∈ ps.zip us, scope.names.lookup y.1 = some .local ∨ (scope.names.lookup y.1 = some .cell ∧ ((cellsFrom (s.heap.objs.size + 1) scope.names []).lookup y.1).isSome = true) := fun ⟨n, v⟩ hy => by
    rcases S.par n (List.of_mem_zip hy).1 with q | q
    · exact .inl q
    · exact .inr ⟨q, PySem.W.cellsFrom_some _ _ _ (.inl q)⟩
  refine codeAny_call_function hr.depth (KX _ _ lk) rfl S.co S.gen rfl (PySem.W.codeRec_of KX hcd) (hb _ _ _ _ ?_)
  refine wpAny_newFunctionEnv_cells S.kind hkind fun env he s1 x => ?_
  subst he
  refine ⟨lim.keeps x.toInCall.keep, codeAny_func ?_⟩
  have I : Inv (cxOf (L2.CX P w) P w K mg base N qual scope f cdv A outer s H E) [] (start N vs) H s1 := inv_start S hr.hd e0 hl r x
  have ok : (⟨N, scope, fs, cs, bl, st, true⟩ : Ck).Ok (cxOf (L2.CX P w) P w K mg base N qual scope f cdv A outer s H E) k Φ C (fun c d _ H' => E c d H') :=
    ⟨rfl, S.nd, rfl, S.kind, rfl, fun _ _ => rfl, hr.deeper _, hg, takes_of rfl rfl rfl rfl, passes_of rfl, F.fs, F.cs, F.bl⟩
  have hq : TSof K mg (fun c d _ H' => E c d H') st (exs Φ C b) { nx := fun _ H' => Q .non H', rt := Q } (start N vs) H :=
    body_of (by omega) (fun i hi hs' => by
      have := List.all_eq_true.mp hs i hs'
      have hi' : i < ps.length := by omega
      simpa [hi'] using this) (fun _ _ _ _ _ h => h) g hp
  refine wpAny_mono ((sndSs b _ _ k _ body ok hc).run [] s1 (start N vs) H _ I hq) (fun fl s' hs => ?_) fun e s' hs => hs
  have fin : ∀ {σ' : L2.St} {H' : Hp} {v : V} {u : Value}, Inv (cxOf (L2.CX P w) P w K mg base N qual scope f cdv A outer s H E) [] σ' H' s' → RelV v u → Q v H' → CE outer P w H s Q u s' :=
    fun {σ' H' v u} J rv q => ⟨v, H', J.os, J.bare, J.base, J.hok, rv, q⟩
  cases fl with
  | ret u =>
    obtain ⟨v, σ', H', J, rv, q⟩ := hs
    exact fin J rv q
  | next =>
    obtain ⟨σ', H', J, q⟩ := hs
    exact fin (v := V.non) (u := Value.none) J rfl q
  | brk =>
    obtain ⟨_, _, _, q⟩ := hs
    exact False.elim q
  | cont =>
    obtain ⟨_, _, _, q⟩ := hs
    exact False.elim q
end
end Lw
end

section
set_option Elab.async false
set_option linter.all false
set_option maxRecDepth 100000
set_option maxHeartbeats 4000000
/-! L22: the defs of a text, all together -/
namespace Lw
open PySem L2 PySem.Spec PyProof.Rows
def nx (Φ : Nat → M Sl) (j : Nat) (F : M Sl) : Nat → M Sl := fun i => if i = j then F else Φ i
section
variable {P : Program} {w : World} {K : PySem.W.Frag} {mg : Str → Option Value} {base : Heap} {k : Nat} {Φ : Nat → M Sl} {C : Nat → D} {fs : List FnE} {cs bl : List Str}
theorem FnH.mono {e : FnE} {F : M Sl} {j : Nat} (h : FnH P w K mg base j e F) (hj : j ≤ k) : FnH P w K mg base k e F := by
  obtain ⟨f, fd, ps, h1, h2, h3, h4, h5, h6⟩ := h.ex
  exact ⟨f, fd, ps, h1, h2, h3, h4, h5, h6.mono hj⟩
theorem _root_.L2.FunD.bindsKw {x qual : Str} {params : Arguments} {body : List Stmt} {scope : Scope} {kws : List (Str × V)} {f : Addr} {fd : FuncData} {A : Args} {r : List (Str × Value)} (F : FunD K x qual params body scope [] kws f fd)
    (h : ∀ (kV doc pm : Value) (an : Option Addr) (cdv ct : Value), bindArgs (PySem.W.fnOf x qual params body scope .none kV doc pm an cdv ct) A = pure r) (s : Shared) : BindsTo s fd A r := by
  obtain ⟨oc, od, dV, kV, doc, pm, an, cdv, ct, osl, rfl, _, _, hD, _⟩ := F.ex
  rcases hD with ⟨_, rfl⟩ | ⟨e, _⟩
  · exact .of_eq (h kV doc pm an cdv ct)
  · exact absurd rfl e
theorem Facts.none (hc : ∀ i n, cs[i]? = some n → ∃ v u, mg n = some u ∧ RelV v u ∧ ∀ H, RepB K H (fun _ => False) v (C i)) (hb : ∀ n ∈ bl, mg n = Option.none) : Facts P w K mg base 0 (fun _ => M.bad) C [] cs bl :=
  ⟨fun i e h => by simp at h, hc, hb⟩
/-- one def more -/
theorem Facts.def_ (F : Facts P w K mg base k Φ C fs cs bl) {x : Str} {params : Arguments} {body : List Stmt} {scope : Scope} {kws : List (Str × V)} {f : Addr} {fd : FuncData} {N ps : List Str} {st rb : List Nat} {b : List S}
    (D : FunD K x x params body scope [] kws f fd) (S : C8.scC N ps scope = true) (hs : slotsOk ps.length st rb = true) (hc : chkSs b ⟨N, scope, fs, cs, bl, st, true⟩ body = true) :
    FOk P w K mg base (k + 1) f fd ps (spF K mg ps.length (fnS Φ C N.length rb b)) := by
  obtain ⟨oc, od, dV, kV, doc, pm, an, cdv, ct, osl, rfl, lk, hcd, _, _⟩ := D.ex
  exact fn_ok lk hcd (C8.fnScope_by S) F hs hc
theorem Facts.step (F : Facts P w K mg base k Φ C fs cs bl) {x : Str} {params : Arguments} {body : List Stmt} {scope : Scope} {kws : List (Str × V)} {f : Addr} {fd : FuncData} {N ps : List Str} {st rb : List Nat} {b : List S}
    (D : FunD K x x params body scope [] kws f fd) (hm : mg x = some (.ref f))
    (ks : List (Nat × List Str)) (hb : ∀ (kV doc pm : Value) (an : Option Addr) (cdv ct : Value) (us : List Value), us.length = ps.length → bindArgs (PySem.W.fnOf x x params body scope .none kV doc pm an cdv ct) ⟨us, []⟩ = pure (ps.zip us))
    (hkb : ∀ q ∈ ks, q.1 + q.2.length = ps.length ∧ ∀ (kV doc pm : Value) (an : Option Addr) (cdv ct : Value) (us ws : List Value), us.length = q.1 → ws.length = q.2.length → bindArgs (PySem.W.fnOf x x params body scope .none kV doc pm an cdv ct) ⟨us, q.2.zip ws⟩ = pure (ps.zip (us ++ ws)))
    (S : C8.scC N ps scope = true) (hs : slotsOk ps.length st rb = true) (hc : chkSs b ⟨N, scope, fs, cs, bl, st, true⟩ body = true) :
    Facts P w K mg base (k + 1) (nx Φ fs.length (fnS Φ C N.length rb b)) C (fs ++ [⟨x, ps.length, ks⟩]) cs bl := by
  refine ⟨fun i e h => ?_, F.cs, F.bl⟩
  rcases Nat.lt_or_ge i fs.length with hi | hi
  · rw [List.getElem?_append_left hi] at h
    have hne : i ≠ fs.length := by omega
    have := (F.fs i e h).mono (Nat.le_succ k)
    unfold nx
    rw [if_neg hne]; exact this
  · rw [List.getElem?_append_right hi] at h
    have : i = fs.length := by
      rcases Nat.lt_or_ge (i - fs.length) 1 with q | q
      · omega
      · rw [List.getElem?_eq_none (by simpa using q)] at h; cases h
    subst this
    simp at h
    subst h
    unfold nx
    rw [if_pos rfl]
    exact ⟨f, fd, ps, hm, D.kp, D.bindsN hb, fun q hq => ⟨(hkb q hq).1, fun s us ws _ h1 h2 => D.bindsKw (fun kV doc pm an cdv ct => (hkb q hq).2 kV doc pm an cdv ct us ws h1 h2) s⟩, rfl, F.def_ D S hs hc⟩
/-- a def that is not to be come to -/
theorem Facts.bad (F : Facts P w K mg base k Φ C fs cs bl) {x : Str} {params : Arguments} {body : List Stmt} {scope : Scope} {kws : List (Str × V)} {f : Addr} {fd : FuncData} {ps : List Str}
    (D : FunD K x x params body scope [] kws f fd) (hm : mg x = some (.ref f))
    (hb : ∀ (kV doc pm : Value) (an : Option Addr) (cdv ct : Value) (us : List Value), us.length = ps.length → bindArgs (PySem.W.fnOf x x params body scope .none kV doc pm an cdv ct) ⟨us, []⟩ = pure (ps.zip us)) :
    Facts P w K mg base (k + 1) (nx Φ fs.length M.bad) C (fs ++ [⟨x, ps.length, []⟩]) cs bl := by
  refine ⟨fun i e h => ?_, F.cs, F.bl⟩
  rcases Nat.lt_or_ge i fs.length with hi | hi
  · rw [List.getElem?_append_left hi] at h
    have hne : i ≠ fs.length := by omega
    have := (F.fs i e h).mono (Nat.le_succ k)
    unfold nx
    rw [if_neg hne]; exact this
  · rw [List.getElem?_append_right hi] at h
    have : i = fs.length := by
      rcases Nat.lt_or_ge (i - fs.length) 1 with q | q
      · omega
      · rw [List.getElem?_eq_none (by simpa using q)] at h; cases h
    subst this
    simp at h
    subst h
    unfold nx
    rw [if_pos rfl]
    refine ⟨f, fd, ps, hm, D.kp, D.bindsN hb, fun q hq => (List.not_mem_nil hq).elim, rfl, fun vs H Q E h => h.1, fun A outer s H args us vs Q E _ _ _ _ _ h => ?_⟩
    obtain ⟨_, Pr, E0, g, z⟩ := h
    exact z.elim
end
/-! ### the law's end -/
section
variable {P : Program} {w : World} {K : PySem.W.Frag} {mg mb : Str → Option Value} {k : Nat} {fa a : Addr} {fd : FuncData} {x : Str} {s : Shared} {us : List Value} {ns : List Int}
/-- the heap of what is tracked at the start: the script alone, where the module does not know it -/
def scrH (K : PySem.W.Frag) (a : Addr) (us : List Value) (ns : List Int) : Hp := fun b =>
  if b = a ∧ K.lookup a = none then some (.frz { cls := .type "list", data := .seq us.toArray } (.lst (ns.map V.int))) else none
theorem scrH_ne {b : Addr} (h : scrH K a us ns b ≠ none) : b = a ∧ K.lookup a = none := by
  unfold scrH at h
  split at h
  · assumption
  · exact absurd rfl h
theorem law_end {F : M Sl} {E' : SE} (KX : K.In s.heap) (hns : s.heap.Ns mainGlobals mg) (hb : s.heap.Ns builtinsNs mb) (hbb : ∀ x : Str, x ≠ "__name__" → mb x = bootBuiltins x) (hlim : s.heap.NoLimit) (hg : s.gens = #[])
    (ha : s.heap.get? a = some { cls := .type "list", data := .seq us.toArray }) (hi : IntsAre us ns) (hl : ns.length ≤ sizeLine) (hr : Room k callerA)
    (hF : ∀ base : Heap, K.In base → base.Ns mainGlobals mg → FOk P w K mg base k fa fd [x] (spF K mg 1 F)) (hbind : ∀ (s : Shared) (u : Value), BindsTo s fd ⟨[u], []⟩ [(x, u)])
    (plain : F [.val (.scr ns)] = .ok (.val (.bl true)) E') :
    codeAny (model P w) callerA (.call (.ref fa) ⟨[.ref a], []⟩) (fun r t => r = .ok (.ret (.bool true)) ∧ OldK s.heap t.heap ∧ t.os = s.os ∧ AllBare t.gens) s := by
  generalize hH : scrH K a us ns = H
  have only : ∀ b, H b ≠ none → b = a := fun b h => (scrH_ne (by rw [hH]; exact h)).1
  have noK : H a ≠ none → K.lookup a = none := fun h => (scrH_ne (by rw [hH]; exact h)).2
  have lenV := hi.length
  have rv := vals_ints hi
  -- what is not tracked is the module's
  have stays : ∀ {b : Addr} {o : Obj}, s.heap.get? b = some o → (b = a → K.lookup a ≠ none) → (hidT s.heap H).get? b = some o := fun {b o} e n => hidT_get e (by
    cases q : H b with
    | none => rfl
    | some u => have z := only b (by simp [q]); exact absurd (noK (by rw [← z]; simp [q])) (n z))
  have ns' : ∀ {b : Addr} {m : Str → Option Value}, s.heap.Ns b m → (hidT s.heap H).Ns b m := fun {b m} z => by
    obtain ⟨o, es, ep, e, d, r⟩ := z
    refine ⟨o, es, ep, hidT_get e ?_, d, r⟩
    cases q : H b with
    | none => rfl
    | some u =>
      have z := only b (by simp [q])
      subst z
      rw [ha] at e; cases e
      cases d
  have inK : K.In (hidT s.heap H) := fun b o e => stays (KX b o e) fun z => by rw [← z, e]; simp
  have md : Mod K mg (hidT s.heap H) := ⟨inK, ns' hns, ⟨mb, ns' hb, hbb⟩, by
    obtain ⟨mc, h1, h2⟩ := hlim
    exact ⟨mc, ns' h1, h2⟩⟩
  have good : HOk P w H s.heap := fun b u z => by
    rw [← hH] at z
    unfold scrH at z
    split at z
    · rename_i hba
      cases z
      rw [hba.1]
      exact ⟨ha, by rw [List.length_map]; exact hl, us, _, rv, ha⟩
    · cases z
  have env : Env0 P w K mg (hidT s.heap H) callerA [] s H := ⟨rfl, md, fun b o e => of_hidT e, Nat.le_of_eq (hidT_size _ _), trivial, fun b z => (List.not_mem_nil z).elim, good, .of_eq hg⟩
  have scr : Scr K H a ns := by
    cases q : K.lookup a with
    | none => exact .inl ⟨_, by rw [← hH]; exact if_pos ⟨rfl, q⟩⟩
    | some o =>
      have e := KX a o q
      rw [ha] at e; cases e
      exact .inr ⟨_, us.toArray, _, q, rfl, rfl, rfl, by rw [List.size_toArray, lenV]; exact hl, by simpa using rv⟩
  have sp : spF K mg 1 F [.ref a] H (fun v _ => v = .bl true) fun _ _ _ => False := by
    refine ⟨rfl, fun _ => False, [.val (.scr ns)], ⟨rfl, fun _ h => h.elim, fun i d e => ?_, fun i d e => ?_, fun b _ h => h, fun i j d d' b e => ?_⟩, ?_⟩
    · rcases i with _ | i
      · cases e
        exact ⟨_, rfl, ⟨_, .scr scr, fun _ z => nomatch z⟩⟩
      · simp at e
    · rcases i with _ | i
      · cases e
      · simp at e
    · rcases i with _ | i
      · cases e
      · simp at e
    · rw [plain]
      intro v H' _ _ r _
      obtain ⟨S, r, _⟩ := (show RepB K H' _ v (.bl true) from r)
      cases r; rfl
  refine codeAny_mono ((hF _ inK (ns' hns)).run callerA [] s H ⟨[.ref a], []⟩ [.ref a] [.ref a] _ _ hr rfl env (hbind s (.ref a)) (.cons rfl .nil) sp) fun r t h => ?_
  match r, h with
  | .error e, h =>
    obtain ⟨a, B, H', cls, d, _, _, _, _, _, _, _, z⟩ := h
    exact z.elim
  | .ok .next, h => exact h.elim
  | .ok .brk, h => exact h.elim
  | .ok .cont, h => exact h.elim
  | .ok (.ret u), h =>
    obtain ⟨v, H', os, bare, un, hok', r', q⟩ := h
    obtain rfl : v = .bl true := q
    obtain rfl : u = Value.bool true := r'
    refine ⟨rfl, OldK.of_keep fun b o e => ?_, os, bare⟩
    cases q : H b with
    | none => exact un.keep b o e q List.not_mem_nil (by simp)
    | some u =>
      have q' := q
      rw [← hH] at q
      unfold scrH at q
      split at q
      · cases q
        have z2 := un.frzs b _ _ q'
        obtain ⟨e1, _⟩ := good b _ q'
        obtain ⟨e2, _⟩ := hok' b _ z2
        rw [e] at e1; cases e1
        exact e2
      · cases q
theorem walk_end {l : PySem.W.OpenLaw} {n : Nat} {q : Program} {loose : List Str} {XP : (Str → Option Value) → Heap → Prop} {YP : World → Heap → Prop} {d : DefRec}
    (hn : l.most = some n) (hn2 : n ≤ sizeLine) (hdf : d.params.defaults = []) (hr : Room k callerA)
    (F : ∀ (w : World) (mg : Str → Option Value) (fa : Addr) (h : Heap), YP w h → h.Ns mainGlobals mg → mg d.name = some (.ref fa) →
      ∃ (K : PySem.W.Frag) (fd : FuncData) (f : M Sl), K.In h ∧ (∀ (s : Shared) (u : Value), BindsTo s fd ⟨[u], []⟩ [(x, u)]) ∧ (∀ ns : List Int, ns.length ≤ n → ∃ E', f [.val (.scr ns)] = .ok (.val (.bl true)) E') ∧
        ∀ base : Heap, K.In base → base.Ns mainGlobals mg → FOk l.prog w K mg base k fa fd [x] (spF K mg 1 f)) :
    PySem.W.WalkO q loose XP YP l.row.toRowW d [] (fun f vs => PySem.call f vs) := by
  refine Att.attach_call hn hdf fun w s₀ s₁ mg mb fa o pm cd doc a vs ns G Y ho hd hcd hmg hobj hints hlen hg => ?_
  obtain ⟨K, fd, f, KX, hb, hp, hF⟩ := F w mg fa _ Y G.T.g hmg
  obtain ⟨E', hp⟩ := hp ns hlen
  exact law_end KX G.T.g G.T.b G.T.builtins G.T.nolimit hg hobj hints (Nat.le_trans hlen hn2) hr hF hb hp
end
end Lw
end

section
set_option Elab.async false
set_option linter.all false
set_option maxRecDepth 100000
set_option maxHeartbeats 0
namespace Lw
open PySem L2 PySem.Spec PyProof.Rows
abbrev PR : Program := PySem.Challenge.pw_howeveritpasses_k83_whole_traffic_that_f
def top (i : Nat) : Stmt := PR.main.body.getD i (.Pass ⟨0, 0, 0, 0⟩)
def CS : List Str := ["MOST_PAIRS", "MOST_RATE", "MOST_BURST", "MOST_SIZE", "MOST_TICKS", "FITS", "MORE", "THREE", "MOST_WAITED"]
def CC : Nat → D := fun i => ([.int 8, .int 100, .int 400, .int 1000, .int 500, .str "fits", .str "more", .int 3, .int 2000] : List D).getD i .non
def BL : List Str := ["min", "tuple", "range", "int", "len", "isinstance", "bool", "all", "zip", "sorted", "sum", "list", "str", "repr", "any", "max", "set", "abs"]
def P0 : Nat → M Sl := fun _ => M.bad
/-! 0 _law_let -/
def N0 : List Str := ["curve", "ticks", "burst", "rate"]
def B0 : List S := [.ret (.ite (.cmp .Gt (.var 1) (.int 0)) (.bi .min [(.lc (.bop .Add (.var 2) (.bop .Mult (.var 3) (.var 1))) (.tup [(.nm 2), (.nm 3)]) (.fz 0) [] [2, 3])]) (.int 0))]
def F0 : M Sl := fnS P0 CC 4 [] B0
def P1 : Nat → M Sl := nx P0 0 F0
/-! 1 _law_full -/
def N1 : List Str := ["curve", "ticks", "tick"]
def B1 : List S := [.ret (.ty .tuple [(.lc (.bop .Sub (.call 0 [(.var 0), (.bop .Add (.var 2) (.int 1))]) (.call 0 [(.var 0), (.var 2)])) (.nm 2) (.rng1 (.fz 1)) [] [2])])]
def F1 : M Sl := fnS P1 CC 3 [] B1
def P2 : Nat → M Sl := nx P1 1 F1
/-! 2 _law_take -/
def N2 : List Str := ["pot", "upto", "prime", "blend", "digit"]
def B2 : List S := [.ite (.cmp .Gt (.idx (.var 0) (.int 0)) (.int 0)) [.set 4 (.bop .Mod (.ty .int [(.idx (.var 0) (.int 0))]) (.var 1)), .sidx 0 (.int 0) (.bop .FloorDiv (.idx (.var 0) (.int 0)) (.var 1)), .ret (.mv 4)] [], .sidx 0 (.int 2) (.bop .Add (.idx (.var 0) (.int 2)) (.int 1)), .set 2 (.idx (.lst [(.int 2147483647), (.int 2147483629), (.int 2147483587), (.int 2147483579), (.int 2147483563)]) (.bop .Mod (.ty .int [(.idx (.var 0) (.int 2))]) (.int 5))), .set 3 (.bop .Mod (.ty .int [(.bop .Pow (.ty .int [(.bop .Add (.bop .Add (.idx (.var 0) (.int 1)) (.bop .Mult (.bop .Mult (.int 96179) (.idx (.var 0) (.int 2))) (.idx (.var 0) (.int 2)))) (.int 2131))]) (.int 3))]) (.var 2)), .set 3 (.bop .Mod (.ty .int [(.bop .Mult (.var 3) (.bop .Add (.bop .Mod (.ty .int [(.var 3)]) (.int 11833)) (.bop .Mult (.int 367) (.idx (.var 0) (.int 2)))))]) (.int 2305843009213693907)), .ret (.bop .Mod (.ty .int [(.bop .FloorDiv (.var 3) (.int 191))]) (.var 1))]
def F2 : M Sl := fnS P2 CC 5 [] B2
def P3 : Nat → M Sl := nx P2 2 F2
/-! 3 _law_of -/
def N3 : List Str := ["pot", "some"]
def B3 : List S := [.ret (.idx (.var 1) (.call 2 [(.var 0), (.bi .len [(.var 1)])]))]
def F3 : M Sl := fnS P3 CC 2 [] B3
def P4 : Nat → M Sl := nx P3 3 F3
/-! 4 _law_curve_drawn -/
def N4 : List Str := ["pot", "burst", "rate", "found", "lap"]
def B4 : List S := [.par [1, 2, 3] [(.call 3 [(.var 0), (.lst [(.int 0), (.int 1), (.int 3), (.int 10), (.int 40)])]), (.call 3 [(.var 0), (.lst [(.int 3), (.int 8), (.int 20)])]), (.lst [])], .for_ (.nm 4) (.rng1 (.bop .Add (.int 1) (.call 2 [(.var 0), (.int 3)]))) [.app 3 (.tup [(.ty .int [(.var 1)]), (.ty .int [(.var 2)])]), .par [1, 2] [(.bop .Add (.bop .Add (.var 1) (.int 1)) (.call 2 [(.var 0), (.int 30)])), (.bop .Sub (.bop .Sub (.var 2) (.int 1)) (.call 2 [(.var 0), (.int 3)]))], .ite (.cmp .Lt (.var 2) (.int 0)) [.brk] []], .ret (.ty .tuple [(.var 3)])]
def F4 : M Sl := fnS P4 CC 5 [] B4
def P5 : Nat → M Sl := nx P4 4 F4
/-! 5 is_int -/
def N5 : List Str := ["value", "low", "high"]
def B5 : List S := [.ret (.andV (.bi .isinstance [(.var 0), (.tyc "int")]) (.andV (.notV (.bi .isinstance [(.var 0), (.tyc "bool")])) (.chn .LtE .LtE (.var 1) (.var 0) (.var 2))))]
def F5 : M Sl := fnS P5 CC 3 [] B5
def P6 : Nat → M Sl := nx P5 5 F5
/-! 6 is_curve -/
def N6 : List Str := ["value", "pair", "one", "other"]
def B6 : List S := [.ite (.orV (.notV (.bi .isinstance [(.var 0), (.tyc "tuple")])) (.notV (.chn .LtE .LtE (.int 1) (.bi .len [(.var 0)]) (.cst 0)))) [.ret (.bl false)] [], .for_ (.nm 1) (.fz 0) [.ite (.orV (.notV (.bi .isinstance [(.var 1), (.tyc "tuple")])) (.cmp .NotEq (.bi .len [(.var 1)]) (.int 2))) [.ret (.bl false)] [], .ite (.orV (.notV (.call 5 [(.idx (.var 1) (.int 0)), (.int 0), (.cst 2)])) (.notV (.call 5 [(.idx (.var 1) (.int 1)), (.int 0), (.cst 1)]))) [.ret (.bl false)] []], .ret (.bi .all [(.lc (.andV (.cmp .Lt (.idx (.var 2) (.int 0)) (.idx (.var 3) (.int 0))) (.cmp .Gt (.idx (.var 2) (.int 1)) (.idx (.var 3) (.int 1)))) (.tup [(.nm 2), (.nm 3)]) (.zip (.fz 0) (.slc (.var 0) (.int 1) .non)) [] [2, 3])])]
def F6 : M Sl := fnS P6 CC 4 [] B6
def P7 : Nat → M Sl := nx P6 6 F6
/-! 7 look_at_curve -/
def N7 : List Str := ["curve"]
def B7 : List S := [.ite (.notV (.call 6 [(.var 0)])) [.nev] []]
def F7 : M Sl := fnS P7 CC 1 [] B7
def P8 : Nat → M Sl := nx P7 7 F7
/-! 8 told_least -/
def N8 : List Str := ["pairs", "kept", "pair"]
def B8 : List S := [.set 1 (.lst []), .for_ (.nm 2) (.bi .sorted [(.var 0)]) [.ite (.orV (.cmp .Eq (.var 1) (.lst [])) (.andV (.cmp .Lt (.idx (.var 2) (.int 1)) (.idx (.idx (.var 1) (.neg (.int 1))) (.int 1))) (.cmp .Gt (.idx (.var 2) (.int 0)) (.idx (.idx (.var 1) (.neg (.int 1))) (.int 0))))) [.app 1 (.fz 2)] []], .ret (.ty .tuple [(.var 1)])]
def F8 : M Sl := fnS P8 CC 3 [] B8
def P9 : Nat → M Sl := nx P8 8 F8
/-! 9 both_let -/
def N9 : List Str := ["one", "other", "made"]
def B9 : List S := [.ex (.call 7 [(.var 0)]), .ex (.call 7 [(.var 1)]), .set 2 (.call 8 [(.lst [(.star (.fz 0)), (.star (.fz 1))])]), .ite (.cmp .Gt (.bi .len [(.var 2)]) (.cst 0)) [.nev] [], .ret (.mv 2)]
def F9 : M Sl := fnS P9 CC 3 [] B9
def P10 : Nat → M Sl := nx P9 9 F9
/-! 10 _law_traffic_drawn -/
def N10 : List Str := ["pot", "most", "lap"]
def B10 : List S := [.ret (.ty .tuple [(.lc (.ty .int [(.call 3 [(.var 0), (.lst [(.int 0), (.int 0), (.int 1), (.int 2), (.int 5), (.int 20), (.int 60)])])]) (.nm 2) (.rng1 (.call 2 [(.var 0), (.bop .Add (.var 1) (.int 1))])) [] [2])])]
def F10 : M Sl := fnS P10 CC 3 [] B10
def P11 : Nat → M Sl := nx P10 10 F10
/-! 11 _law_too_much -/
def N11 : List Str := ["curve", "traffic", "found", "start", "many"]
def B11 : List S := [.set 2 (.lst []), .for_ (.nm 3) (.rng1 (.bi .len [(.var 1)])) [.for_ (.nm 4) (.rng2 (.int 1) (.bop .Add (.bop .Sub (.bi .len [(.var 1)]) (.var 3)) (.int 1))) [.ite (.cmp .Gt (.bi .sum [(.slc (.var 1) (.var 3) (.bop .Add (.var 3) (.var 4)))]) (.call 0 [(.var 0), (.var 4)])) [.app 2 (.tup [(.fz 3), (.fz 4)])] []]], .ret (.mv 2)]
def F11 : M Sl := fnS P11 CC 5 [] B11
def P12 : Nat → M Sl := nx P11 11 F11
/-! 12 is_traffic -/
def N12 : List Str := ["value", "one"]
def B12 : List S := [.ret (.andV (.bi .isinstance [(.var 0), (.tyc "tuple")]) (.andV (.cmp .LtE (.bi .len [(.var 0)]) (.cst 4)) (.bi .all [(.lc (.call 5 [(.var 1), (.int 0), (.cst 3)]) (.nm 1) (.fz 0) [] [1])])))]
def F12 : M Sl := fnS P12 CC 2 [] B12
def P13 : Nat → M Sl := nx P12 12 F12
/-! 13 look_at_traffic -/
def N13 : List Str := ["traffic"]
def B13 : List S := [.ite (.notV (.call 12 [(.var 0)])) [.nev] []]
def F13 : M Sl := fnS P13 CC 1 [] B13
def P14 : Nat → M Sl := nx P13 13 F13
/-! 14 told_at -/
def N14 : List Str := ["curve", "ticks", "burst", "rate"]
def B14 : List S := [.ret (.ite (.cmp .Gt (.var 1) (.int 0)) (.bi .min [(.lc (.bop .Add (.var 2) (.bop .Mult (.var 3) (.var 1))) (.tup [(.nm 2), (.nm 3)]) (.fz 0) [] [2, 3])]) (.int 0))]
def F14 : M Sl := fnS P14 CC 4 [] B14
def P15 : Nat → M Sl := nx P14 14 F14
/-! 15 too_much -/
def N15 : List Str := ["curve", "traffic", "start", "total", "many"]
def B15 : List S := [.for_ (.nm 2) (.rng1 (.bi .len [(.var 1)])) [.set 3 (.int 0), .for_ (.nm 4) (.rng2 (.int 1) (.bop .Add (.bop .Sub (.bi .len [(.var 1)]) (.var 2)) (.int 1))) [.aug 3 .Add (.idx (.var 1) (.bop .Sub (.bop .Add (.var 2) (.var 4)) (.int 1))), .ite (.cmp .Gt (.var 3) (.call 14 [(.var 0), (.var 4)])) [.ret (.tup [(.fz 2), (.fz 4)])] []]], .ret .non]
def F15 : M Sl := fnS P15 CC 5 [] B15
def P16 : Nat → M Sl := nx P15 15 F15
/-! 16 fits -/
def N16 : List Str := ["curve", "traffic", "told"]
def B16 : List S := [.ex (.call 7 [(.var 0)]), .ex (.call 13 [(.var 1)]), .set 2 (.call 15 [(.var 0), (.var 1)]), .ret (.ite (.cmp .Is (.var 2) .non) (.tup [(.cst 5)]) (.tup [(.cst 6), (.star (.fz 2))]))]
def F16 : M Sl := fnS P16 CC 3 [] B16
def P17 : Nat → M Sl := nx P16 16 F16
/-! 17 _law_odd -/
def N17 : List Str := ["pot", "some"]
def B17 : List S := [.set 1 (.lst [.non, (.bl true), (.bl false), (.int 0), (.int 1), (.neg (.int 1)), (.int 2), (.int 256), (.bop .Pow (.int 10) (.int 20)), (.str ""), (.str "a"), (.str "pass"), (.str "never"), (.tup []), (.lst []), .dict0, (.tup [(.int 0)]), (.tup [(.tup [])]), (.lst [(.int 0)])]), .set 1 (.bop .Add (.var 1) (.lst [(.tup [(.str "a")]), (.tup [(.int 0), (.int 255)]), (.tup [(.tup [(.int 0), (.int 255)])]), (.tup [.non]), (.dict1 "a" 1), (.tup [(.str "covered"), (.tup [])]), (.tup [(.str "left"), (.tup [])]), (.tup [(.tup [(.bl true), (.int 1)])])])), .ret (.call 3 [(.var 0), (.var 1)])]
def F17 : M Sl := fnS P17 CC 2 [] B17
def P18 : Nat → M Sl := nx P17 17 F17
def F18 : M Sl := M.bad
def P19 : Nat → M Sl := nx P18 18 F18
/-! 19 _law_bent -/
def N19 : List Str := ["pot", "value", "at"]
def B19 : List S := [.ite (.andV (.bi .isinstance [(.var 1), (.tyc "tuple")]) (.andV (.cmp .NotEq (.var 1) (.tup [])) (.cmp .Gt (.call 2 [(.var 0), (.int 5)]) (.int 0)))) [.set 2 (.call 2 [(.var 0), (.bi .len [(.var 1)])]), .ret (.bop .Add (.bop .Add (.slc (.var 1) .non (.var 2)) (.tup [(.call 18 [(.var 0), (.idx (.var 1) (.var 2))])])) (.slc (.var 1) (.bop .Add (.var 2) (.int 1)) .non))] [], .ite (.bi .isinstance [(.var 1), (.tyc "tuple")]) [.ret (.call 3 [(.var 0), (.lst [(.ty .list [(.var 1)]), (.slc (.var 1) (.int 1) .non), (.slc (.var 1) .non (.neg (.int 1))), (.bop .Add (.var 1) (.slc (.var 1) (.neg (.int 1)) .non)), (.rev (.var 1)), (.tup []), .non])])] [], .ite (.bi .isinstance [(.var 1), (.tyc "bool")]) [.ret (.call 3 [(.var 0), (.lst [(.notV (.fz 1)), (.ty .int [(.var 1)]), .non])])] [], .ite (.bi .isinstance [(.var 1), (.tyc "int")]) [.ret (.call 3 [(.var 0), (.lst [(.bop .Add (.var 1) (.int 1)), (.bop .Sub (.var 1) (.int 1)), (.bop .Sub (.neg (.var 1)) (.int 1)), (.ty .str [(.var 1)]), (.cmp .Eq (.var 1) (.int 1)), .non, (.tup [(.fz 1)]), (.bop .Pow (.int 10) (.int 9))])])] [], .ite (.bi .isinstance [(.var 1), (.tyc "str")]) [.ret (.call 3 [(.var 0), (.lst [(.bop .Add (.var 1) (.str "a")), (.slc (.var 1) (.int 1) .non), (.mth .upper (.var 1) []), (.str ""), .non, (.int 0)])])] [], .ret (.call 17 [(.var 0)])]
def F19 : M Sl := fnS P19 CC 3 [] B19
def P20 : Nat → M Sl := nx P19 19 F19
/-! 20 _law_bent -/
def N20 : List Str := ["pot", "value", "at"]
def B20 : List S := [.ite (.andV (.bi .isinstance [(.var 1), (.tyc "tuple")]) (.andV (.cmp .NotEq (.var 1) (.tup [])) (.cmp .Gt (.call 2 [(.var 0), (.int 5)]) (.int 0)))) [.set 2 (.call 2 [(.var 0), (.bi .len [(.var 1)])]), .ret (.bop .Add (.bop .Add (.slc (.var 1) .non (.var 2)) (.tup [(.call 19 [(.var 0), (.idx (.var 1) (.var 2))])])) (.slc (.var 1) (.bop .Add (.var 2) (.int 1)) .non))] [], .ite (.bi .isinstance [(.var 1), (.tyc "tuple")]) [.ret (.call 3 [(.var 0), (.lst [(.ty .list [(.var 1)]), (.slc (.var 1) (.int 1) .non), (.slc (.var 1) .non (.neg (.int 1))), (.bop .Add (.var 1) (.slc (.var 1) (.neg (.int 1)) .non)), (.rev (.var 1)), (.tup []), .non])])] [], .ite (.bi .isinstance [(.var 1), (.tyc "bool")]) [.ret (.call 3 [(.var 0), (.lst [(.notV (.fz 1)), (.ty .int [(.var 1)]), .non])])] [], .ite (.bi .isinstance [(.var 1), (.tyc "int")]) [.ret (.call 3 [(.var 0), (.lst [(.bop .Add (.var 1) (.int 1)), (.bop .Sub (.var 1) (.int 1)), (.bop .Sub (.neg (.var 1)) (.int 1)), (.ty .str [(.var 1)]), (.cmp .Eq (.var 1) (.int 1)), .non, (.tup [(.fz 1)]), (.bop .Pow (.int 10) (.int 9))])])] [], .ite (.bi .isinstance [(.var 1), (.tyc "str")]) [.ret (.call 3 [(.var 0), (.lst [(.bop .Add (.var 1) (.str "a")), (.slc (.var 1) (.int 1) .non), (.mth .upper (.var 1) []), (.str ""), .non, (.int 0)])])] [], .ret (.call 17 [(.var 0)])]
def F20 : M Sl := fnS P20 CC 3 [] B20
def P21 : Nat → M Sl := nx P20 20 F20
/-! 21 _law_bent -/
def N21 : List Str := ["pot", "value", "at"]
def B21 : List S := [.ite (.andV (.bi .isinstance [(.var 1), (.tyc "tuple")]) (.andV (.cmp .NotEq (.var 1) (.tup [])) (.cmp .Gt (.call 2 [(.var 0), (.int 5)]) (.int 0)))) [.set 2 (.call 2 [(.var 0), (.bi .len [(.var 1)])]), .ret (.bop .Add (.bop .Add (.slc (.var 1) .non (.var 2)) (.tup [(.call 20 [(.var 0), (.idx (.var 1) (.var 2))])])) (.slc (.var 1) (.bop .Add (.var 2) (.int 1)) .non))] [], .ite (.bi .isinstance [(.var 1), (.tyc "tuple")]) [.ret (.call 3 [(.var 0), (.lst [(.ty .list [(.var 1)]), (.slc (.var 1) (.int 1) .non), (.slc (.var 1) .non (.neg (.int 1))), (.bop .Add (.var 1) (.slc (.var 1) (.neg (.int 1)) .non)), (.rev (.var 1)), (.tup []), .non])])] [], .ite (.bi .isinstance [(.var 1), (.tyc "bool")]) [.ret (.call 3 [(.var 0), (.lst [(.notV (.fz 1)), (.ty .int [(.var 1)]), .non])])] [], .ite (.bi .isinstance [(.var 1), (.tyc "int")]) [.ret (.call 3 [(.var 0), (.lst [(.bop .Add (.var 1) (.int 1)), (.bop .Sub (.var 1) (.int 1)), (.bop .Sub (.neg (.var 1)) (.int 1)), (.ty .str [(.var 1)]), (.cmp .Eq (.var 1) (.int 1)), .non, (.tup [(.fz 1)]), (.bop .Pow (.int 10) (.int 9))])])] [], .ite (.bi .isinstance [(.var 1), (.tyc "str")]) [.ret (.call 3 [(.var 0), (.lst [(.bop .Add (.var 1) (.str "a")), (.slc (.var 1) (.int 1) .non), (.mth .upper (.var 1) []), (.str ""), .non, (.int 0)])])] [], .ret (.call 17 [(.var 0)])]
def F21 : M Sl := fnS P21 CC 3 [] B21
def P22 : Nat → M Sl := nx P21 21 F21
/-! 22 _law_bent -/
def N22 : List Str := ["pot", "value", "at"]
def B22 : List S := [.ite (.andV (.bi .isinstance [(.var 1), (.tyc "tuple")]) (.andV (.cmp .NotEq (.var 1) (.tup [])) (.cmp .Gt (.call 2 [(.var 0), (.int 5)]) (.int 0)))) [.set 2 (.call 2 [(.var 0), (.bi .len [(.var 1)])]), .ret (.bop .Add (.bop .Add (.slc (.var 1) .non (.var 2)) (.tup [(.call 21 [(.var 0), (.idx (.var 1) (.var 2))])])) (.slc (.var 1) (.bop .Add (.var 2) (.int 1)) .non))] [], .ite (.bi .isinstance [(.var 1), (.tyc "tuple")]) [.ret (.call 3 [(.var 0), (.lst [(.ty .list [(.var 1)]), (.slc (.var 1) (.int 1) .non), (.slc (.var 1) .non (.neg (.int 1))), (.bop .Add (.var 1) (.slc (.var 1) (.neg (.int 1)) .non)), (.rev (.var 1)), (.tup []), .non])])] [], .ite (.bi .isinstance [(.var 1), (.tyc "bool")]) [.ret (.call 3 [(.var 0), (.lst [(.notV (.fz 1)), (.ty .int [(.var 1)]), .non])])] [], .ite (.bi .isinstance [(.var 1), (.tyc "int")]) [.ret (.call 3 [(.var 0), (.lst [(.bop .Add (.var 1) (.int 1)), (.bop .Sub (.var 1) (.int 1)), (.bop .Sub (.neg (.var 1)) (.int 1)), (.ty .str [(.var 1)]), (.cmp .Eq (.var 1) (.int 1)), .non, (.tup [(.fz 1)]), (.bop .Pow (.int 10) (.int 9))])])] [], .ite (.bi .isinstance [(.var 1), (.tyc "str")]) [.ret (.call 3 [(.var 0), (.lst [(.bop .Add (.var 1) (.str "a")), (.slc (.var 1) (.int 1) .non), (.mth .upper (.var 1) []), (.str ""), .non, (.int 0)])])] [], .ret (.call 17 [(.var 0)])]
def F22 : M Sl := fnS P22 CC 3 [] B22
def P23 : Nat → M Sl := nx P22 22 F22
/-! 23 _law_is_bool -/
def N23 : List Str := ["told", "due"]
def B23 : List S := [.ret (.andV (.bi .isinstance [(.var 0), (.tyc "bool")]) (.cmp .Eq (.var 0) (.var 1)))]
def F23 : M Sl := fnS P23 CC 2 [] B23
def P24 : Nat → M Sl := nx P23 23 F23
/-! 24 shows_fits -/
def N24 : List Str := ["curve", "traffic", "value"]
def B24 : List S := [.ex (.call 7 [(.var 0)]), .ex (.call 13 [(.var 1)]), .ite (.orV (.notV (.bi .isinstance [(.var 2), (.tyc "tuple")])) (.orV (.cmp .NotIn (.bi .len [(.var 2)]) (.tup [(.int 1), (.cst 7)])) (.notV (.bi .isinstance [(.idx (.var 2) (.int 0)), (.tyc "str")])))) [.ret (.bl false)] [], .ite (.cmp .Eq (.bi .len [(.var 2)]) (.int 1)) [.ret (.andV (.cmp .Eq (.idx (.var 2) (.int 0)) (.cst 5)) (.cmp .Is (.call 15 [(.var 0), (.var 1)]) .non))] [], .ite (.orV (.cmp .NotEq (.idx (.var 2) (.int 0)) (.cst 6)) (.orV (.notV (.call 5 [(.idx (.var 2) (.int 1)), (.int 0), (.cst 4)])) (.notV (.call 5 [(.idx (.var 2) (.int 2)), (.int 1), (.cst 4)])))) [.ret (.bl false)] [], .ite (.cmp .Gt (.bop .Add (.idx (.var 2) (.int 1)) (.idx (.var 2) (.int 2))) (.bi .len [(.var 1)])) [.ret (.bl false)] [], .ret (.cmp .Gt (.bi .sum [(.slc (.var 1) (.idx (.var 2) (.int 1)) (.bop .Add (.idx (.var 2) (.int 1)) (.idx (.var 2) (.int 2))))]) (.call 14 [(.var 0), (.idx (.var 2) (.int 2))]))]
def F24 : M Sl := fnS P24 CC 3 [] B24
def P25 : Nat → M Sl := nx P24 24 F24
/-! 25 _law_is_fitting_right -/
def N25 : List Str := ["pot", "curve", "traffic", "more", "told", "values", "value", "due", "pair", "lap"]
def B25 : List S := [.set 3 (.call 11 [(.var 1), (.var 2)]), .set 4 (.call 16 [(.var 1), (.var 2)]), .ite (.orV (.cmp .NotEq (.cmp .Eq (.var 4) (.tup [(.str "fits")])) (.cmp .Eq (.var 3) (.lst []))) (.andV (.cmp .NotEq (.var 4) (.tup [(.str "fits")])) (.cmp .NotIn (.var 4) (.lc (.bop .Add (.tup [(.str "more")]) (.var 8)) (.nm 8) (.fz 3) [] [8])))) [.ret (.bl false)] [], .set 5 (.lst [(.fz 4), (.tup [(.str "fits")]), (.tup [(.str "more"), (.int 0), (.int 1)]), (.tup [(.str "more"), (.int 0), (.bi .len [(.var 2)])]), (.tup [(.str "more"), (.int 1), (.bi .len [(.var 2)])]), .non, (.ty .list [(.var 4)])]), .ext 5 (.lc (.bop .Add (.tup [(.str "more")]) (.var 8)) (.nm 8) (.slc (.var 3) .non (.int 3)) [] [8]), .for_ (.nm 6) (.bop .Add (.bop .Add (.var 5) (.lst [(.tup [(.str "fits"), (.tup [])]), (.call 17 [(.var 0)])])) (.lc (.call 22 [(.var 0), (.var 4)]) (.nm 9) (.rng1 (.int 8)) [] [9])) [.set 7 (.orV (.cmp .In (.bi .repr [(.var 6)]) (.lc (.bi .repr [(.bop .Add (.tup [(.str "more")]) (.var 8))]) (.nm 8) (.fz 3) [] [8])) (.andV (.cmp .Eq (.var 3) (.lst [])) (.cmp .Eq (.bi .repr [(.var 6)]) (.str "('fits',)")))), .ite (.notV (.call 23 [(.call 24 [(.var 1), (.var 2), (.var 6)]), (.var 7)])) [.ret (.bl false)] []], .ret (.bl true)]
def F25 : M Sl := fnS P25 CC 10 [] B25
def P26 : Nat → M Sl := nx P25 25 F25
/-! 26 let_in -/
def N26 : List Str := ["curve", "ticks"]
def B26 : List S := [.ex (.call 7 [(.var 0)]), .ite (.notV (.call 5 [(.var 1), (.int 0), (.bop .Pow (.int 10) (.int 6))])) [.nev] [], .ret (.call 14 [(.var 0), (.var 1)])]
def F26 : M Sl := fnS P26 CC 2 [] B26
def P27 : Nat → M Sl := nx P26 26 F26
/-! 27 buckets_of -/
def N27 : List Str := ["curve", "burst", "rate"]
def B27 : List S := [.ret (.lc (.tup [(.bop .Add (.var 1) (.var 2)), (.fz 2)]) (.tup [(.nm 1), (.nm 2)]) (.fz 0) [] [1, 2])]
def F27 : M Sl := fnS P27 CC 3 [] B27
def P28 : Nat → M Sl := nx P27 27 F27
/-! 28 told_let -/
def N28 : List Str := ["curve", "traffic", "buckets", "full", "found", "waits", "goes", "most", "rate", "left"]
def B28 : List S := [.set 2 (.call 27 [(.var 0)]), .par [3, 4, 5] [(.lc (.fz 7) (.tup [(.nm 7), (.nm 8)]) (.fz 2) [] [7, 8]), (.lst []), (.int 0)], .whl (.orV (.cmp .Lt (.bi .len [(.var 4)]) (.bi .len [(.var 1)])) (.cmp .Gt (.var 5) (.int 0))) [.aug 5 .Add (.ite (.cmp .Lt (.bi .len [(.var 4)]) (.bi .len [(.var 1)])) (.idx (.var 1) (.bi .len [(.var 4)])) (.int 0)), .set 6 (.bi .min [(.lst [(.fz 5), (.star (.fz 3))])]), .app 4 (.fz 6), .aug 5 .Sub (.fz 6), .set 3 (.lc (.bi .min [(.var 7), (.bop .Add (.bop .Sub (.var 9) (.var 6)) (.var 8))]) (.tup [(.tup [(.nm 7), (.nm 8)]), (.nm 9)]) (.zip (.fz 2) (.fz 3)) [] [7, 8, 9]), .ite (.andV (.cmp .Gt (.var 5) (.int 0)) (.bi .any [(.lc (.andV (.cmp .Eq (.var 8) (.int 0)) (.cmp .Eq (.var 9) (.int 0))) (.tup [(.tup [(.nm 7), (.nm 8)]), (.nm 9)]) (.zip (.fz 2) (.fz 3)) [] [7, 8, 9])])) [.ret .non] [], .ite (.cmp .Gt (.bi .len [(.var 4)]) (.cst 8)) [.nev] []], .ret (.ty .tuple [(.var 4)])]
def F28 : M Sl := fnS P28 CC 10 [] B28
def P29 : Nat → M Sl := nx P28 28 F28
/-! 29 shaped -/
def N29 : List Str := ["curve", "traffic"]
def B29 : List S := [.ex (.call 7 [(.var 0)]), .ex (.call 13 [(.var 1)]), .ret (.call 28 [(.var 0), (.var 1)])]
def F29 : M Sl := fnS P29 CC 2 [] B29
def P30 : Nat → M Sl := nx P29 29 F29
/-! 30 _law_waits_for_ever -/
def N30 : List Str := ["curve", "traffic", "burst", "rate"]
def B30 : List S := [.ret (.andV (.cmp .Eq (.bi .min [(.lc (.fz 3) (.tup [(.nm 2), (.nm 3)]) (.fz 0) [] [2, 3])]) (.int 0)) (.cmp .Gt (.bi .sum [(.var 1)]) (.bi .min [(.lc (.fz 2) (.tup [(.nm 2), (.nm 3)]) (.fz 0) [(.cmp .Eq (.var 3) (.int 0))] [2, 3])])))]
def F30 : M Sl := fnS P30 CC 4 [] B30
def P31 : Nat → M Sl := nx P30 30 F30
/-! 31 _law_shaped -/
def N31 : List Str := ["curve", "traffic", "most", "found", "waits", "rests", "many"]
def B31 : List S := [.par [3, 4] [(.lst []), (.int 0)], .whl (.orV (.cmp .Lt (.bi .len [(.var 3)]) (.bi .len [(.var 1)])) (.cmp .Gt (.var 4) (.int 0))) [.set 4 (.bop .Add (.var 4) (.ite (.cmp .Lt (.bi .len [(.var 3)]) (.bi .len [(.var 1)])) (.idx (.var 1) (.bi .len [(.var 3)])) (.int 0))), .set 5 (.lst [(.fz 4)]), .for_ (.nm 6) (.rng2 (.int 1) (.bop .Add (.bi .len [(.var 3)]) (.int 2))) [.app 5 (.bop .Sub (.call 0 [(.var 0), (.var 6)]) (.bi .sum [(.slc (.var 3) (.bop .Sub (.bop .Add (.bi .len [(.var 3)]) (.int 1)) (.var 6)) .non)]))], .app 3 (.bi .min [(.var 5)]), .set 4 (.bop .Sub (.var 4) (.idx (.var 3) (.neg (.int 1)))), .ite (.cmp .Gt (.bi .len [(.var 3)]) (.bop .Add (.bi .len [(.var 1)]) (.var 2))) [.ret .non] []], .ret (.ty .tuple [(.var 3)])]
def F31 : M Sl := fnS P31 CC 7 [] B31
def P32 : Nat → M Sl := nx P31 31 F31
/-! 32 _law_is_shaped_right -/
def N32 : List Str := ["curve", "traffic", "told", "due"]
def B32 : List S := [.set 2 (.call 29 [(.var 0), (.var 1)]), .ite (.call 30 [(.var 0), (.var 1)]) [.ret (.cmp .Is (.var 2) .non)] [], .set 3 (.call 31 [(.var 0), (.var 1), (.int 400)]), .ite (.cmp .Is (.var 3) .non) [.ret (.andV (.bi .isinstance [(.var 2), (.tyc "tuple")]) (.andV (.cmp .Eq (.call 11 [(.var 0), (.slc (.var 2) .non (.int 30))]) (.lst [])) (.cmp .Eq (.bi .sum [(.var 2)]) (.bi .sum [(.var 1)]))))] [], .ite (.orV (.cmp .NotEq (.bi .repr [(.var 2)]) (.bi .repr [(.var 3)])) (.cmp .NotEq (.call 16 [(.var 0), (.slc (.var 2) .non (.int 400))]) (.tup [(.str "fits")]))) [.ret (.bl false)] [], .ret (.orV (.cmp .NotEq (.call 16 [(.var 0), (.var 1)]) (.tup [(.str "fits")])) (.cmp .Eq (.var 2) (.var 1)))]
def F32 : M Sl := fnS P32 CC 4 [] B32
def P33 : Nat → M Sl := nx P32 32 F32
/-! 33 least_burst -/
def N33 : List Str := ["traffic", "rate", "best", "here", "size"]
def B33 : List S := [.ex (.call 13 [(.var 0)]), .ite (.notV (.call 5 [(.var 1), (.int 0), (.cst 1)])) [.nev] [], .setT (.tup [(.nm 2), (.nm 3)]) (.tup [(.int 0), (.int 0)]), .for_ (.nm 4) (.fz 0) [.set 3 (.bop .Sub (.bop .Add (.bi .max [(.int 0), (.var 3)]) (.var 4)) (.var 1)), .set 2 (.bi .max [(.var 2), (.var 3)])], .ret (.mv 2)]
def F33 : M Sl := fnS P33 CC 5 [] B33
def P34 : Nat → M Sl := nx P33 33 F33
/-! 34 _law_is_int -/
def N34 : List Str := ["value", "low", "high"]
def B34 : List S := [.ret (.andV (.bi .isinstance [(.var 0), (.tyc "int")]) (.andV (.notV (.bi .isinstance [(.var 0), (.tyc "bool")])) (.chn .LtE .LtE (.var 1) (.var 0) (.var 2))))]
def F34 : M Sl := fnS P34 CC 3 [] B34
def P35 : Nat → M Sl := nx P34 34 F34
/-! 35 _law_is_curve -/
def N35 : List Str := ["value", "pair", "one", "other"]
def B35 : List S := [.ite (.orV (.notV (.bi .isinstance [(.var 0), (.tyc "tuple")])) (.notV (.chn .LtE .LtE (.int 1) (.bi .len [(.var 0)]) (.int 8)))) [.ret (.bl false)] [], .for_ (.nm 1) (.fz 0) [.ite (.orV (.notV (.bi .isinstance [(.var 1), (.tyc "tuple")])) (.orV (.cmp .NotEq (.bi .len [(.var 1)]) (.int 2)) (.notV (.call 34 [(.idx (.var 1) (.int 0)), (.int 0), (.int 400)])))) [.ret (.bl false)] [], .ite (.notV (.call 34 [(.idx (.var 1) (.int 1)), (.int 0), (.int 100)])) [.ret (.bl false)] []], .ret (.bi .all [(.lc (.andV (.cmp .Lt (.idx (.var 2) (.int 0)) (.idx (.var 3) (.int 0))) (.cmp .Gt (.idx (.var 2) (.int 1)) (.idx (.var 3) (.int 1)))) (.tup [(.nm 2), (.nm 3)]) (.zip (.fz 0) (.slc (.var 0) (.int 1) .non)) [] [2, 3])])]
def F35 : M Sl := fnS P35 CC 4 [] B35
def P36 : Nat → M Sl := nx P35 35 F35
/-! 36 _law_right -/
def N36 : List Str := ["pot", "lap", "curve", "traffic", "ticks", "full", "rate", "bursts", "start", "other", "both", "some", "least", "pair", "ends", "smaller", "one", "end"]
def B36 : List S := [.for_ (.nm 1) (.rng1 (.int 3)) [.setT (.tup [(.nm 2), (.nm 3)]) (.tup [(.call 4 [(.var 0)]), (.call 10 [(.var 0), (.int 12)])]), .set 4 (.ty .int [(.call 3 [(.var 0), (.lst [(.int 0), (.int 1), (.int 2), (.int 7), (.int 100), (.bop .Pow (.int 10) (.int 6))])])]), .ite (.cmp .NotEq (.bi .repr [(.call 26 [(.var 2), (.var 4)])]) (.bi .repr [(.call 0 [(.var 2), (.var 4)])])) [.ret (.bl false)] [], .ite (.orV (.notV (.call 25 [(.var 0), (.var 2), (.var 3)])) (.notV (.call 32 [(.var 2), (.var 3)]))) [.ret (.bl false)] [], .set 5 (.call 1 [(.var 2), (.int 10)]), .ite (.notV (.call 25 [(.var 0), (.var 2), (.var 5)])) [.ret (.bl false)] [], .set 6 (.ty .int [(.call 2 [(.var 0), (.int 12)])]), .set 7 (.lst [(.int 0)]), .for_ (.nm 8) (.rng1 (.bi .len [(.var 3)])) [.set 14 (.lr2 (.bop .Add (.var 8) (.int 1)) (.bop .Add (.bi .len [(.var 3)]) (.int 1))), .ext 7 (.lc (.bop .Sub (.bi .sum [(.slc (.var 3) (.var 8) (.var 17))]) (.bop .Mult (.var 6) (.bop .Sub (.var 17) (.var 8)))) (.nm 17) (.fz 14) [] [17])], .ite (.cmp .NotEq (.bi .repr [(.call 33 [(.var 3), (.var 6)])]) (.bi .repr [(.bi .max [(.var 7)])])) [.ret (.bl false)] [], .set 9 (.call 4 [(.var 0)]), .set 10 (.call 9 [(.var 2), (.var 9)]), .set 11 (.lc (.fz 13) (.nm 13) (.bop .Add (.var 2) (.var 9)) [] [13]), .set 12 (.lst []), .for_ (.nm 13) (.sset (.var 11)) [.set 15 (.lc (.fz 16) (.nm 16) (.fz 11) [(.andV (.cmp .NotEq (.var 16) (.var 13)) (.andV (.cmp .LtE (.idx (.var 16) (.int 0)) (.idx (.var 13) (.int 0))) (.cmp .LtE (.idx (.var 16) (.int 1)) (.idx (.var 13) (.int 1)))))] [16]), .set 12 (.bop .Add (.var 12) (.bop .Mult (.lst [(.fz 13)]) (.ty .int [(.cmp .Eq (.var 15) (.lst []))])))], .ite (.orV (.cmp .NotEq (.bi .repr [(.var 10)]) (.bi .repr [(.ty .tuple [(.var 12)])])) (.notV (.call 35 [(.var 10)]))) [.ret (.bl false)] [], .ite (.cmp .NotEq (.cmp .Eq (.call 16 [(.var 10), (.var 3)]) (.tup [(.str "fits")])) (.cmp .Eq (.call 11 [(.bop .Add (.var 2) (.var 9)), (.var 3)]) (.lst []))) [.ret (.bl false)] []], .ret (.bl true)]
def F36 : M Sl := fnS P36 CC 18 [] B36
def P37 : Nat → M Sl := nx P36 36 F36
/-! 37 _law_pot -/
def N37 : List Str := ["script", "place", "cell", "own", "small"]
def B37 : List S := [.set 2 (.ite (.cmp .Lt (.var 1) (.bi .len [(.var 0)])) (.idx (.var 0) (.var 1)) (.bop .Add (.bop .Add (.bop .Mod (.ty .int [(.bi .sum [(.slc (.var 0) .non (.int 1))])]) (.int 999979)) (.bop .Mult (.int 3389) (.var 1))) (.int 2131))), .set 3 (.bop .Mult (.bop .Mod (.ty .int [(.bi .abs [(.var 2)])]) (.bop .Pow (.bop .Pow (.int 10) (.int 60)) (.int 5))) (.ty .int [(.cmp .GtE (.bi .abs [(.var 2)]) (.bop .Pow (.int 10) (.int 18)))])), .set 4 (.bop .Mod (.ty .int [(.var 2)]) (.int 2305843009213693951)), .ret (.lst [(.fz 3), (.bop .Mod (.ty .int [(.bop .Add (.bop .Add (.bop .Mult (.var 4) (.int 84313)) (.bop .Mult (.bop .Mult (.int 11257) (.var 1)) (.var 1))) (.int 1847))]) (.int 2305843009213693921)), (.int 0)])]
def F37 : M Sl := fnS P37 CC 5 [] B37
def P38 : Nat → M Sl := nx P37 37 F37
/-! 38 _law_cells -/
def N38 : List Str := ["script", "most"]
def B38 : List S := [.ret (.lr1 (.bi .max [(.int 1), (.bi .min [(.var 1), (.bi .len [(.var 0)])])]))]
def F38 : M Sl := fnS P38 CC 2 [] B38
def P39 : Nat → M Sl := nx P38 38 F38
/-! 39 law -/
def N39 : List Str := ["script", "place"]
def B39 : List S := [.ret (.bi .all [(.lc (.call 36 [(.call 37 [(.var 0), (.var 1)])]) (.nm 1) (.call 38 [(.var 0), (.int 3)]) [] [1])])]
def F39 : M Sl := fnS P39 CC 2 [] B39
def P40 : Nat → M Sl := nx P39 39 F39
def FS : List FnE := [⟨"_law_let", 2, []⟩, ⟨"_law_full", 2, []⟩, ⟨"_law_take", 2, []⟩, ⟨"_law_of", 2, []⟩, ⟨"_law_curve_drawn", 1, []⟩, ⟨"is_int", 3, []⟩, ⟨"is_curve", 1, []⟩, ⟨"look_at_curve", 1, []⟩, ⟨"told_least", 1, []⟩, ⟨"both_let", 2, [(1, ["other"])]⟩, ⟨"_law_traffic_drawn", 2, []⟩, ⟨"_law_too_much", 2, []⟩, ⟨"is_traffic", 1, []⟩, ⟨"look_at_traffic", 1, []⟩, ⟨"told_at", 2, []⟩, ⟨"too_much", 2, []⟩, ⟨"fits", 2, [(1, ["traffic"])]⟩, ⟨"_law_odd", 1, []⟩, ⟨"_law_bent", 2, []⟩, ⟨"_law_bent", 2, []⟩, ⟨"_law_bent", 2, []⟩, ⟨"_law_bent", 2, []⟩, ⟨"_law_bent", 2, []⟩, ⟨"_law_is_bool", 2, []⟩, ⟨"shows_fits", 3, [(2, ["value"])]⟩, ⟨"_law_is_fitting_right", 3, []⟩, ⟨"let_in", 2, [(1, ["ticks"])]⟩, ⟨"buckets_of", 1, []⟩, ⟨"told_let", 2, []⟩, ⟨"shaped", 2, [(1, ["traffic"])]⟩, ⟨"_law_waits_for_ever", 2, []⟩, ⟨"_law_shaped", 3, []⟩, ⟨"_law_is_shaped_right", 2, []⟩, ⟨"least_burst", 2, [(1, ["rate"])]⟩, ⟨"_law_is_int", 3, []⟩, ⟨"_law_is_curve", 1, []⟩, ⟨"_law_right", 1, []⟩, ⟨"_law_pot", 2, []⟩, ⟨"_law_cells", 2, []⟩, ⟨"law", 1, []⟩]
theorem sc0 : C8.scC N0 ["curve", "ticks"] (defScope (top 43)) = true := by decide +kernel
theorem ck0 : chkSs B0 ⟨N0, defScope (top 43), FS.take 0, CS, BL, [], true⟩ (defBody (top 43)) = true := by decide +kernel
theorem sc1 : C8.scC N1 ["curve", "ticks"] (defScope (top 45)) = true := by decide +kernel
theorem ck1 : chkSs B1 ⟨N1, defScope (top 45), FS.take 1, CS, BL, [], true⟩ (defBody (top 45)) = true := by decide +kernel
theorem sc2 : C8.scC N2 ["pot", "upto"] (defScope (top 34)) = true := by decide +kernel
theorem ck2 : chkSs B2 ⟨N2, defScope (top 34), FS.take 2, CS, BL, [2, 3, 4], true⟩ (defBody (top 34)) = true := by decide +kernel
theorem sc3 : C8.scC N3 ["pot", "some"] (defScope (top 35)) = true := by decide +kernel
theorem ck3 : chkSs B3 ⟨N3, defScope (top 35), FS.take 3, CS, BL, [], true⟩ (defBody (top 35)) = true := by decide +kernel
theorem sc4 : C8.scC N4 ["pot"] (defScope (top 41)) = true := by decide +kernel
theorem ck4 : chkSs B4 ⟨N4, defScope (top 41), FS.take 4, CS, BL, [1, 2, 3, 4], true⟩ (defBody (top 41)) = true := by decide +kernel
theorem sc5 : C8.scC N5 ["value", "low", "high"] (defScope (top 6)) = true := by decide +kernel
theorem ck5 : chkSs B5 ⟨N5, defScope (top 6), FS.take 5, CS, BL, [], true⟩ (defBody (top 6)) = true := by decide +kernel
theorem sc6 : C8.scC N6 ["value"] (defScope (top 17)) = true := by decide +kernel
theorem ck6 : chkSs B6 ⟨N6, defScope (top 17), FS.take 6, CS, BL, [1], true⟩ (defBody (top 17)) = true := by decide +kernel
theorem sc7 : C8.scC N7 ["curve"] (defScope (top 18)) = true := by decide +kernel
theorem ck7 : chkSs B7 ⟨N7, defScope (top 18), FS.take 7, CS, BL, [], true⟩ (defBody (top 18)) = true := by decide +kernel
theorem sc8 : C8.scC N8 ["pairs"] (defScope (top 30)) = true := by decide +kernel
theorem ck8 : chkSs B8 ⟨N8, defScope (top 30), FS.take 8, CS, BL, [1, 2], true⟩ (defBody (top 30)) = true := by decide +kernel
theorem sc9 : C8.scC N9 ["one", "other"] (defScope (top 31)) = true := by decide +kernel
theorem ck9 : chkSs B9 ⟨N9, defScope (top 31), FS.take 9, CS, BL, [2], true⟩ (defBody (top 31)) = true := by decide +kernel
theorem sc10 : C8.scC N10 ["pot", "most"] (defScope (top 42)) = true := by decide +kernel
theorem ck10 : chkSs B10 ⟨N10, defScope (top 42), FS.take 10, CS, BL, [], true⟩ (defBody (top 42)) = true := by decide +kernel
theorem sc11 : C8.scC N11 ["curve", "traffic"] (defScope (top 44)) = true := by decide +kernel
theorem ck11 : chkSs B11 ⟨N11, defScope (top 44), FS.take 11, CS, BL, [2, 3, 4], true⟩ (defBody (top 44)) = true := by decide +kernel
theorem sc12 : C8.scC N12 ["value"] (defScope (top 19)) = true := by decide +kernel
theorem ck12 : chkSs B12 ⟨N12, defScope (top 19), FS.take 12, CS, BL, [], true⟩ (defBody (top 19)) = true := by decide +kernel
theorem sc13 : C8.scC N13 ["traffic"] (defScope (top 20)) = true := by decide +kernel
theorem ck13 : chkSs B13 ⟨N13, defScope (top 20), FS.take 13, CS, BL, [], true⟩ (defBody (top 20)) = true := by decide +kernel
theorem sc14 : C8.scC N14 ["curve", "ticks"] (defScope (top 21)) = true := by decide +kernel
theorem ck14 : chkSs B14 ⟨N14, defScope (top 21), FS.take 14, CS, BL, [], true⟩ (defBody (top 21)) = true := by decide +kernel
theorem sc15 : C8.scC N15 ["curve", "traffic"] (defScope (top 23)) = true := by decide +kernel
theorem ck15 : chkSs B15 ⟨N15, defScope (top 23), FS.take 15, CS, BL, [2, 3, 4], true⟩ (defBody (top 23)) = true := by decide +kernel
theorem sc16 : C8.scC N16 ["curve", "traffic"] (defScope (top 24)) = true := by decide +kernel
theorem ck16 : chkSs B16 ⟨N16, defScope (top 24), FS.take 16, CS, BL, [2], true⟩ (defBody (top 24)) = true := by decide +kernel
theorem sc17 : C8.scC N17 ["pot"] (defScope (top 37)) = true := by decide +kernel
theorem ck17 : chkSs B17 ⟨N17, defScope (top 37), FS.take 17, CS, BL, [1], true⟩ (defBody (top 37)) = true := by decide +kernel
theorem sc19 : C8.scC N19 ["pot", "value"] (defScope (top 39)) = true := by decide +kernel
theorem ck19 : chkSs B19 ⟨N19, defScope (top 39), FS.take 19, CS, BL, [2], true⟩ (defBody (top 39)) = true := by decide +kernel
theorem sc20 : C8.scC N20 ["pot", "value"] (defScope (top 39)) = true := by decide +kernel
theorem ck20 : chkSs B20 ⟨N20, defScope (top 39), FS.take 20, CS, BL, [2], true⟩ (defBody (top 39)) = true := by decide +kernel
theorem sc21 : C8.scC N21 ["pot", "value"] (defScope (top 39)) = true := by decide +kernel
theorem ck21 : chkSs B21 ⟨N21, defScope (top 39), FS.take 21, CS, BL, [2], true⟩ (defBody (top 39)) = true := by decide +kernel
theorem sc22 : C8.scC N22 ["pot", "value"] (defScope (top 39)) = true := by decide +kernel
theorem ck22 : chkSs B22 ⟨N22, defScope (top 39), FS.take 22, CS, BL, [2], true⟩ (defBody (top 39)) = true := by decide +kernel
theorem sc23 : C8.scC N23 ["told", "due"] (defScope (top 40)) = true := by decide +kernel
theorem ck23 : chkSs B23 ⟨N23, defScope (top 40), FS.take 23, CS, BL, [], true⟩ (defBody (top 40)) = true := by decide +kernel
theorem sc24 : C8.scC N24 ["curve", "traffic", "value"] (defScope (top 25)) = true := by decide +kernel
theorem ck24 : chkSs B24 ⟨N24, defScope (top 25), FS.take 24, CS, BL, [], true⟩ (defBody (top 25)) = true := by decide +kernel
theorem sc25 : C8.scC N25 ["pot", "curve", "traffic"] (defScope (top 49)) = true := by decide +kernel
theorem ck25 : chkSs B25 ⟨N25, defScope (top 49), FS.take 25, CS, BL, [3, 4, 5, 6, 7], true⟩ (defBody (top 49)) = true := by decide +kernel
theorem sc26 : C8.scC N26 ["curve", "ticks"] (defScope (top 22)) = true := by decide +kernel
theorem ck26 : chkSs B26 ⟨N26, defScope (top 22), FS.take 26, CS, BL, [], true⟩ (defBody (top 22)) = true := by decide +kernel
theorem sc27 : C8.scC N27 ["curve"] (defScope (top 26)) = true := by decide +kernel
theorem ck27 : chkSs B27 ⟨N27, defScope (top 26), FS.take 27, CS, BL, [], true⟩ (defBody (top 26)) = true := by decide +kernel
theorem sc28 : C8.scC N28 ["curve", "traffic"] (defScope (top 27)) = true := by decide +kernel
theorem ck28 : chkSs B28 ⟨N28, defScope (top 27), FS.take 28, CS, BL, [2, 3, 4, 5, 6], true⟩ (defBody (top 27)) = true := by decide +kernel
theorem sc29 : C8.scC N29 ["curve", "traffic"] (defScope (top 28)) = true := by decide +kernel
theorem ck29 : chkSs B29 ⟨N29, defScope (top 28), FS.take 29, CS, BL, [], true⟩ (defBody (top 28)) = true := by decide +kernel
theorem sc30 : C8.scC N30 ["curve", "traffic"] (defScope (top 48)) = true := by decide +kernel
theorem ck30 : chkSs B30 ⟨N30, defScope (top 48), FS.take 30, CS, BL, [], true⟩ (defBody (top 48)) = true := by decide +kernel
theorem sc31 : C8.scC N31 ["curve", "traffic", "most"] (defScope (top 47)) = true := by decide +kernel
theorem ck31 : chkSs B31 ⟨N31, defScope (top 47), FS.take 31, CS, BL, [3, 4, 5, 6], true⟩ (defBody (top 47)) = true := by decide +kernel
theorem sc32 : C8.scC N32 ["curve", "traffic"] (defScope (top 50)) = true := by decide +kernel
theorem ck32 : chkSs B32 ⟨N32, defScope (top 50), FS.take 32, CS, BL, [2, 3], true⟩ (defBody (top 50)) = true := by decide +kernel
theorem sc33 : C8.scC N33 ["traffic", "rate"] (defScope (top 29)) = true := by decide +kernel
theorem ck33 : chkSs B33 ⟨N33, defScope (top 29), FS.take 33, CS, BL, [2, 3, 4], true⟩ (defBody (top 29)) = true := by decide +kernel
theorem sc34 : C8.scC N34 ["value", "low", "high"] (defScope (top 38)) = true := by decide +kernel
theorem ck34 : chkSs B34 ⟨N34, defScope (top 38), FS.take 34, CS, BL, [], true⟩ (defBody (top 38)) = true := by decide +kernel
theorem sc35 : C8.scC N35 ["value"] (defScope (top 46)) = true := by decide +kernel
theorem ck35 : chkSs B35 ⟨N35, defScope (top 46), FS.take 35, CS, BL, [1], true⟩ (defBody (top 46)) = true := by decide +kernel
theorem sc36 : C8.scC N36 ["pot"] (defScope (top 51)) = true := by decide +kernel
theorem ck36 : chkSs B36 ⟨N36, defScope (top 51), FS.take 36, CS, BL, [1, 2, 3, 4, 5, 6, 7, 8, 9, 10, 11, 12, 13, 14, 15], true⟩ (defBody (top 51)) = true := by decide +kernel
theorem sc37 : C8.scC N37 ["script", "place"] (defScope (top 33)) = true := by decide +kernel
theorem ck37 : chkSs B37 ⟨N37, defScope (top 33), FS.take 37, CS, BL, [2, 3, 4], true⟩ (defBody (top 33)) = true := by decide +kernel
theorem sc38 : C8.scC N38 ["script", "most"] (defScope (top 36)) = true := by decide +kernel
theorem ck38 : chkSs B38 ⟨N38, defScope (top 36), FS.take 38, CS, BL, [], true⟩ (defBody (top 36)) = true := by decide +kernel
theorem sc39 : C8.scC N39 ["script"] (defScope (top 52)) = true := by decide +kernel
theorem ck39 : chkSs B39 ⟨N39, defScope (top 52), FS.take 39, CS, BL, [], true⟩ (defBody (top 52)) = true := by decide +kernel
def d__law_let : He.DefD := ⟨("_law_let", none), "_law_let", "_law_let", defArgs (top 43), defBody (top 43), defScope (top 43), [], []⟩
def d__law_full : He.DefD := ⟨("_law_full", none), "_law_full", "_law_full", defArgs (top 45), defBody (top 45), defScope (top 45), [], []⟩
def d__law_take : He.DefD := ⟨("_law_take", none), "_law_take", "_law_take", defArgs (top 34), defBody (top 34), defScope (top 34), [], []⟩
def d__law_of : He.DefD := ⟨("_law_of", none), "_law_of", "_law_of", defArgs (top 35), defBody (top 35), defScope (top 35), [], []⟩
def d__law_curve_drawn : He.DefD := ⟨("_law_curve_drawn", none), "_law_curve_drawn", "_law_curve_drawn", defArgs (top 41), defBody (top 41), defScope (top 41), [], []⟩
def d_is_int : He.DefD := ⟨("is_int", none), "is_int", "is_int", defArgs (top 6), defBody (top 6), defScope (top 6), [], []⟩
def d_is_curve : He.DefD := ⟨("is_curve", none), "is_curve", "is_curve", defArgs (top 17), defBody (top 17), defScope (top 17), [], []⟩
def d_look_at_curve : He.DefD := ⟨("look_at_curve", none), "look_at_curve", "look_at_curve", defArgs (top 18), defBody (top 18), defScope (top 18), [], []⟩
def d_told_least : He.DefD := ⟨("told_least", none), "told_least", "told_least", defArgs (top 30), defBody (top 30), defScope (top 30), [], []⟩
def d_both_let : He.DefD := ⟨("both_let", none), "both_let", "both_let", defArgs (top 31), defBody (top 31), defScope (top 31), [], []⟩
def d__law_traffic_drawn : He.DefD := ⟨("_law_traffic_drawn", none), "_law_traffic_drawn", "_law_traffic_drawn", defArgs (top 42), defBody (top 42), defScope (top 42), [], []⟩
def d__law_too_much : He.DefD := ⟨("_law_too_much", none), "_law_too_much", "_law_too_much", defArgs (top 44), defBody (top 44), defScope (top 44), [], []⟩
def d_is_traffic : He.DefD := ⟨("is_traffic", none), "is_traffic", "is_traffic", defArgs (top 19), defBody (top 19), defScope (top 19), [], []⟩
def d_look_at_traffic : He.DefD := ⟨("look_at_traffic", none), "look_at_traffic", "look_at_traffic", defArgs (top 20), defBody (top 20), defScope (top 20), [], []⟩
def d_told_at : He.DefD := ⟨("told_at", none), "told_at", "told_at", defArgs (top 21), defBody (top 21), defScope (top 21), [], []⟩
def d_too_much : He.DefD := ⟨("too_much", none), "too_much", "too_much", defArgs (top 23), defBody (top 23), defScope (top 23), [], []⟩
def d_fits : He.DefD := ⟨("fits", none), "fits", "fits", defArgs (top 24), defBody (top 24), defScope (top 24), [], []⟩
def d__law_odd : He.DefD := ⟨("_law_odd", none), "_law_odd", "_law_odd", defArgs (top 37), defBody (top 37), defScope (top 37), [], []⟩
def d__law_bent : He.DefD := ⟨("_law_bent", none), "_law_bent", "_law_bent", defArgs (top 39), defBody (top 39), defScope (top 39), [], []⟩
def d__law_is_bool : He.DefD := ⟨("_law_is_bool", none), "_law_is_bool", "_law_is_bool", defArgs (top 40), defBody (top 40), defScope (top 40), [], []⟩
def d_shows_fits : He.DefD := ⟨("shows_fits", none), "shows_fits", "shows_fits", defArgs (top 25), defBody (top 25), defScope (top 25), [], []⟩
def d__law_is_fitting_right : He.DefD := ⟨("_law_is_fitting_right", none), "_law_is_fitting_right", "_law_is_fitting_right", defArgs (top 49), defBody (top 49), defScope (top 49), [], []⟩
def d_let_in : He.DefD := ⟨("let_in", none), "let_in", "let_in", defArgs (top 22), defBody (top 22), defScope (top 22), [], []⟩
def d_buckets_of : He.DefD := ⟨("buckets_of", none), "buckets_of", "buckets_of", defArgs (top 26), defBody (top 26), defScope (top 26), [], []⟩
def d_told_let : He.DefD := ⟨("told_let", none), "told_let", "told_let", defArgs (top 27), defBody (top 27), defScope (top 27), [], []⟩
def d_shaped : He.DefD := ⟨("shaped", none), "shaped", "shaped", defArgs (top 28), defBody (top 28), defScope (top 28), [], []⟩
def d__law_waits_for_ever : He.DefD := ⟨("_law_waits_for_ever", none), "_law_waits_for_ever", "_law_waits_for_ever", defArgs (top 48), defBody (top 48), defScope (top 48), [], []⟩
def d__law_shaped : He.DefD := ⟨("_law_shaped", none), "_law_shaped", "_law_shaped", defArgs (top 47), defBody (top 47), defScope (top 47), [], []⟩
def d__law_is_shaped_right : He.DefD := ⟨("_law_is_shaped_right", none), "_law_is_shaped_right", "_law_is_shaped_right", defArgs (top 50), defBody (top 50), defScope (top 50), [], []⟩
def d_least_burst : He.DefD := ⟨("least_burst", none), "least_burst", "least_burst", defArgs (top 29), defBody (top 29), defScope (top 29), [], []⟩
def d__law_is_int : He.DefD := ⟨("_law_is_int", none), "_law_is_int", "_law_is_int", defArgs (top 38), defBody (top 38), defScope (top 38), [], []⟩
def d__law_is_curve : He.DefD := ⟨("_law_is_curve", none), "_law_is_curve", "_law_is_curve", defArgs (top 46), defBody (top 46), defScope (top 46), [], []⟩
def d__law_right : He.DefD := ⟨("_law_right", none), "_law_right", "_law_right", defArgs (top 51), defBody (top 51), defScope (top 51), [], []⟩
def d__law_pot : He.DefD := ⟨("_law_pot", none), "_law_pot", "_law_pot", defArgs (top 33), defBody (top 33), defScope (top 33), [], []⟩
def d__law_cells : He.DefD := ⟨("_law_cells", none), "_law_cells", "_law_cells", defArgs (top 36), defBody (top 36), defScope (top 36), [], []⟩
def d_law : He.DefD := ⟨("law", none), "law", "law", defArgs (top 52), defBody (top 52), defScope (top 52), [], []⟩
def fnL : List He.DefD := ([d__law_let, d__law_full, d__law_take, d__law_of, d__law_curve_drawn, d_is_int, d_is_curve, d_look_at_curve, d_told_least, d_both_let, d__law_traffic_drawn, d__law_too_much, d_is_traffic, d_look_at_traffic, d_told_at, d_too_much, d_fits, d__law_odd, d__law_bent, d__law_is_bool, d_shows_fits, d__law_is_fitting_right, d_let_in, d_buckets_of, d_told_let, d_shaped, d__law_waits_for_ever, d__law_shaped, d__law_is_shaped_right, d_least_burst] : List He.DefD) ++ ([d__law_is_int, d__law_is_curve, d__law_right, d__law_pot, d__law_cells, d_law] : List He.DefD)
def faL : List He.Fa := ([.glo "_law_let", .glo "_law_full", .glo "_law_take", .glo "_law_of", .glo "_law_curve_drawn", .glo "is_int", .glo "is_curve", .glo "look_at_curve", .glo "told_least", .glo "both_let", .glo "_law_traffic_drawn", .glo "_law_too_much", .glo "is_traffic", .glo "look_at_traffic", .glo "told_at", .glo "too_much", .glo "fits", .glo "_law_odd", .glo "_law_bent", .glo "_law_is_bool", .glo "shows_fits", .glo "_law_is_fitting_right", .glo "let_in", .glo "buckets_of", .glo "told_let", .glo "shaped", .glo "_law_waits_for_ever", .glo "_law_shaped", .glo "_law_is_shaped_right", .glo "least_burst"] : List He.Fa) ++ ([.glo "_law_is_int", .glo "_law_is_curve", .glo "_law_right", .glo "_law_pot", .glo "_law_cells", .glo "law", .free "min", .free "tuple", .free "range", .free "int", .free "len", .free "isinstance", .free "bool", .free "all", .free "zip", .free "sorted", .free "sum", .free "list", .free "str", .free "repr", .free "any", .free "max", .free "set", .free "abs", .int "MOST_PAIRS" 8, .int "MOST_RATE" 100, .int "MOST_BURST" 400, .int "MOST_SIZE" 1000, .int "MOST_TICKS" 500, .str "FITS" "fits"] : List He.Fa) ++ ([.str "MORE" "more", .int "THREE" 3, .int "MOST_WAITED" 2000] : List He.Fa)
def loose : List Str := (["__name__", "PassError", "TooMany", "BadCurve", "BadTicks", "is_int", "MOST_PAIRS", "MOST_BURST", "MOST_RATE", "MOST_TICKS", "MOST_SIZE", "MOST_WAITED", "THREE", "FITS", "MORE", "is_curve", "look_at_curve", "is_traffic", "look_at_traffic", "told_at", "let_in", "too_much", "fits", "shows_fits", "buckets_of", "told_let", "shaped", "least_burst", "told_least", "both_let"] : List Str) ++ (["_law_pot", "_law_take", "_law_of", "_law_cells", "_law_odd", "_law_is_int", "_law_bent", "_law_is_bool", "_law_curve_drawn", "_law_traffic_drawn", "_law_let", "_law_too_much", "_law_full", "_law_is_curve", "_law_shaped", "_law_waits_for_ever", "_law_is_fitting_right", "_law_is_shaped_right", "_law_right"] : List Str)
abbrev RR : PySem.W.OpenRow := PySem.W.OpenLaw.row PySem.Challenge.rw_howeveritpasses_k83_whole_traffic_that_f
abbrev hk : PySem.W.Hook := He.hookD 4 faL fnL
def ob (s : PySem.W.SharedT) : He.AlD := He.obsDG 4 faL fnL (HandSHeadRun.getT s)
theorem ob_eq (s : PySem.W.SharedT) : ob s = hk.obs s.abs := He.obsDG_eq (HandSHeadRun.getT_eq s)
theorem run (w : World) : HandSHeadRun.RunEq RR (PySem.W.view RR.prog [52]) hk ob 3000 loose w := by
  intro os
  kernel_rfl
theorem facts {P : Program} {w : World} {K : PySem.W.Frag} {h : Heap} {mg : Str → Option Value} {f : Addr} (X : K.In h) (G : h.Ns mainGlobals mg) (hfa : mg ("law" : Str) = some (.ref f)) (c : He.SaysD faL fnL K) :
    ∃ fd : FuncData, (∀ (s : Shared) (v : Value), BindsTo s fd ⟨[v], []⟩ [("script", v)]) ∧ ∀ base : Heap, K.In base → base.Ns mainGlobals mg → FOk P w K mg base 40 f fd ["script"] (spF K mg 1 F39) := by
  obtain ⟨fd__law_let, D__law_let⟩ := c.def_ 0 (d := d__law_let) rfl
  obtain ⟨fd__law_full, D__law_full⟩ := c.def_ 1 (d := d__law_full) rfl
  obtain ⟨fd__law_take, D__law_take⟩ := c.def_ 2 (d := d__law_take) rfl
  obtain ⟨fd__law_of, D__law_of⟩ := c.def_ 3 (d := d__law_of) rfl
  obtain ⟨fd__law_curve_drawn, D__law_curve_drawn⟩ := c.def_ 4 (d := d__law_curve_drawn) rfl
  obtain ⟨fd_is_int, D_is_int⟩ := c.def_ 5 (d := d_is_int) rfl
  obtain ⟨fd_is_curve, D_is_curve⟩ := c.def_ 6 (d := d_is_curve) rfl
  obtain ⟨fd_look_at_curve, D_look_at_curve⟩ := c.def_ 7 (d := d_look_at_curve) rfl
  obtain ⟨fd_told_least, D_told_least⟩ := c.def_ 8 (d := d_told_least) rfl
  obtain ⟨fd_both_let, D_both_let⟩ := c.def_ 9 (d := d_both_let) rfl
  obtain ⟨fd__law_traffic_drawn, D__law_traffic_drawn⟩ := c.def_ 10 (d := d__law_traffic_drawn) rfl
  obtain ⟨fd__law_too_much, D__law_too_much⟩ := c.def_ 11 (d := d__law_too_much) rfl
  obtain ⟨fd_is_traffic, D_is_traffic⟩ := c.def_ 12 (d := d_is_traffic) rfl
  obtain ⟨fd_look_at_traffic, D_look_at_traffic⟩ := c.def_ 13 (d := d_look_at_traffic) rfl
  obtain ⟨fd_told_at, D_told_at⟩ := c.def_ 14 (d := d_told_at) rfl
  obtain ⟨fd_too_much, D_too_much⟩ := c.def_ 15 (d := d_too_much) rfl
  obtain ⟨fd_fits, D_fits⟩ := c.def_ 16 (d := d_fits) rfl
  obtain ⟨fd__law_odd, D__law_odd⟩ := c.def_ 17 (d := d__law_odd) rfl
  obtain ⟨fd__law_bent, D__law_bent⟩ := c.def_ 18 (d := d__law_bent) rfl
  obtain ⟨fd__law_is_bool, D__law_is_bool⟩ := c.def_ 19 (d := d__law_is_bool) rfl
  obtain ⟨fd_shows_fits, D_shows_fits⟩ := c.def_ 20 (d := d_shows_fits) rfl
  obtain ⟨fd__law_is_fitting_right, D__law_is_fitting_right⟩ := c.def_ 21 (d := d__law_is_fitting_right) rfl
  obtain ⟨fd_let_in, D_let_in⟩ := c.def_ 22 (d := d_let_in) rfl
  obtain ⟨fd_buckets_of, D_buckets_of⟩ := c.def_ 23 (d := d_buckets_of) rfl
  obtain ⟨fd_told_let, D_told_let⟩ := c.def_ 24 (d := d_told_let) rfl
  obtain ⟨fd_shaped, D_shaped⟩ := c.def_ 25 (d := d_shaped) rfl
  obtain ⟨fd__law_waits_for_ever, D__law_waits_for_ever⟩ := c.def_ 26 (d := d__law_waits_for_ever) rfl
  obtain ⟨fd__law_shaped, D__law_shaped⟩ := c.def_ 27 (d := d__law_shaped) rfl
  obtain ⟨fd__law_is_shaped_right, D__law_is_shaped_right⟩ := c.def_ 28 (d := d__law_is_shaped_right) rfl
  obtain ⟨fd_least_burst, D_least_burst⟩ := c.def_ 29 (d := d_least_burst) rfl
  obtain ⟨fd__law_is_int, D__law_is_int⟩ := c.def_ 30 (d := d__law_is_int) rfl
  obtain ⟨fd__law_is_curve, D__law_is_curve⟩ := c.def_ 31 (d := d__law_is_curve) rfl
  obtain ⟨fd__law_right, D__law_right⟩ := c.def_ 32 (d := d__law_right) rfl
  obtain ⟨fd__law_pot, D__law_pot⟩ := c.def_ 33 (d := d__law_pot) rfl
  obtain ⟨fd__law_cells, D__law_cells⟩ := c.def_ 34 (d := d__law_cells) rfl
  obtain ⟨fd_law, D_law⟩ := c.def_ 35 (d := d_law) rfl
  have g__law_let := He.glo_ok X G (c.fact 0 (f := .glo "_law_let") rfl)
  have g__law_full := He.glo_ok X G (c.fact 1 (f := .glo "_law_full") rfl)
  have g__law_take := He.glo_ok X G (c.fact 2 (f := .glo "_law_take") rfl)
  have g__law_of := He.glo_ok X G (c.fact 3 (f := .glo "_law_of") rfl)
  have g__law_curve_drawn := He.glo_ok X G (c.fact 4 (f := .glo "_law_curve_drawn") rfl)
  have g_is_int := He.glo_ok X G (c.fact 5 (f := .glo "is_int") rfl)
  have g_is_curve := He.glo_ok X G (c.fact 6 (f := .glo "is_curve") rfl)
  have g_look_at_curve := He.glo_ok X G (c.fact 7 (f := .glo "look_at_curve") rfl)
  have g_told_least := He.glo_ok X G (c.fact 8 (f := .glo "told_least") rfl)
  have g_both_let := He.glo_ok X G (c.fact 9 (f := .glo "both_let") rfl)
  have g__law_traffic_drawn := He.glo_ok X G (c.fact 10 (f := .glo "_law_traffic_drawn") rfl)
  have g__law_too_much := He.glo_ok X G (c.fact 11 (f := .glo "_law_too_much") rfl)
  have g_is_traffic := He.glo_ok X G (c.fact 12 (f := .glo "is_traffic") rfl)
  have g_look_at_traffic := He.glo_ok X G (c.fact 13 (f := .glo "look_at_traffic") rfl)
  have g_told_at := He.glo_ok X G (c.fact 14 (f := .glo "told_at") rfl)
  have g_too_much := He.glo_ok X G (c.fact 15 (f := .glo "too_much") rfl)
  have g_fits := He.glo_ok X G (c.fact 16 (f := .glo "fits") rfl)
  have g__law_odd := He.glo_ok X G (c.fact 17 (f := .glo "_law_odd") rfl)
  have g__law_bent := He.glo_ok X G (c.fact 18 (f := .glo "_law_bent") rfl)
  have g__law_is_bool := He.glo_ok X G (c.fact 19 (f := .glo "_law_is_bool") rfl)
  have g_shows_fits := He.glo_ok X G (c.fact 20 (f := .glo "shows_fits") rfl)
  have g__law_is_fitting_right := He.glo_ok X G (c.fact 21 (f := .glo "_law_is_fitting_right") rfl)
  have g_let_in := He.glo_ok X G (c.fact 22 (f := .glo "let_in") rfl)
  have g_buckets_of := He.glo_ok X G (c.fact 23 (f := .glo "buckets_of") rfl)
  have g_told_let := He.glo_ok X G (c.fact 24 (f := .glo "told_let") rfl)
  have g_shaped := He.glo_ok X G (c.fact 25 (f := .glo "shaped") rfl)
  have g__law_waits_for_ever := He.glo_ok X G (c.fact 26 (f := .glo "_law_waits_for_ever") rfl)
  have g__law_shaped := He.glo_ok X G (c.fact 27 (f := .glo "_law_shaped") rfl)
  have g__law_is_shaped_right := He.glo_ok X G (c.fact 28 (f := .glo "_law_is_shaped_right") rfl)
  have g_least_burst := He.glo_ok X G (c.fact 29 (f := .glo "least_burst") rfl)
  have g__law_is_int := He.glo_ok X G (c.fact 30 (f := .glo "_law_is_int") rfl)
  have g__law_is_curve := He.glo_ok X G (c.fact 31 (f := .glo "_law_is_curve") rfl)
  have g__law_right := He.glo_ok X G (c.fact 32 (f := .glo "_law_right") rfl)
  have g__law_pot := He.glo_ok X G (c.fact 33 (f := .glo "_law_pot") rfl)
  have g__law_cells := He.glo_ok X G (c.fact 34 (f := .glo "_law_cells") rfl)
  have g_law := He.glo_ok X G (c.fact 35 (f := .glo "law") rfl)
  have u_min := He.free_ok X G (c.fact 36 (f := .free "min") rfl)
  have u_tuple := He.free_ok X G (c.fact 37 (f := .free "tuple") rfl)
  have u_range := He.free_ok X G (c.fact 38 (f := .free "range") rfl)
  have u_int := He.free_ok X G (c.fact 39 (f := .free "int") rfl)
  have u_len := He.free_ok X G (c.fact 40 (f := .free "len") rfl)
  have u_isinstance := He.free_ok X G (c.fact 41 (f := .free "isinstance") rfl)
  have u_bool := He.free_ok X G (c.fact 42 (f := .free "bool") rfl)
  have u_all := He.free_ok X G (c.fact 43 (f := .free "all") rfl)
  have u_zip := He.free_ok X G (c.fact 44 (f := .free "zip") rfl)
  have u_sorted := He.free_ok X G (c.fact 45 (f := .free "sorted") rfl)
  have u_sum := He.free_ok X G (c.fact 46 (f := .free "sum") rfl)
  have u_list := He.free_ok X G (c.fact 47 (f := .free "list") rfl)
  have u_str := He.free_ok X G (c.fact 48 (f := .free "str") rfl)
  have u_repr := He.free_ok X G (c.fact 49 (f := .free "repr") rfl)
  have u_any := He.free_ok X G (c.fact 50 (f := .free "any") rfl)
  have u_max := He.free_ok X G (c.fact 51 (f := .free "max") rfl)
  have u_set := He.free_ok X G (c.fact 52 (f := .free "set") rfl)
  have u_abs := He.free_ok X G (c.fact 53 (f := .free "abs") rfl)
  have c_MOST_PAIRS := He.int_ok X G (c.fact 54 (f := .int "MOST_PAIRS" 8) rfl)
  have c_MOST_RATE := He.int_ok X G (c.fact 55 (f := .int "MOST_RATE" 100) rfl)
  have c_MOST_BURST := He.int_ok X G (c.fact 56 (f := .int "MOST_BURST" 400) rfl)
  have c_MOST_SIZE := He.int_ok X G (c.fact 57 (f := .int "MOST_SIZE" 1000) rfl)
  have c_MOST_TICKS := He.int_ok X G (c.fact 58 (f := .int "MOST_TICKS" 500) rfl)
  have c_FITS := He.str_ok X G (c.fact 59 (f := .str "FITS" "fits") rfl)
  have c_MORE := He.str_ok X G (c.fact 60 (f := .str "MORE" "more") rfl)
  have c_THREE := He.int_ok X G (c.fact 61 (f := .int "THREE" 3) rfl)
  have c_MOST_WAITED := He.int_ok X G (c.fact 62 (f := .int "MOST_WAITED" 2000) rfl)
  have e := hfa.symm.trans g_law
  cases e
  have b := FunD.bindsA (ps := ["script"]) D_law fun _ _ _ _ _ _ us hl => match us, hl with | [_], _ => rfl
  refine ⟨fd_law, fun s v => b s [v] rfl, fun base _ _ => ?_⟩
  have hc : ∀ i n, CS[i]? = some n → ∃ v u, mg n = some u ∧ RelV v u ∧ ∀ H, RepB K H (fun _ => False) v (CC i) := by
    intro i n hi
    match i, hi with
    | 0, hi => cases hi; obtain ⟨t, e⟩ := c_MOST_PAIRS; exact ⟨.int 8, _, e, ⟨t, rfl⟩, fun H => .int _⟩
    | 1, hi => cases hi; obtain ⟨t, e⟩ := c_MOST_RATE; exact ⟨.int 100, _, e, ⟨t, rfl⟩, fun H => .int _⟩
    | 2, hi => cases hi; obtain ⟨t, e⟩ := c_MOST_BURST; exact ⟨.int 400, _, e, ⟨t, rfl⟩, fun H => .int _⟩
    | 3, hi => cases hi; obtain ⟨t, e⟩ := c_MOST_SIZE; exact ⟨.int 1000, _, e, ⟨t, rfl⟩, fun H => .int _⟩
    | 4, hi => cases hi; obtain ⟨t, e⟩ := c_MOST_TICKS; exact ⟨.int 500, _, e, ⟨t, rfl⟩, fun H => .int _⟩
    | 5, hi => cases hi; obtain ⟨t, e⟩ := c_FITS; exact ⟨.str "fits", _, e, ⟨t, rfl⟩, fun H => .str _⟩
    | 6, hi => cases hi; obtain ⟨t, e⟩ := c_MORE; exact ⟨.str "more", _, e, ⟨t, rfl⟩, fun H => .str _⟩
    | 7, hi => cases hi; obtain ⟨t, e⟩ := c_THREE; exact ⟨.int 3, _, e, ⟨t, rfl⟩, fun H => .int _⟩
    | 8, hi => cases hi; obtain ⟨t, e⟩ := c_MOST_WAITED; exact ⟨.int 2000, _, e, ⟨t, rfl⟩, fun H => .int _⟩
    | _ + 9, hi => cases hi
  have hb : ∀ n ∈ BL, mg n = none := by
    simp only [BL, List.forall_mem_cons]
    exact ⟨u_min, u_tuple, u_range, u_int, u_len, u_isinstance, u_bool, u_all, u_zip, u_sorted, u_sum, u_list, u_str, u_repr, u_any, u_max, u_set, u_abs, fun _ z => nomatch z⟩
  have A0 : Facts P w K mg base 0 P0 CC (FS.take 0) CS BL := Facts.none hc hb
  have A1 : Facts P w K mg base 1 P1 CC (FS.take 1) CS BL := A0.step (N := N0) (ps := ["curve", "ticks"]) (st := []) (rb := []) (b := B0) D__law_let g__law_let [] (fun _ _ _ _ _ _ us hl => match us, hl with | [_, _], _ => rfl) (fun _ z => (List.not_mem_nil z).elim) sc0 rfl ck0
  have A2 : Facts P w K mg base 2 P2 CC (FS.take 2) CS BL := A1.step (N := N1) (ps := ["curve", "ticks"]) (st := []) (rb := []) (b := B1) D__law_full g__law_full [] (fun _ _ _ _ _ _ us hl => match us, hl with | [_, _], _ => rfl) (fun _ z => (List.not_mem_nil z).elim) sc1 rfl ck1
  have A3 : Facts P w K mg base 3 P3 CC (FS.take 3) CS BL := A2.step (N := N2) (ps := ["pot", "upto"]) (st := [2, 3, 4]) (rb := []) (b := B2) D__law_take g__law_take [] (fun _ _ _ _ _ _ us hl => match us, hl with | [_, _], _ => rfl) (fun _ z => (List.not_mem_nil z).elim) sc2 rfl ck2
  have A4 : Facts P w K mg base 4 P4 CC (FS.take 4) CS BL := A3.step (N := N3) (ps := ["pot", "some"]) (st := []) (rb := []) (b := B3) D__law_of g__law_of [] (fun _ _ _ _ _ _ us hl => match us, hl with | [_, _], _ => rfl) (fun _ z => (List.not_mem_nil z).elim) sc3 rfl ck3
  have A5 : Facts P w K mg base 5 P5 CC (FS.take 5) CS BL := A4.step (N := N4) (ps := ["pot"]) (st := [1, 2, 3, 4]) (rb := []) (b := B4) D__law_curve_drawn g__law_curve_drawn [] (fun _ _ _ _ _ _ us hl => match us, hl with | [_], _ => rfl) (fun _ z => (List.not_mem_nil z).elim) sc4 rfl ck4
  have A6 : Facts P w K mg base 6 P6 CC (FS.take 6) CS BL := A5.step (N := N5) (ps := ["value", "low", "high"]) (st := []) (rb := []) (b := B5) D_is_int g_is_int [] (fun _ _ _ _ _ _ us hl => match us, hl with | [_, _, _], _ => rfl) (fun _ z => (List.not_mem_nil z).elim) sc5 rfl ck5
  have A7 : Facts P w K mg base 7 P7 CC (FS.take 7) CS BL := A6.step (N := N6) (ps := ["value"]) (st := [1]) (rb := []) (b := B6) D_is_curve g_is_curve [] (fun _ _ _ _ _ _ us hl => match us, hl with | [_], _ => rfl) (fun _ z => (List.not_mem_nil z).elim) sc6 rfl ck6
  have A8 : Facts P w K mg base 8 P8 CC (FS.take 8) CS BL := A7.step (N := N7) (ps := ["curve"]) (st := []) (rb := []) (b := B7) D_look_at_curve g_look_at_curve [] (fun _ _ _ _ _ _ us hl => match us, hl with | [_], _ => rfl) (fun _ z => (List.not_mem_nil z).elim) sc7 rfl ck7
  have A9 : Facts P w K mg base 9 P9 CC (FS.take 9) CS BL := A8.step (N := N8) (ps := ["pairs"]) (st := [1, 2]) (rb := []) (b := B8) D_told_least g_told_least [] (fun _ _ _ _ _ _ us hl => match us, hl with | [_], _ => rfl) (fun _ z => (List.not_mem_nil z).elim) sc8 rfl ck8
  have A10 : Facts P w K mg base 10 P10 CC (FS.take 10) CS BL := A9.step (N := N9) (ps := ["one", "other"]) (st := [2]) (rb := []) (b := B9) D_both_let g_both_let [(1, ["other"])] (fun _ _ _ _ _ _ us hl => match us, hl with | [_, _], _ => rfl) (fun q hq => by
    simp only [List.mem_cons, List.not_mem_nil, or_false] at hq
    subst hq
    exact ⟨rfl, fun _ _ _ _ _ _ us ws h1 h2 => match us, ws, h1, h2 with | [_], [_], _, _ => rfl⟩) sc9 rfl ck9
  have A11 : Facts P w K mg base 11 P11 CC (FS.take 11) CS BL := A10.step (N := N10) (ps := ["pot", "most"]) (st := []) (rb := []) (b := B10) D__law_traffic_drawn g__law_traffic_drawn [] (fun _ _ _ _ _ _ us hl => match us, hl with | [_, _], _ => rfl) (fun _ z => (List.not_mem_nil z).elim) sc10 rfl ck10
  have A12 : Facts P w K mg base 12 P12 CC (FS.take 12) CS BL := A11.step (N := N11) (ps := ["curve", "traffic"]) (st := [2, 3, 4]) (rb := []) (b := B11) D__law_too_much g__law_too_much [] (fun _ _ _ _ _ _ us hl => match us, hl with | [_, _], _ => rfl) (fun _ z => (List.not_mem_nil z).elim) sc11 rfl ck11
  have A13 : Facts P w K mg base 13 P13 CC (FS.take 13) CS BL := A12.step (N := N12) (ps := ["value"]) (st := []) (rb := []) (b := B12) D_is_traffic g_is_traffic [] (fun _ _ _ _ _ _ us hl => match us, hl with | [_], _ => rfl) (fun _ z => (List.not_mem_nil z).elim) sc12 rfl ck12
  have A14 : Facts P w K mg base 14 P14 CC (FS.take 14) CS BL := A13.step (N := N13) (ps := ["traffic"]) (st := []) (rb := []) (b := B13) D_look_at_traffic g_look_at_traffic [] (fun _ _ _ _ _ _ us hl => match us, hl with | [_], _ => rfl) (fun _ z => (List.not_mem_nil z).elim) sc13 rfl ck13
  have A15 : Facts P w K mg base 15 P15 CC (FS.take 15) CS BL := A14.step (N := N14) (ps := ["curve", "ticks"]) (st := []) (rb := []) (b := B14) D_told_at g_told_at [] (fun _ _ _ _ _ _ us hl => match us, hl with | [_, _], _ => rfl) (fun _ z => (List.not_mem_nil z).elim) sc14 rfl ck14
  have A16 : Facts P w K mg base 16 P16 CC (FS.take 16) CS BL := A15.step (N := N15) (ps := ["curve", "traffic"]) (st := [2, 3, 4]) (rb := []) (b := B15) D_too_much g_too_much [] (fun _ _ _ _ _ _ us hl => match us, hl with | [_, _], _ => rfl) (fun _ z => (List.not_mem_nil z).elim) sc15 rfl ck15
  have A17 : Facts P w K mg base 17 P17 CC (FS.take 17) CS BL := A16.step (N := N16) (ps := ["curve", "traffic"]) (st := [2]) (rb := []) (b := B16) D_fits g_fits [(1, ["traffic"])] (fun _ _ _ _ _ _ us hl => match us, hl with | [_, _], _ => rfl) (fun q hq => by
    simp only [List.mem_cons, List.not_mem_nil, or_false] at hq
    subst hq
    exact ⟨rfl, fun _ _ _ _ _ _ us ws h1 h2 => match us, ws, h1, h2 with | [_], [_], _, _ => rfl⟩) sc16 rfl ck16
  have A18 : Facts P w K mg base 18 P18 CC (FS.take 18) CS BL := A17.step (N := N17) (ps := ["pot"]) (st := [1]) (rb := []) (b := B17) D__law_odd g__law_odd [] (fun _ _ _ _ _ _ us hl => match us, hl with | [_], _ => rfl) (fun _ z => (List.not_mem_nil z).elim) sc17 rfl ck17
  have A19 : Facts P w K mg base 19 P19 CC (FS.take 19) CS BL := A18.bad (ps := ["pot", "value"]) D__law_bent g__law_bent (fun _ _ _ _ _ _ us hl => match us, hl with | [_, _], _ => rfl)
  have A20 : Facts P w K mg base 20 P20 CC (FS.take 20) CS BL := A19.step (N := N19) (ps := ["pot", "value"]) (st := [2]) (rb := []) (b := B19) D__law_bent g__law_bent [] (fun _ _ _ _ _ _ us hl => match us, hl with | [_, _], _ => rfl) (fun _ z => (List.not_mem_nil z).elim) sc19 rfl ck19
  have A21 : Facts P w K mg base 21 P21 CC (FS.take 21) CS BL := A20.step (N := N20) (ps := ["pot", "value"]) (st := [2]) (rb := []) (b := B20) D__law_bent g__law_bent [] (fun _ _ _ _ _ _ us hl => match us, hl with | [_, _], _ => rfl) (fun _ z => (List.not_mem_nil z).elim) sc20 rfl ck20
  have A22 : Facts P w K mg base 22 P22 CC (FS.take 22) CS BL := A21.step (N := N21) (ps := ["pot", "value"]) (st := [2]) (rb := []) (b := B21) D__law_bent g__law_bent [] (fun _ _ _ _ _ _ us hl => match us, hl with | [_, _], _ => rfl) (fun _ z => (List.not_mem_nil z).elim) sc21 rfl ck21
  have A23 : Facts P w K mg base 23 P23 CC (FS.take 23) CS BL := A22.step (N := N22) (ps := ["pot", "value"]) (st := [2]) (rb := []) (b := B22) D__law_bent g__law_bent [] (fun _ _ _ _ _ _ us hl => match us, hl with | [_, _], _ => rfl) (fun _ z => (List.not_mem_nil z).elim) sc22 rfl ck22
  have A24 : Facts P w K mg base 24 P24 CC (FS.take 24) CS BL := A23.step (N := N23) (ps := ["told", "due"]) (st := []) (rb := []) (b := B23) D__law_is_bool g__law_is_bool [] (fun _ _ _ _ _ _ us hl => match us, hl with | [_, _], _ => rfl) (fun _ z => (List.not_mem_nil z).elim) sc23 rfl ck23
  have A25 : Facts P w K mg base 25 P25 CC (FS.take 25) CS BL := A24.step (N := N24) (ps := ["curve", "traffic", "value"]) (st := []) (rb := []) (b := B24) D_shows_fits g_shows_fits [(2, ["value"])] (fun _ _ _ _ _ _ us hl => match us, hl with | [_, _, _], _ => rfl) (fun q hq => by
    simp only [List.mem_cons, List.not_mem_nil, or_false] at hq
    subst hq
    exact ⟨rfl, fun _ _ _ _ _ _ us ws h1 h2 => match us, ws, h1, h2 with | [_, _], [_], _, _ => rfl⟩) sc24 rfl ck24
  have A26 : Facts P w K mg base 26 P26 CC (FS.take 26) CS BL := A25.step (N := N25) (ps := ["pot", "curve", "traffic"]) (st := [3, 4, 5, 6, 7]) (rb := []) (b := B25) D__law_is_fitting_right g__law_is_fitting_right [] (fun _ _ _ _ _ _ us hl => match us, hl with | [_, _, _], _ => rfl) (fun _ z => (List.not_mem_nil z).elim) sc25 rfl ck25
  have A27 : Facts P w K mg base 27 P27 CC (FS.take 27) CS BL := A26.step (N := N26) (ps := ["curve", "ticks"]) (st := []) (rb := []) (b := B26) D_let_in g_let_in [(1, ["ticks"])] (fun _ _ _ _ _ _ us hl => match us, hl with | [_, _], _ => rfl) (fun q hq => by
    simp only [List.mem_cons, List.not_mem_nil, or_false] at hq
    subst hq
    exact ⟨rfl, fun _ _ _ _ _ _ us ws h1 h2 => match us, ws, h1, h2 with | [_], [_], _, _ => rfl⟩) sc26 rfl ck26
  have A28 : Facts P w K mg base 28 P28 CC (FS.take 28) CS BL := A27.step (N := N27) (ps := ["curve"]) (st := []) (rb := []) (b := B27) D_buckets_of g_buckets_of [] (fun _ _ _ _ _ _ us hl => match us, hl with | [_], _ => rfl) (fun _ z => (List.not_mem_nil z).elim) sc27 rfl ck27
  have A29 : Facts P w K mg base 29 P29 CC (FS.take 29) CS BL := A28.step (N := N28) (ps := ["curve", "traffic"]) (st := [2, 3, 4, 5, 6]) (rb := []) (b := B28) D_told_let g_told_let [] (fun _ _ _ _ _ _ us hl => match us, hl with | [_, _], _ => rfl) (fun _ z => (List.not_mem_nil z).elim) sc28 rfl ck28
  have A30 : Facts P w K mg base 30 P30 CC (FS.take 30) CS BL := A29.step (N := N29) (ps := ["curve", "traffic"]) (st := []) (rb := []) (b := B29) D_shaped g_shaped [(1, ["traffic"])] (fun _ _ _ _ _ _ us hl => match us, hl with | [_, _], _ => rfl) (fun q hq => by
    simp only [List.mem_cons, List.not_mem_nil, or_false] at hq
    subst hq
    exact ⟨rfl, fun _ _ _ _ _ _ us ws h1 h2 => match us, ws, h1, h2 with | [_], [_], _, _ => rfl⟩) sc29 rfl ck29
  have A31 : Facts P w K mg base 31 P31 CC (FS.take 31) CS BL := A30.step (N := N30) (ps := ["curve", "traffic"]) (st := []) (rb := []) (b := B30) D__law_waits_for_ever g__law_waits_for_ever [] (fun _ _ _ _ _ _ us hl => match us, hl with | [_, _], _ => rfl) (fun _ z => (List.not_mem_nil z).elim) sc30 rfl ck30
  have A32 : Facts P w K mg base 32 P32 CC (FS.take 32) CS BL := A31.step (N := N31) (ps := ["curve", "traffic", "most"]) (st := [3, 4, 5, 6]) (rb := []) (b := B31) D__law_shaped g__law_shaped [] (fun _ _ _ _ _ _ us hl => match us, hl with | [_, _, _], _ => rfl) (fun _ z => (List.not_mem_nil z).elim) sc31 rfl ck31
  have A33 : Facts P w K mg base 33 P33 CC (FS.take 33) CS BL := A32.step (N := N32) (ps := ["curve", "traffic"]) (st := [2, 3]) (rb := []) (b := B32) D__law_is_shaped_right g__law_is_shaped_right [] (fun _ _ _ _ _ _ us hl => match us, hl with | [_, _], _ => rfl) (fun _ z => (List.not_mem_nil z).elim) sc32 rfl ck32
  have A34 : Facts P w K mg base 34 P34 CC (FS.take 34) CS BL := A33.step (N := N33) (ps := ["traffic", "rate"]) (st := [2, 3, 4]) (rb := []) (b := B33) D_least_burst g_least_burst [(1, ["rate"])] (fun _ _ _ _ _ _ us hl => match us, hl with | [_, _], _ => rfl) (fun q hq => by
    simp only [List.mem_cons, List.not_mem_nil, or_false] at hq
    subst hq
    exact ⟨rfl, fun _ _ _ _ _ _ us ws h1 h2 => match us, ws, h1, h2 with | [_], [_], _, _ => rfl⟩) sc33 rfl ck33
  have A35 : Facts P w K mg base 35 P35 CC (FS.take 35) CS BL := A34.step (N := N34) (ps := ["value", "low", "high"]) (st := []) (rb := []) (b := B34) D__law_is_int g__law_is_int [] (fun _ _ _ _ _ _ us hl => match us, hl with | [_, _, _], _ => rfl) (fun _ z => (List.not_mem_nil z).elim) sc34 rfl ck34
  have A36 : Facts P w K mg base 36 P36 CC (FS.take 36) CS BL := A35.step (N := N35) (ps := ["value"]) (st := [1]) (rb := []) (b := B35) D__law_is_curve g__law_is_curve [] (fun _ _ _ _ _ _ us hl => match us, hl with | [_], _ => rfl) (fun _ z => (List.not_mem_nil z).elim) sc35 rfl ck35
  have A37 : Facts P w K mg base 37 P37 CC (FS.take 37) CS BL := A36.step (N := N36) (ps := ["pot"]) (st := [1, 2, 3, 4, 5, 6, 7, 8, 9, 10, 11, 12, 13, 14, 15]) (rb := []) (b := B36) D__law_right g__law_right [] (fun _ _ _ _ _ _ us hl => match us, hl with | [_], _ => rfl) (fun _ z => (List.not_mem_nil z).elim) sc36 rfl ck36
  have A38 : Facts P w K mg base 38 P38 CC (FS.take 38) CS BL := A37.step (N := N37) (ps := ["script", "place"]) (st := [2, 3, 4]) (rb := []) (b := B37) D__law_pot g__law_pot [] (fun _ _ _ _ _ _ us hl => match us, hl with | [_, _], _ => rfl) (fun _ z => (List.not_mem_nil z).elim) sc37 rfl ck37
  have A39 : Facts P w K mg base 39 P39 CC (FS.take 39) CS BL := A38.step (N := N38) (ps := ["script", "most"]) (st := []) (rb := []) (b := B38) D__law_cells g__law_cells [] (fun _ _ _ _ _ _ us hl => match us, hl with | [_, _], _ => rfl) (fun _ z => (List.not_mem_nil z).elim) sc38 rfl ck38
  exact A39.def_ (N := N39) (ps := ["script"]) (st := []) (rb := []) (b := B39) D_law sc39 rfl ck39
end Lw
end

section
set_option Elab.async false
set_option linter.all false
set_option maxRecDepth 100000
set_option maxHeartbeats 1000000
/-! K1: k83, what the functions come to -/
namespace Lw
open PySem L2
@[simp] theorem s_bind {α β} (m : M α) (f : α → M β) (E : SE) : M.bind m f E = (m E).bind f := rfl
@[simp] theorem s_bind2 {α β} (m : M α) (f : α → M β) (E : SE) : (m >>= f) E = (m E).bind f := rfl
@[simp] theorem s_ok {α β} (a : α) (E : SE) (f : α → M β) : (R.ok a E).bind f = f a E := rfl
@[simp] theorem s_pure {α} (a : α) (E : SE) : M.pure a E = .ok a E := rfl
@[simp] theorem s_pure2 {α} (a : α) (E : SE) : (pure a : M α) E = .ok a E := rfl
@[simp] theorem s_some {α} (a : α) : M.opt (some a) = M.pure a := rfl
@[simp] theorem s_of {α} (a : α) (E : SE) (f : α → SE → SR) : SR.of (.ok a E) f = f a E := rfl
@[simp] theorem s_nx (E : SE) (f : SE → SR) : SR.then (.nx E) f = f E := rfl
@[simp] theorem s_rt (s : Sl) (E : SE) (f : SE → SR) : SR.then (.rt s E) f = .rt s E := rfl
@[simp] theorem s_slot (i : Nat) (E : SE) : slotAt i E = match E[i]? with | some (.val d) => .ok d E | some (.own d) => .ok d E | _ => .bad := rfl
@[simp] theorem s_evA0 (E : SE) : evA [] E = .ok [] E := rfl
@[simp] theorem s_evA1 (i : Nat) (r : List Opd) (E : SE) : evA (.slot i :: r) E = (slotAt i E).bind fun _ => fun E1 => (evA r E1).bind fun ds => fun E2 => (slotAt i E2).bind fun d => fun E3 => .ok (d :: ds) E3 := rfl
@[simp] theorem s_evA2 (f : M Sl) (r : List Opd) (E : SE) : evA (.ex f :: r) E = (f E).bind fun s => fun E1 => (evA r E1).bind fun ds => fun E2 => .ok (s.d :: ds) E2 := rfl
def SIMSET : Nat := 0
local macro_rules | `(tactic| trivial) => `(tactic| simp [fnS, exs, ex, ev, evT, evD, opd, opds, args, biS, tyS, isiD, tyD, isiTys, isiS, vB, vI, Sl.d, cmpS, bopS, ixS, wipeE, truthD, putS, updS, setD, isOwnL, appD, extD, popS, varS, fzS, callS, evC, putBack, atI, ixN])
theorem is_int_ok (v lo hi : Int) : F5 [.val (.int v), .val (.int lo), .val (.int hi)] = .ok (vB (decide (lo ≤ v) && decide (v ≤ hi))) [.val (.int v), .val (.int lo), .val (.int hi)] := by
  unfold F5 B5
  by_cases h : lo ≤ v <;> simp [fnS, exs, ex, ev, opd, opds, biS, isiD, tyD, isiTys, isiS, vB, vI, Sl.d, cmpS, wipeE, h]
theorem log_lt {n k : Nat} (hk : 0 < k) (h : n < 2 ^ k) : n.log2 < k := by
  by_cases e : n = 0
  · subst e; simpa using hk
  · exact (Nat.log2_lt e).mpr h
theorem mulOk_of {i j : Int} {a b : Nat} (ha : 0 < a) (hb : 0 < b) (h1 : i.natAbs < 2 ^ a) (h2 : j.natAbs < 2 ^ b) (h : a + b ≤ 1000000) : mulOk i j = true := by
  have q1 := log_lt ha h1
  have q2 := log_lt hb h2
  unfold mulOk
  exact decide_eq_true (by omega)
def PotOk (n : Int) (l : List D) : Prop := ∃ a b c : Int, l = [.int a, .int b, .int c] ∧ 0 ≤ a ∧ (0 ≤ b ∧ b < 2 ^ 61) ∧ 0 ≤ c ∧ c ≤ n
theorem take_ok {n u : Int} {l : List D} (hn : n < 2 ^ 20) (h : PotOk n l) (hu : 0 < u ∧ u < 2 ^ 31) :
    ∃ d l', (0 ≤ d ∧ d < u) ∧ PotOk (n + 1) l' ∧ F2 [.own (.lst l), .val (.int u)] = .ok (vI d) [.own (.lst l'), .val (.int u)] := by
  obtain ⟨a, b, c, rfl, ha, hb, hc, hcn⟩ := h
  have hlog : u.natAbs.log2 < 9000 := log_lt (by decide) (Nat.lt_of_lt_of_le (show u.natAbs < 2 ^ 31 by omega) (Nat.pow_le_pow_right (by decide) (by decide)))
  by_cases h0 : 0 < a
  · refine ⟨a % u, [.int (a / u), .int b, .int c], ⟨Int.emod_nonneg _ (by omega), Int.emod_lt_of_pos _ hu.1⟩, ⟨_, _, _, rfl, Int.ediv_nonneg ha (by omega), hb, hc, by omega⟩, ?_⟩
    unfold F2 B2
    simp [fnS, exs, ex, ev, evT, opd, opds, biS, tyS, vB, vI, Sl.d, cmpS, bopS, ixS, wipeE, truthD, putS, updS, setD, isOwnL, popS, evC, atI, ixN, h0, hu.1, hlog]
  · have pos : ∀ x : Int, 0 < x % 1 ∨ True := fun _ => .inr trivial
    obtain ⟨C, hC⟩ : ∃ C, C = c + 1 := ⟨_, rfl⟩
    have hC0 : 0 < C := by omega
    have hC1 : C < 2 ^ 21 := by omega
    have m1 : mulOk 96179 C = true := mulOk_of (a := 17) (b := 21) (by decide) (by decide) (by decide) (by omega) (by decide)
    have m2 : mulOk (96179 * C) C = true := mulOk_of (a := 38) (b := 21) (by decide) (by decide) (by omega) (by omega) (by decide)
    have m3 : mulOk 367 C = true := mulOk_of (a := 9) (b := 21) (by decide) (by decide) (by decide) (by omega) (by decide)
    obtain ⟨X, hX⟩ : ∃ X, X = b + 96179 * C * C + 2131 := ⟨_, rfl⟩
    have hCC : 96179 * C * C < 2 ^ 60 := by
      have : C * C ≤ 2 ^ 21 * 2 ^ 21 := Int.mul_le_mul (by omega) (by omega) (by omega) (by omega)
      have e : 96179 * C * C = 96179 * (C * C) := Int.mul_assoc _ _ _
      omega
    have hCC0 : 0 ≤ 96179 * C * C := Int.mul_nonneg (by omega) (by omega)
    have b1 : (Builtin.Int.intBits X : Int) * 3 ≤ 134217728 := by
      have : X.natAbs.log2 < 62 := log_lt (by decide) (by omega)
      unfold Builtin.Int.intBits
      split <;> omega
    obtain ⟨p, hp, hpi⟩ : ∃ p : Int, (0 < p ∧ p < 2 ^ 31) ∧ atI [D.int 2147483647, .int 2147483629, .int 2147483587, .int 2147483579, .int 2147483563] (C % 5) = some (.int p) := by
      have : C % 5 = 0 ∨ C % 5 = 1 ∨ C % 5 = 2 ∨ C % 5 = 3 ∨ C % 5 = 4 := by omega
      rcases this with e | e | e | e | e <;> rw [e] <;> exact ⟨_, by constructor <;> decide, rfl⟩
    obtain ⟨Y, hY⟩ : ∃ Y, Y = X ^ 3 % p := ⟨_, rfl⟩
    have hY0 : 0 ≤ Y := by rw [hY]; exact Int.emod_nonneg _ (by omega)
    have hY1 : Y < 2 ^ 31 := by rw [hY]; have := Int.emod_lt_of_pos (X ^ 3) hp.1; omega
    have m4 : mulOk Y (Y % 11833 + 367 * C) = true := mulOk_of (a := 31) (b := 40) (by decide) (by decide) (by omega) (by omega) (by decide)
    refine ⟨(Y * (Y % 11833 + 367 * C)) % 2305843009213693907 / 191 % u, [.int a, .int b, .int C], ⟨Int.emod_nonneg _ (by omega), Int.emod_lt_of_pos _ hu.1⟩, ⟨_, _, _, rfl, ha, hb, by omega, by omega⟩, ?_⟩
    have a0 : ∀ x y z : D, atI [x, y, z] 0 = some x := fun _ _ _ => rfl
    have a1 : ∀ x y z : D, atI [x, y, z] 1 = some y := fun _ _ _ => rfl
    have a2 : ∀ x y z : D, atI [x, y, z] 2 = some z := fun _ _ _ => rfl
    unfold F2 B2
    have l191 : Nat.log2 191 < 9000 := by decide +kernel
    simp [a0, a1, a2, l191, sizeLine_eq, fnS, exs, ex, ev, evT, evD, opd, opds, biS, tyS, vB, vI, Sl.d, cmpS, bopS, ixS, wipeE, truthD, putS, updS, setD, isOwnL, popS, evC, h0, hu.1, hlog, ixN, ← hC, m1, m2, m3, ← hX, hpi, b1, ← hY, m4, hp.1]
theorem nx_same (Φ : Nat → M Sl) (j : Nat) (F : M Sl) : nx Φ j F j = F := if_pos rfl
theorem nx_ne (Φ : Nat → M Sl) {i j : Nat} (F : M Sl) (h : i ≠ j) : nx Φ j F i = Φ i := if_neg h
theorem atI_mem {α : Type} {xs : List α} {i : Int} (h0 : 0 ≤ i) (h1 : i < xs.length) : ∃ x, x ∈ xs ∧ atI xs i = some x ∧ xs[i.toNat]? = some x := by
  have hl : i.toNat < xs.length := by omega
  refine ⟨xs[i.toNat], List.getElem_mem hl, ?_, by simp [hl]⟩
  unfold atI ixN
  simp [h0, h1, hl]
theorem of_ok {n : Int} {l xs : List D} (hn : n < 2 ^ 20) (h : PotOk n l) (hx : xs ≠ []) (hz : xs.length < 2 ^ 24) :
    ∃ d l', d ∈ xs ∧ PotOk (n + 1) l' ∧ F3 [.own (.lst l), .own (.lst xs)] = .ok (.val d) [.own (.lst l'), .own (.lst xs)] := by
  have hlen : 0 < xs.length := List.length_pos_iff.mpr hx
  obtain ⟨i, l', hi, hp, e⟩ := take_ok (u := (xs.length : Int)) hn h ⟨by omega, by omega⟩
  obtain ⟨d, hd, ed, _⟩ := atI_mem (xs := xs) hi.1 hi.2
  refine ⟨d, l', hd, hp, ?_⟩
  have p3 : P3 2 = F2 := nx_same _ _ _
  have sz : xs.length ≤ sizeLine := by rw [sizeLine_eq]; omega
  unfold F3 B3
  simp [fnS, exs, ex, ev, opd, opds, args, biS, lenD, vI, Sl.d, ixS, wipeE, callS, evC, popS, p3, e, ed, putBack, sz]
theorem idx_scr {ns : List Int} {i : Nat} (h : i < ns.length) : atI ns (i : Int) = some ns[i] := by
  obtain ⟨x, _, e, e2⟩ := atI_mem (xs := ns) (i := (i : Int)) (by omega) (by omega)
  rw [e, ← e2]
  simp [h]
theorem intBits10 : (Builtin.Int.intBits 10 : Int) * 60 ≤ 134217728 := by decide +kernel
theorem intBits60 : (Builtin.Int.intBits (10 ^ 60) : Int) * 5 ≤ 134217728 := by decide +kernel
theorem intBits18 : (Builtin.Int.intBits 10 : Int) * 18 ≤ 134217728 := by decide +kernel
/-- the pot of a cell -/
theorem pot_ok {ns : List Int} {i : Nat} (hi : i < 3) (hz : ns.length ≤ 63) (hl : i < ns.length ∨ (ns = [] ∧ i = 0)) :
    ∃ l, PotOk 0 l ∧ F37 [.val (.scr ns), .val (.int i)] = .ok (.own (.lst l)) [.val (.scr ns), .val (.int i)] := by
  obtain ⟨cell, hc⟩ : ∃ c : Int, ev P37 CC (.ite (.cmp .Lt (.var 1) (.bi .len [(.var 0)])) (.idx (.var 0) (.var 1)) (.bop .Add (.bop .Add (.bop .Mod (.ty .int [(.bi .sum [(.slc (.var 0) .non (.int 1))])]) (.int 999979)) (.bop .Mult (.int 3389) (.var 1))) (.int 2131))) [.val (.scr ns), .val (.int i), .no, .no, .no] = .ok (vI c) [.val (.scr ns), .val (.int i), .no, .no, .no] := by
    rcases hl with hl | ⟨rfl, rfl⟩
    · refine ⟨ns[i], ?_⟩
      have := idx_scr hl
      simp [ev, evT, opd, opds, biS, lenD, vI, vB, Sl.d, cmpS, truthD, ixS, hl, this]
    · refine ⟨2131, ?_⟩
      have m0 : mulOk 3389 0 = true := by decide +kernel
      simp [ev, evT, opd, opds, biS, tyS, lenD, vI, vB, Sl.d, cmpS, truthD, bopS, slS, slP, partO, isNonE, partD, cutD, intsOf, m0]
  have iB : (i : Int) = 0 ∨ (i : Int) = 1 ∨ (i : Int) = 2 := by omega
  obtain ⟨own, ho, eo⟩ : ∃ own : Int, 0 ≤ own ∧ ev P37 CC (.bop .Mult (.bop .Mod (.ty .int [(.bi .abs [(.var 2)])]) (.bop .Pow (.bop .Pow (.int 10) (.int 60)) (.int 5))) (.ty .int [(.cmp .GtE (.bi .abs [(.var 2)]) (.bop .Pow (.int 10) (.int 18)))])) [.val (.scr ns), .val (.int i), vI cell, .no, .no] = .ok (vI own) [.val (.scr ns), .val (.int i), vI cell, .no, .no] := by
    have p5 : (0 : Int) < (10 ^ 60) ^ 5 := Int.pow_pos (Int.pow_pos (by decide))
    obtain ⟨Z, hZ⟩ : ∃ Z : Int, Z = if cell < 0 then -cell else cell := ⟨_, rfl⟩
    obtain ⟨A, hA⟩ : ∃ A : Int, A = Z % (10 ^ 60) ^ 5 := ⟨_, rfl⟩
    have q10 : (0 : Int) ≤ 60 ∧ (Builtin.Int.intBits 10 : Int) * 60 ≤ 2 ^ 27 := ⟨by decide, by decide +kernel⟩
    have q60 : (0 : Int) ≤ 5 ∧ (Builtin.Int.intBits (10 ^ 60) : Int) * 5 ≤ 2 ^ 27 := ⟨by decide, by decide +kernel⟩
    have q18 : (0 : Int) ≤ 18 ∧ (Builtin.Int.intBits 10 : Int) * 18 ≤ 2 ^ 27 := ⟨by decide, by decide +kernel⟩
    have A0 : 0 ≤ A := by rw [hA]; exact Int.emod_nonneg _ (by omega)
    have A1 : A < (10 ^ 60) ^ 5 := by rw [hA]; exact Int.emod_lt_of_pos _ p5
    have A2 : A.natAbs < 2 ^ 1000 := by
      have : ((10 : Int) ^ 60) ^ 5 < 2 ^ 1000 := by decide +kernel
      have h2 : (A.natAbs : Int) = A := Int.natAbs_of_nonneg A0
      have : ((A.natAbs : Nat) : Int) < ((2 ^ 1000 : Nat) : Int) := by rw [h2]; push_cast; exact Int.lt_trans A1 this
      exact Int.ofNat_lt.mp this
    by_cases hb : (10 : Int) ^ 18 ≤ Z
    · have m : mulOk A 1 = true := mulOk_of (a := 1000) (b := 1) (by decide) (by decide) A2 (by decide) (by decide)
      refine ⟨A * 1, by omega, ?_⟩
      simp [-Int.reducePow, -Nat.reducePow, ev, opd, opds, biS, tyS, vI, vB, Sl.d, cmpS, bopS, q10, q60, q18, ← hZ, hb, p5, ← hA, m]
    · have m : mulOk A 0 = true := mulOk_of (a := 1000) (b := 1) (by decide) (by decide) A2 (by decide) (by decide)
      refine ⟨A * 0, by omega, ?_⟩
      simp [-Int.reducePow, -Nat.reducePow, ev, opd, opds, biS, tyS, vI, vB, Sl.d, cmpS, bopS, q10, q60, q18, ← hZ, hb, p5, ← hA, m]
  have s0 : 0 ≤ cell % 2305843009213693951 := Int.emod_nonneg _ (by decide)
  have s1 : cell % 2305843009213693951 < 2305843009213693951 := Int.emod_lt_of_pos _ (by decide)
  obtain ⟨sm, hsm⟩ : ∃ x, x = cell % 2305843009213693951 := ⟨_, rfl⟩
  have m1 : mulOk sm 84313 = true := mulOk_of (a := 62) (b := 20) (by decide) (by decide) (by omega) (by decide) (by decide)
  have m2 : mulOk 11257 (i : Int) = true := mulOk_of (a := 20) (b := 20) (by decide) (by decide) (by decide) (by omega) (by decide)
  have m3 : mulOk (11257 * (i : Int)) (i : Int) = true := mulOk_of (a := 20) (b := 20) (by decide) (by decide) (by omega) (by omega) (by decide)
  refine ⟨[.int own, .int ((sm * 84313 + 11257 * i * i + 1847) % 2305843009213693921), .int 0], ⟨_, _, _, rfl, ho, ⟨Int.emod_nonneg _ (by decide), Int.lt_trans (Int.emod_lt_of_pos _ (by decide)) (by decide)⟩, by decide, by decide⟩, ?_⟩
  unfold F37 B37
  simp only [fnS, exs, ex]
  simp only [vI] at hc eo
  simp [hc, eo, putS]
  simp [ev, evD, opd, opds, biS, tyS, vI, vB, Sl.d, bopS, wipeE, putS, fzS, ← hsm, m1, m2, m3, sizeLine_eq]
end Lw
end

section
set_option Elab.async false
set_option linter.all false
set_option maxRecDepth 100000
set_option maxHeartbeats 1000000
/-! K2: comprehensions; the law from one cell -/
namespace Lw
open PySem L2
/-- a comprehension whose turns leave the slots alone -/
theorem lcI_map {bt : D → SE → Option SE} {tests : List (M Bool)} {elt : M Sl} {own : List Nat} {W : SE} {f : D → D} (hW : wipeE W own = W) : ∀ (ds acc : List D), acc.length + ds.length ≤ sizeLine →
    (∀ d ∈ ds, ∃ E1 E2 E3 s, bt d W = some E1 ∧ lcI.allT tests E1 = .ok true E2 ∧ elt E2 = .ok s E3 ∧ s.d = f d ∧ wipeE E3 own = W) → lcI bt tests elt own ds acc W = .ok (acc ++ ds.map f) W
  | [], acc, _, _ => by rw [lcI]; simp
  | d :: ds, acc, hz, h => by
    obtain ⟨E1, E2, E3, s, h1, h2, h3, h4, h5⟩ := h d List.mem_cons_self
    simp only [List.length_cons] at hz
    rw [lcI]
    simp only [hW, h1, h2, s_ok, if_true, h3, h4, h5]
    rw [if_pos (by omega), lcI_map hW ds (acc ++ [f d]) (by simp; omega) fun x hx => h x (List.mem_cons_of_mem _ hx)]
    simp
theorem lcI_mapG {α : Type} {bt : D → SE → Option SE} {tests : List (M Bool)} {elt : M Sl} {own : List Nat} {W : SE} {g f : α → D} (hW : wipeE W own = W) : ∀ (xs : List α) (acc : List D), acc.length + xs.length ≤ sizeLine →
    (∀ x ∈ xs, ∃ E1 E2 E3 s, bt (g x) W = some E1 ∧ lcI.allT tests E1 = .ok true E2 ∧ elt E2 = .ok s E3 ∧ s.d = f x ∧ wipeE E3 own = W) → lcI bt tests elt own (xs.map g) acc W = .ok (acc ++ xs.map f) W
  | [], acc, _, _ => by simp [lcI]
  | d :: ds, acc, hz, h => by
    obtain ⟨E1, E2, E3, s, h1, h2, h3, h4, h5⟩ := h d List.mem_cons_self
    simp only [List.length_cons] at hz
    rw [List.map_cons, lcI]
    simp only [hW, h1, h2, s_ok, if_true, h3, h4, h5]
    rw [if_pos (by omega), lcI_mapG hW ds (acc ++ [f d]) (by simp; omega) fun x hx => h x (List.mem_cons_of_mem _ hx)]
    simp
theorem rng_len (n : Int) : (rngD 0 n).length = n.toNat := by simp [rngD]
theorem rng_mem {n : Int} {d : D} (h : d ∈ rngD 0 n) : ∃ i : Nat, (i : Int) < n ∧ d = .int i := by
  unfold rngD at h
  obtain ⟨i, hi, rfl⟩ := List.mem_map.mp h
  refine ⟨i, ?_, by simp⟩
  have := List.mem_range.mp hi
  omega
theorem cells_ok {ns : List Int} (hz : ns.length ≤ 63) : ∃ m : Int, 1 ≤ m ∧ m ≤ 3 ∧ (m ≤ ns.length ∨ (ns = [] ∧ m = 1)) ∧ F38 [.val (.scr ns), .val (.int 3)] = .ok (.own (.lst (rngD 0 m))) [.val (.scr ns), .val (.int 3)] := by
  obtain ⟨n, hn⟩ : ∃ n : Int, n = if (ns.length : Int) < 3 then (ns.length : Int) else 3 := ⟨_, rfl⟩
  obtain ⟨m, hm⟩ : ∃ m : Int, m = if 1 < n then n else 1 := ⟨_, rfl⟩
  have b : 1 ≤ m ∧ m ≤ 3 := by rw [hm, hn]; split <;> split <;> omega
  refine ⟨m, b.1, b.2, ?_, ?_⟩
  · rcases ns with _ | ⟨x, ns⟩
    · right; refine ⟨rfl, ?_⟩; rw [hm, hn]; rfl
    · left; rw [hm, hn]; simp only [List.length_cons]; split <;> split <;> omega
  · have lr : lrS 0 m = some (.own (.lst (rngD 0 m))) := by
      unfold lrS; rw [if_pos]; omega
    unfold F38 B38
    simp [fnS, exs, ex, ev, opd, opds, biS, lenD, vI, Sl.d, wipeE, ← hn, ← hm, lr1S, lr]
theorem blsOf_true : ∀ (ds : List D), (∀ d ∈ ds, d = .bl true) → blsOf ds = some (ds.map fun _ => true)
  | [], _ => rfl
  | d :: ds, h => by
    have := h d List.mem_cons_self
    subst this
    simp [blsOf, blsOf_true ds fun x hx => h x (List.mem_cons_of_mem _ hx)]
theorem putBack_ex (f : M Sl) (ss ps : List Sl) (E : SE) : putBack [.ex f] ss ps E = E := by
  rcases ss with _ | ⟨s, ss⟩
  · rfl
  · rcases ps with _ | ⟨p, ps⟩
    · cases s <;> rfl
    · cases s <;> simp [putBack]
/-- the law, from one pot -/
theorem law_of (right : ∀ l, PotOk 0 l → ∃ E, F36 [.own (.lst l)] = .ok (vB true) E) (ns : List Int) (hz : ns.length ≤ 63) : ∃ E, F39 [.val (.scr ns)] = .ok (.val (.bl true)) E := by
  obtain ⟨m, m1, m2, m3, ec⟩ := cells_ok hz
  have p38 : P39 38 = F38 := nx_same _ _ _
  have p37 : P39 37 = F37 := by show nx P38 38 F38 37 = F37; rw [nx_ne _ _ (by decide)]; exact nx_same _ _ _
  have p36 : P39 36 = F36 := by show nx P38 38 F38 36 = F36; rw [nx_ne _ _ (by decide)]; show nx P37 37 F37 36 = F36; rw [nx_ne _ _ (by decide)]; exact nx_same _ _ _
  have key : ∀ d ∈ rngD 0 m, ∃ E1 E2 E3 s, bindT (.nm 1) d [.val (.scr ns), .no] = some E1 ∧ lcI.allT (evTs P39 CC []) E1 = .ok true E2 ∧ ev P39 CC (.call 36 [(.call 37 [(.var 0), (.var 1)])]) E2 = .ok s E3 ∧ s.d = .bl true ∧ wipeE E3 [1] = [.val (.scr ns), .no] := by
    intro d hd
    obtain ⟨i, hi, rfl⟩ := rng_mem hd
    obtain ⟨l, hl, ep⟩ := pot_ok (ns := ns) (i := i) (by omega) hz (by rcases m3 with h | ⟨h, h2⟩; exact .inl (by omega); exact .inr ⟨h, by omega⟩)
    obtain ⟨E, er⟩ := right l hl
    refine ⟨[.val (.scr ns), .val (.int i)], [.val (.scr ns), .val (.int i)], [.val (.scr ns), .val (.int i)], vB true, by simp [bindT], by simp [evTs, lcI.allT], ?_, rfl, by simp [wipeE]⟩
    simp [ev, args, callS, evC, p36, p37, ep, popS, putBack, putBack_ex, er]
  have lc := lcI_map (bt := bindT (.nm 1)) (tests := evTs P39 CC []) (elt := ev P39 CC (.call 36 [(.call 37 [(.var 0), (.var 1)])])) (own := [1]) (W := [.val (.scr ns), .no]) (f := fun _ => .bl true) (by simp [wipeE]) (rngD 0 m) [] (by rw [rng_len, sizeLine_eq]; simp; omega) key
  have bt : blsOf ((rngD 0 m).map fun _ => D.bl true) = some (((rngD 0 m).map fun _ => D.bl true).map fun _ => true) := blsOf_true _ fun d hd => by obtain ⟨_, _, e⟩ := List.mem_map.mp hd; exact e.symm
  simp only [ev, args, List.nil_append] at lc
  refine ⟨[.val (.scr ns)], ?_⟩
  unfold F39 B39
  simp only [fnS, exs, ex, ev, opds, opd, evI]
  have c38 : callS (P39 38) [Arg.slot 0, Arg.ex (ev P39 CC (.int 3))] [.val (.scr ns), .no] = .ok (.own (.lst (rngD 0 m))) [.val (.scr ns), .no] := by
    simp [callS, evC, popS, ev, vI, p38, ec, putBack]
  simp only [ev, vI, p38] at c38
  simp [lc, c38, args, evC, popS, p38, ec, putBack, itemsD, notOwn, wipeE, ev, vI, backE, Sl.d, biS, bt]
  rw [show ((rngD 0 m).all fun _ => true) = true from List.all_eq_true.mpr fun _ _ => rfl]; rfl
end Lw
end

section
set_option Elab.async false
set_option linter.all false
set_option maxRecDepth 100000
set_option maxHeartbeats 1000000
/-! K3: curves -/
namespace Lw
open PySem L2
abbrev Cv := List (Int × Int)
def curveD (c : Cv) : D := .tup (c.map prD)
def trafD (t : List Int) : D := .tup (t.map .int)
def letZ (c : Cv) (t : Int) : Int := if 0 < t then minL (c.map fun p => p.1 + p.2 * t) else 0
/-- small entries -/
def Small (c : Cv) : Prop := ∀ p ∈ c, (0 ≤ p.1 ∧ p.1 ≤ 400) ∧ (0 ≤ p.2 ∧ p.2 ≤ 100)
theorem ev_lc (Φ : Nat → M Sl) (C : Nat → D) (elt : E) (tg : Tgt) (it : E) (ifs : List E) (own : List Nat) : ev Φ C (.lc elt tg it ifs own) = M.bind (evI Φ C it) fun ds => fun E => if notOwn E own then
      (match lcI (bindT tg) (evTs Φ C ifs) (ev Φ C elt) own ds [] (wipeE E own) with
      | .ok acc E1 => .ok (.own (.lst acc)) (backE E E1 own)
      | _ => .bad) else .bad := by rw [ev] <;> rfl
theorem ev_ty (Φ : Nat → M Sl) (C : Nat → D) (t : Bt) (as : List E) : ev Φ C (.ty t as) = M.bind (evA (opds Φ C as)) fun ds => M.opt (tyS t ds) := by rw [ev]
theorem opds1 (Φ : Nat → M Sl) (C : Nat → D) (a : E) (r : List E) : opds Φ C (a :: r) = opd Φ C a :: opds Φ C r := by rw [opds]
theorem opd_lc (Φ : Nat → M Sl) (C : Nat → D) (elt : E) (tg : Tgt) (it : E) (ifs : List E) (own : List Nat) : opd Φ C (.lc elt tg it ifs own) = .ex (ev Φ C (.lc elt tg it ifs own)) := by simp only [opd]
theorem intsOf_ints (ns : List Int) : intsOf (ns.map D.int) = some ns := intsOf_map ns
theorem let_gen (Φ : Nat → M Sl) {c : Cv} {t : Int} (hc : c ≠ []) (hs : Small c) (hz : c.length ≤ 1000) (ht : t < 2 ^ 31) :
    fnS Φ CC 4 [] B0 [.val (curveD c), .val (.int t)] = .ok (vI (letZ c t)) [.val (curveD c), .val (.int t)] := by
  by_cases h0 : 0 < t
  · have lc := lcI_mapG (bt := bindT (.tup [.nm 2, .nm 3])) (tests := evTs Φ CC []) (elt := ev Φ CC (.bop .Add (.var 2) (.bop .Mult (.var 3) (.var 1)))) (own := [2, 3]) (W := [.val (curveD c), .val (.int t), .no, .no]) (g := prD)
      (f := fun p => .int (p.1 + p.2 * t)) (by simp [wipeE]) c [] (by rw [sizeLine_eq]; simp; omega) (fun p hp => by
        have hb := hs p hp
        have m : mulOk p.2 t = true := mulOk_of (a := 10) (b := 32) (by decide) (by decide) (by omega) (by omega) (by decide)
        refine ⟨[.val (curveD c), .val (.int t), .val (.int p.1), .val (.int p.2)], [.val (curveD c), .val (.int t), .val (.int p.1), .val (.int p.2)], [.val (curveD c), .val (.int t), .val (.int p.1), .val (.int p.2)], vI (p.1 + p.2 * t), by simp [bindT, bindTs, prD], by simp [evTs, lcI.allT], ?_, rfl, by simp [wipeE]⟩
        simp [ev, opd, bopS, m, vI, Sl.d])
    have ei : intsOf (c.map fun p => D.int (p.1 + p.2 * t)) = some (c.map fun p => p.1 + p.2 * t) := by
      rw [← intsOf_ints]; simp [Function.comp_def]
    have hne : ∃ i r, (c.map fun p => p.1 + p.2 * t) = i :: r := by
      cases c with
      | nil => exact absurd rfl hc
      | cons p c => exact ⟨_, _, rfl⟩
    obtain ⟨i, r, ir⟩ := hne
    unfold B0
    simp only [ev, opd, List.nil_append] at lc
    simp [fnS, exs, ex, ev, evT, evI, opd, opds, biS, cmpS, vB, vI, Sl.d, truthD, h0, fzS, curveD, itemsD, notOwn, wipeE, backE, SR.of]
    simp only [curveD, vI] at lc
    simp [lc, ei, ir, letZ, h0]
  · unfold B0
    simp [fnS, exs, ex, ev, evT, opd, opds, cmpS, vB, vI, Sl.d, truthD, h0, wipeE, letZ]
end Lw
end

section
set_option Elab.async false
set_option linter.all false
set_option maxRecDepth 100000
set_option maxHeartbeats 1000000
/-! K4: loops by an invariant; the draws -/
namespace Lw
open PySem L2
def TurnOk (I : SE → Prop) (Post : SR → Prop) : SR → Prop
  | .nx E => I E
  | .ct E => I E
  | .bk E => Post (.nx E)
  | .rt s E => Post (.rt s E)
  | _ => False
theorem forI_ind {bt : D → SE → Option SE} {b : SE → SR} (I : Nat → SE → Prop) (Post : SR → Prop) (ds : List D) (step : ∀ i E d, ds[i]? = some d → I i E → ∃ E1, bt d E = some E1 ∧ TurnOk (I (i + 1)) Post (b E1)) (stop : ∀ E, I ds.length E → Post (.nx E)) :
    ∀ E, I 0 E → Post (forI bt b ds E) := by
  have go : ∀ k (r : List D), k ≤ ds.length → ds.drop k = r → ∀ E, I k E → Post (forI bt b r E) := by
    intro k r
    induction r generalizing k with
    | nil =>
      intro hk2 h E i
      have hk : ds.length ≤ k := by
        have := congrArg List.length h; simp at this; omega
      have : k = ds.length := by omega
      subst this
      rw [forI]; exact stop E i
    | cons d r ih =>
      intro hk2 h E i
      have hd : ds[k]? = some d := by
        have := congrArg (·[0]?) h
        simpa using this
      have hk3 : k + 1 ≤ ds.length := by
        rcases Nat.lt_or_ge k ds.length with q | q
        · exact q
        · rw [List.getElem?_eq_none q] at hd; cases hd
      have hr : ds.drop (k + 1) = r := by
        rw [← List.drop_drop, h]; rfl
      obtain ⟨E1, e1, t⟩ := step k E d hd i
      rw [forI, e1]
      dsimp only
      cases eb : b E1 with
      | nx E2 => rw [eb] at t; exact ih (k + 1) hk3 hr E2 t
      | ct E2 => rw [eb] at t; exact ih (k + 1) hk3 hr E2 t
      | bk E2 => rw [eb] at t; exact t
      | rt s E2 => rw [eb] at t; exact t
      | exc C x E2 => rw [eb] at t; exact t.elim
      | bad => rw [eb] at t; exact t.elim
  exact fun E i => go 0 ds (Nat.zero_le _) rfl E i
theorem lcI_ind {bt : D → SE → Option SE} {tests : List (M Bool)} {elt : M Sl} {own : List Nat} (I : Nat → List D → SE → Prop) (ds : List D)
    (step : ∀ i acc E d, ds[i]? = some d → I i acc E → ∃ E1 E2 b, bt d (wipeE E own) = some E1 ∧ lcI.allT tests E1 = .ok b E2 ∧
      (b = true → ∃ s E3, elt E2 = .ok s E3 ∧ acc.length < sizeLine ∧ I (i + 1) (acc ++ [s.d]) (wipeE E3 own)) ∧ (b = false → I (i + 1) acc (wipeE E2 own))) :
    ∀ acc E, I 0 acc E → ∃ acc' E', lcI bt tests elt own ds acc E = .ok acc' E' ∧ I ds.length acc' E' := by
  have go : ∀ k (r : List D), k ≤ ds.length → ds.drop k = r → ∀ acc E, I k acc E → ∃ acc' E', lcI bt tests elt own r acc E = .ok acc' E' ∧ I ds.length acc' E' := by
    intro k r
    induction r generalizing k with
    | nil =>
      intro hk2 h acc E i
      have hk : ds.length ≤ k := by
        have := congrArg List.length h; simp at this; omega
      have : k = ds.length := by omega
      subst this
      exact ⟨acc, E, by rw [lcI]; rfl, i⟩
    | cons d r ih =>
      intro hk2 h acc E i
      have hd : ds[k]? = some d := by
        have := congrArg (·[0]?) h
        simpa using this
      have hk3 : k + 1 ≤ ds.length := by
        rcases Nat.lt_or_ge k ds.length with q | q
        · exact q
        · rw [List.getElem?_eq_none q] at hd; cases hd
      have hr : ds.drop (k + 1) = r := by
        rw [← List.drop_drop, h]; rfl
      obtain ⟨E1, E2, b, e1, e2, h1, h2⟩ := step k acc E d hd i
      rw [lcI]
      simp only [e1, e2, s_ok]
      cases b with
      | true =>
        obtain ⟨s, E3, e3, hz, i2⟩ := h1 rfl
        simp only [if_true, e3, s_ok]
        rw [if_pos hz]
        exact ih (k + 1) hk3 hr _ _ i2
      | false =>
        simp only [Bool.false_eq_true, if_false]
        exact ih (k + 1) hk3 hr _ _ (h2 rfl)
  exact fun acc E i => go 0 ds (Nat.zero_le _) rfl acc E i
theorem PotOk.mono {n m : Int} {l : List D} (h : PotOk n l) (hm : n ≤ m) : PotOk m l := by
  obtain ⟨a, b, c, h1, h2, h3, h4, h5⟩ := h
  exact ⟨a, b, c, h1, h2, h3, h4, by omega⟩
/-- traffic of at most 12 ticks -/
theorem traffic_ok {n : Int} {l : List D} (hn : n < 2 ^ 19) (h : PotOk n l) : ∃ (t : List Int) (l' : List D), t.length ≤ 12 ∧ (∀ x ∈ t, 0 ≤ x ∧ x ≤ 60) ∧ PotOk (n + 13) l' ∧
    F10 [.own (.lst l), .val (.int 12)] = .ok (.val (trafD t)) [.own (.lst l'), .val (.int 12)] := by
  obtain ⟨m, l1, hm, p1, e1⟩ := take_ok (u := 13) (by omega) h (by decide)
  have p2 : P10 2 = F2 := rfl
  have p3 : P10 3 = F3 := rfl
  have hlen : ((rngD 0 m).length : Int) = m := by rw [rng_len]; omega
  obtain ⟨acc, E', el, k, t, l2, hk, rfl, rfl, ht1, ht2, hp2⟩ := lcI_ind (bt := bindT (.nm 2)) (tests := evTs P10 CC []) (elt := ev P10 CC (.ty .int [(.call 3 [(.var 0), (.lst [(.int 0), (.int 0), (.int 1), (.int 2), (.int 5), (.int 20), (.int 60)])])])) (own := [2])
    (fun i acc E => ∃ (k : Nat) (t : List Int) (l2 : List D), k = i ∧ acc = t.map .int ∧ E = [.own (.lst l2), .val (.int 12), .no] ∧ t.length = i ∧ (∀ x ∈ t, 0 ≤ x ∧ x ≤ 60) ∧ PotOk (n + 1 + i) l2) (rngD 0 m)
    (fun i acc E d hd ⟨k, t, l2, hk, ea, eE, h1, h2, h3⟩ => by
      subst ea eE
      have hi : (i : Int) < m := by
        rcases Nat.lt_or_ge i (rngD 0 m).length with q | q
        · omega
        · rw [List.getElem?_eq_none q] at hd; cases hd
      have hd2 := List.mem_of_getElem? hd
      obtain ⟨j, _, rfl⟩ := rng_mem hd2
      obtain ⟨x, l3, hx, hp, e⟩ := of_ok (n := n + 1 + i) (xs := [.int 0, .int 0, .int 1, .int 2, .int 5, .int 20, .int 60]) (by omega) h3 (by simp) (by simp)
      obtain ⟨y, rfl, y0, y1⟩ : ∃ y : Int, x = .int y ∧ 0 ≤ y ∧ y ≤ 60 := by
        simp at hx
        rcases hx with rfl | rfl | rfl | rfl | rfl | rfl <;> exact ⟨_, rfl, by decide, by decide⟩
      refine ⟨[.own (.lst l2), .val (.int 12), .val (.int j)], [.own (.lst l2), .val (.int 12), .val (.int j)], true, by simp [bindT, wipeE], by simp [evTs, lcI.allT], fun _ => ⟨vI y, [.own (.lst l3), .val (.int 12), .val (.int j)], ?_, ?_, i + 1, t ++ [y], l3, rfl, by simp [vI, Sl.d], by simp [wipeE], by simp [h1], fun z hz => ?_, by have := hp; rw [show n + 1 + ((i + 1 : Nat) : Int) = n + 1 + i + 1 by omega]; exact this⟩, fun z => by cases z⟩
      · simp [ev, evD, opds, opd, args, callS, evC, popS, p3, e, putBack, vI, Sl.d, tyS, sizeLine_eq]
      · rw [sizeLine_eq]; simp; omega
      · rcases List.mem_append.mp hz with hz | hz
        · exact h2 z hz
        · simp at hz; subst hz; exact ⟨y0, y1⟩) [] [.own (.lst l1), .val (.int 12), .no] ⟨0, [], l1, rfl, rfl, rfl, rfl, by simp, by simpa using p1⟩
  refine ⟨t, l2, by omega, ht2, hp2.mono (by omega), ?_⟩
  have m14 : (12 : Int) + 1 = 13 := by decide
  have c2 : callS F2 [Arg.slot 0, Arg.ex (M.pure (.val (.int 13)))] [.own (.lst l), .val (.int 12), .no] = .ok (.val (.int m)) [.own (.lst l1), .val (.int 12), .no] := by
    simp [callS, evC, popS, e1, putBack, vI]
  have hm2 : -4611686018427387904 ≤ m ∧ m < 4611686018427387904 := by omega
  generalize hE : ev P10 CC (.ty .int [(.call 3 [(.var 0), (.lst [(.int 0), (.int 0), (.int 1), (.int 2), (.int 5), (.int 20), (.int 60)])])]) = elt at el
  unfold F10 B10
  simp only [fnS, exs, ex, ev_ty, opds1, opd_lc, ev_lc, hE]
  simp [bopS, vI, Sl.d, args, callS, evC, popS, p2, e1, putBack, ev, evI, opd, hm2, notOwn, wipeE, el, backE, opds, tyS, trafD]
end Lw
end

section
set_option Elab.async false
set_option linter.all false
set_option maxRecDepth 100000
set_option maxHeartbeats 1000000
/-! K5: a curve drawn -/
namespace Lw
open PySem L2
def Down (c : Cv) : Prop := c.Pairwise fun p q => p.1 < q.1 ∧ q.2 < p.2
/-- what is drawn: at most three pairs -/
def Drawn (c : Cv) : Prop := c ≠ [] ∧ c.length ≤ 3 ∧ (∀ p ∈ c, (0 ≤ p.1 ∧ p.1 ≤ 130) ∧ (0 ≤ p.2 ∧ p.2 ≤ 20)) ∧ Down c
theorem lst_take {Φ : Nat → M Sl} : True := trivial
theorem curve_ok {n : Int} {l : List D} (hn : n < 2 ^ 19) (h : PotOk n l) : ∃ (c : Cv) (l' : List D), Drawn c ∧ PotOk (n + 9) l' ∧
    F4 [.own (.lst l)] = .ok (.val (curveD c)) [.own (.lst l')] := by
  obtain ⟨x, l1, hx, p1, e1⟩ := of_ok (n := n) (xs := [.int 0, .int 1, .int 3, .int 10, .int 40]) (by omega) h (by simp) (by simp)
  obtain ⟨b0, rfl, hb0, hb1⟩ : ∃ y : Int, x = .int y ∧ 0 ≤ y ∧ y ≤ 40 := by
    simp at hx
    rcases hx with rfl | rfl | rfl | rfl | rfl <;> exact ⟨_, rfl, by decide, by decide⟩
  obtain ⟨x, l2, hx, p2, e2⟩ := of_ok (n := n + 1) (xs := [.int 3, .int 8, .int 20]) (by omega) p1 (by simp) (by simp)
  obtain ⟨r0, rfl, hr0, hr1⟩ : ∃ y : Int, x = .int y ∧ 0 ≤ y ∧ y ≤ 20 := by
    simp at hx
    rcases hx with rfl | rfl | rfl <;> exact ⟨_, rfl, by decide, by decide⟩
  obtain ⟨m, l3, hm, p3, e3⟩ := take_ok (u := 3) (by omega) p2 (by decide)
  have q2 : P4 2 = F2 := rfl
  have q3 : P4 3 = F3 := rfl
  have hlen : ((rngD 0 (1 + m)).length : Int) = 1 + m := by rw [rng_len]; omega
  generalize hB : exs P4 CC [.app 3 (.tup [(.ty .int [(.var 1)]), (.ty .int [(.var 2)])]), .par [1, 2] [(.bop .Add (.bop .Add (.var 1) (.int 1)) (.call 2 [(.var 0), (.int 30)])), (.bop .Sub (.bop .Sub (.var 2) (.int 1)) (.call 2 [(.var 0), (.int 3)]))], .ite (.cmp .Lt (.var 2) (.int 0)) [.brk] []] = body
  have loop := forI_ind (bt := bindT (.nm 4)) (b := body)
    (fun i E => ∃ (c : Cv) (l2 : List D) (b r : Int) (s4 : Sl), E = [.own (.lst l2), .val (.int b), .val (.int r), .own (.lst (c.map prD)), s4] ∧ c.length = i ∧ (0 ≤ b ∧ b ≤ 40 + 30 * i) ∧ (0 ≤ r ∧ r ≤ 20) ∧
      (∀ p ∈ c, (0 ≤ p.1 ∧ p.1 < b) ∧ (r < p.2 ∧ p.2 ≤ 20)) ∧ Down c ∧ PotOk (n + 3 + 2 * i) l2)
    (fun R => ∃ (c : Cv) (l2 : List D) (s1 s2 s4 : Sl), R = .nx [.own (.lst l2), s1, s2, .own (.lst (c.map prD)), s4] ∧ Drawn c ∧ PotOk (n + 9) l2) (rngD 0 (1 + m))
    (fun i E d hd ⟨c, l2, b, r, s4, eE, h1, h2, h3, h4, h5, h6⟩ => by
      subst eE
      have hi : (i : Int) < 1 + m := by
        rcases Nat.lt_or_ge i (rngD 0 (1 + m)).length with q | q
        · omega
        · rw [List.getElem?_eq_none q] at hd; cases hd
      obtain ⟨j, _, rfl⟩ := rng_mem (List.mem_of_getElem? hd)
      obtain ⟨d1, l3, hd1, t1, f1⟩ := take_ok (u := 30) (by omega) h6 (by decide)
      obtain ⟨d2, l4, hd2, t2, f2⟩ := take_ok (u := 3) (by omega) t1 (by decide)
      refine ⟨[.own (.lst l2), .val (.int b), .val (.int r), .own (.lst (c.map prD)), .val (.int j)], by simp [bindT], ?_⟩
      have small : List.length c < 16777216 := by omega
      have eb : body [.own (.lst l2), .val (.int b), .val (.int r), .own (.lst (c.map prD)), .val (.int j)] = if r - 1 - d2 < 0 then .bk [.own (.lst l4), .val (.int (b + 1 + d1)), .val (.int (r - 1 - d2)), .own (.lst ((c ++ [(b, r)]).map prD)), .val (.int j)] else .nx [.own (.lst l4), .val (.int (b + 1 + d1)), .val (.int (r - 1 - d2)), .own (.lst ((c ++ [(b, r)]).map prD)), .val (.int j)] := by
        rw [← hB]
        by_cases hlt : r - 1 - d2 < 0 <;>
        simp [exs, ex, ev, evT, evD, evC, opds, opd, args, isOwnL, updS, appD, putAll, putS, callS, popS, q2, f1, f2, putBack, putBack_ex, bopS, cmpS, tyS, truthD, vI, vB, Sl.d, sizeLine_eq, small, prD, SR.then, hlt]
      rw [eb]
      have down : Down (c ++ [(b, r)]) := by
        refine List.pairwise_append.mpr ⟨h5, by simp, fun p hp q hq => ?_⟩
        simp at hq; subst hq
        have := h4 p hp
        exact ⟨this.1.2, this.2.1⟩
      split
      · refine ⟨c ++ [(b, r)], l4, _, _, _, rfl, ⟨by simp, by simp; omega, fun p hp => ?_, down⟩, t2.mono (by omega)⟩
        rcases List.mem_append.mp hp with hp | hp
        · have := h4 p hp; omega
        · simp at hp; subst hp; simp; omega
      · refine ⟨c ++ [(b, r)], l4, b + 1 + d1, r - 1 - d2, _, rfl, by simp [h1], by omega, by omega, fun p hp => ?_, down, t2.mono (by omega)⟩
        rcases List.mem_append.mp hp with hp | hp
        · have := h4 p hp; omega
        · simp at hp; subst hp; simp; omega)
    (fun E ⟨c, l2, b, r, s4, eE, h1, h2, h3, h4, h5, h6⟩ => ⟨c, l2, .val (.int b), .val (.int r), s4, by rw [eE], ⟨by intro z; subst z; simp at h1; omega, by omega, fun p hp => by have := h4 p hp; omega, h5⟩, h6.mono (by omega)⟩)
    [.own (.lst l3), .val (.int b0), .val (.int r0), .own (.lst []), .no] ⟨[], l3, b0, r0, .no, rfl, rfl, by omega, by omega, by simp, .nil, p3.mono (by omega)⟩
  obtain ⟨c, l4, s1, s2, s4, el, hc, hp⟩ := loop
  refine ⟨c, l4, hc, hp, ?_⟩
  have hm2 : -4611686018427387904 ≤ 1 + m ∧ 1 + m < 4611686018427387904 := by omega
  unfold F4 B4
  have x1 : ∀ (a : S) (r : List S) (E : SE), exs P4 CC (a :: r) E = (ex P4 CC a E).then (exs P4 CC r) := fun a r E => by rw [exs]
  have x2 : ∀ (tg : Tgt) (it : E) (a : List S) (E : SE), ex P4 CC (.for_ tg it a) E = .of (evI P4 CC it E) fun ds => forI (bindT tg) (exs P4 CC a) ds := fun _ _ _ _ => by rw [ex]
  have x3 : ex P4 CC (.par [1, 2, 3] [(.call 3 [(.var 0), (.lst [(.int 0), (.int 1), (.int 3), (.int 10), (.int 40)])]), (.call 3 [(.var 0), (.lst [(.int 3), (.int 8), (.int 20)])]), (.lst [])]) [.own (.lst l), .no, .no, .no, .no] = .nx [.own (.lst l2), .val (.int b0), .val (.int r0), .own (.lst []), .no] := by
    simp [ex, ev, evD, evC, args, callS, popS, q3, e1, e2, putBack, putAll, putS, vI, Sl.d, sizeLine_eq, SR.then]
  have x4 : evI P4 CC (.rng1 (.bop .Add (.int 1) (.call 2 [(.var 0), (.int 3)]))) [.own (.lst l2), .val (.int b0), .val (.int r0), .own (.lst []), .no] = .ok (rngD 0 (1 + m)) [.own (.lst l3), .val (.int b0), .val (.int r0), .own (.lst []), .no] := by
    simp [evI, ev, opd, args, evC, callS, popS, q2, e3, putBack, bopS, vI, Sl.d, hm2]
  simp only [fnS, List.length_cons, List.length_nil, List.replicate, List.append, List.cons_append, List.nil_append, x1, x3, SR.then, x2, x4, SR.of, hB, el]
  simp [exs, ex, ev, opds, opd, tyS, wipeE, curveD, Sl.d]
end Lw
end

section
set_option Elab.async false
set_option linter.all false
set_option maxRecDepth 100000
set_option maxHeartbeats 1000000
/-! K6: what is a curve, a traffic -/
namespace Lw
open PySem L2
structure Curve (c : Cv) : Prop where
  ne : c ≠ []
  len : c.length ≤ 8
  small : Small c
  down : Down c
theorem Drawn.curve {c : Cv} (h : Drawn c) : Curve c := ⟨h.1, by have := h.2.1; omega, fun p hp => by have := h.2.2.1 p hp; omega, h.2.2.2⟩
theorem ev_zip_down {c : Cv} (h : Down c) : ∀ x ∈ (c.zip (c.drop 1)), x.1.1 < x.2.1 ∧ x.2.2 < x.1.2 := by
  induction c with
  | nil => intro x hx; simp at hx
  | cons p c ih =>
    intro x hx
    cases c with
    | nil => simp at hx
    | cons q c =>
      rw [Down, List.pairwise_cons] at h
      simp only [List.drop_succ_cons, List.drop_zero, List.zip_cons_cons, List.mem_cons] at hx
      rcases hx with rfl | hx
      · exact h.1 q List.mem_cons_self
      · exact ih h.2 x (by simpa using hx)
theorem zipD_map (a b : Cv) : zipD (a.map prD) (b.map prD) = (a.zip b).map fun x => D.tup [prD x.1, prD x.2] := by
  unfold zipD
  rw [List.zip_map, List.map_map]
  rfl
theorem x_exs1 (Φ : Nat → M Sl) (C : Nat → D) (a : S) (r : List S) (E : SE) : exs Φ C (a :: r) E = (ex Φ C a E).then (exs Φ C r) := by rw [exs]
theorem x_exs0 (Φ : Nat → M Sl) (C : Nat → D) (E : SE) : exs Φ C [] E = .nx E := by rw [exs]
theorem x_for (Φ : Nat → M Sl) (C : Nat → D) (tg : Tgt) (it : E) (a : List S) (E : SE) : ex Φ C (.for_ tg it a) E = .of (evI Φ C it E) fun ds => forI (bindT tg) (exs Φ C a) ds := by rw [ex]
theorem x_set (Φ : Nat → M Sl) (C : Nat → D) (i : Nat) (e : E) (E : SE) : ex Φ C (.set i e) E = .of (ev Φ C e E) fun s => putS i s := by rw [ex]
theorem x_ret (Φ : Nat → M Sl) (C : Nat → D) (e : E) (E : SE) : ex Φ C (.ret e) E = .of (ev Φ C e E) .rt := by rw [ex]
theorem x_ite (Φ : Nat → M Sl) (C : Nat → D) (c : E) (a b : List S) (E : SE) : ex Φ C (.ite c a b) E = .of (evT Φ C c E) fun k => if k then exs Φ C a else exs Φ C b := by rw [ex]
/-- all of the pairs of neighbours go down -/
theorem all_down (Φ : Nat → M Sl) {c : Cv} (h : Curve c) {s1 : Sl} (hs : ∀ d, s1 ≠ .own d) : ev Φ CC (.bi .all [(.lc (.andV (.cmp .Lt (.idx (.var 2) (.int 0)) (.idx (.var 3) (.int 0))) (.cmp .Gt (.idx (.var 2) (.int 1)) (.idx (.var 3) (.int 1)))) (.tup [(.nm 2), (.nm 3)]) (.zip (.fz 0) (.slc (.var 0) (.int 1) .non)) [] [2, 3])]) [.val (curveD c), s1, .no, .no] = .ok (vB true) [.val (curveD c), s1, .no, .no] := by
  generalize hE : ev Φ CC (.andV (.cmp .Lt (.idx (.var 2) (.int 0)) (.idx (.var 3) (.int 0))) (.cmp .Gt (.idx (.var 2) (.int 1)) (.idx (.var 3) (.int 1)))) = elt
  have lc := lcI_mapG (bt := bindT (.tup [.nm 2, .nm 3])) (tests := evTs Φ CC []) (elt := elt) (own := [2, 3]) (W := [.val (curveD c), s1, .no, .no]) (g := fun x => D.tup [prD x.1, prD x.2]) (f := fun _ => .bl true) (by simp [wipeE]) (c.zip (c.drop 1)) [] (by rw [sizeLine_eq]; simp; have := h.len; omega) (fun x hx => by
    have hd := ev_zip_down h.down x hx
    refine ⟨[.val (curveD c), s1, .val (prD x.1), .val (prD x.2)], [.val (curveD c), s1, .val (prD x.1), .val (prD x.2)], [.val (curveD c), s1, .val (prD x.1), .val (prD x.2)], vB true, by simp [bindT, bindTs], by simp [evTs, lcI.allT], ?_, rfl, by simp [wipeE]⟩
    rw [← hE]
    simp [ev, opd, ixS, prD, cmpS, vB, vI, Sl.d, atI, ixN, hd.1, hd.2])
  have hz : cutD (c.map prD) (some 1) none = (c.drop 1).map prD := by
    have hn := h.ne
    cases c with
    | nil => exact absurd rfl hn
    | cons p c =>
      simp [cutD, HT.sIx]
      exact List.take_of_length_le (by simp)
  have hb := blsOf_true ((c.zip (c.drop 1)).map fun _ => D.bl true) fun d hd => by obtain ⟨_, _, e⟩ := List.mem_map.mp hd; exact e.symm
  simp only [ev, opds1, opd_lc, ev_lc, hE]
  simp [evI, ev, evC, opd, opds, fzS, curveD, itemsD, slP, partO, isNonE, partD, slS, hz, zipD_map, notOwn, wipeE, vI, Sl.d]
  have zt : zipD (c.map prD) (c.map prD).tail = (c.zip (c.drop 1)).map fun x => D.tup [prD x.1, prD x.2] := by
    rw [← zipD_map]; congr 1
    rw [List.drop_one, List.map_tail]
  rw [zt]
  simp only [curveD, List.nil_append] at lc
  rw [lc]
  simp only [s_ok, biS, hb, Option.map_some, s_some, s_pure]
  rw [show (((c.zip (c.drop 1)).map fun _ => D.bl true).map fun _ => true).all id = true from List.all_eq_true.mpr fun b hb => by obtain ⟨_, _, rfl⟩ := List.mem_map.mp hb; rfl]
  simp [backE, vB]
end Lw
end

section
set_option Elab.async false
set_option linter.all false
set_option maxRecDepth 100000
set_option maxHeartbeats 1000000
/-! K7: is_curve, is_traffic, the looks -/
namespace Lw
open PySem L2
theorem isiT (xs : List D) : isiD (.tup xs) "tuple" = some true := by simp [isiD, tyD, isiTys, isiS]
theorem shaped_int (i : Int) : SeqAt.shaped (.int i) = true := by simp [SeqAt.shaped, PyData.canLay0, PyData.depth]
theorem shaped_str {x : Str} (h : PyData.strOk x = true) : SeqAt.shaped (.str x) = true := by simp [SeqAt.shaped, PyData.canLay0, PyData.depth, h]
theorem eqD_int (a b : Int) : eqD (.int a) (.int b) = some (a == b) := by simp [eqD, okD, D.py, shaped_int, PyData.eqv]
theorem eqD_str {a b : Str} (ha : PyData.strOk a = true) (hb : PyData.strOk b = true) : eqD (.str a) (.str b) = some (a == b) := by simp [eqD, okD, D.py, shaped_str ha, shaped_str hb, PyData.eqv]
theorem is_int34 : F34 = fnS P34 CC 3 [] B5 := rfl
theorem is_int_gen (Φ : Nat → M Sl) (v lo hi : Int) : fnS Φ CC 3 [] B5 [.val (.int v), .val (.int lo), .val (.int hi)] = .ok (vB (decide (lo ≤ v) && decide (v ≤ hi))) [.val (.int v), .val (.int lo), .val (.int hi)] := by
  unfold B5
  by_cases h : lo ≤ v <;> simp [fnS, exs, ex, ev, opd, opds, biS, isiD, tyD, isiTys, isiS, vB, vI, Sl.d, cmpS, wipeE, h]
theorem is_curve_ok {c : Cv} (h : Curve c) : F6 [.val (curveD c)] = .ok (vB true) [.val (curveD c)] := by
  have q5 : P6 5 = F5 := rfl
  have l1 : (1 : Int) ≤ (c.length : Int) := by have := List.length_pos_iff.mpr h.ne; omega
  have l2 : (c.length : Int) ≤ 8 := by have := h.len; omega
  have e5 : ∀ v lo hi : Int, F5 [.val (.int v), .val (.int lo), .val (.int hi)] = .ok (vB (decide (lo ≤ v) && decide (v ≤ hi))) [.val (.int v), .val (.int lo), .val (.int hi)] := is_int_gen P5
  generalize hB : exs P6 CC [.ite (.orV (.notV (.bi .isinstance [(.var 1), (.tyc "tuple")])) (.cmp .NotEq (.bi .len [(.var 1)]) (.int 2))) [.ret (.bl false)] [], .ite (.orV (.notV (.call 5 [(.idx (.var 1) (.int 0)), (.int 0), (.cst 2)])) (.notV (.call 5 [(.idx (.var 1) (.int 1)), (.int 0), (.cst 1)]))) [.ret (.bl false)] []] = body
  have loop := forI_ind (bt := bindT (.nm 1)) (b := body) (fun i E => ∃ s1, (∀ d, s1 ≠ .own d) ∧ E = [.val (curveD c), s1, .no, .no]) (fun R => ∃ s1, (∀ d, s1 ≠ .own d) ∧ R = .nx [.val (curveD c), s1, .no, .no]) (c.map prD)
    (fun i E d hd ⟨s1, hs, eE⟩ => by
      subst eE
      obtain ⟨p, hp, rfl⟩ := List.mem_map.mp (List.mem_of_getElem? hd)
      have hb := h.small p hp
      refine ⟨[.val (curveD c), .val (prD p), .no, .no], by simp [bindT], ?_⟩
      have eb : body [.val (curveD c), .val (prD p), .no, .no] = .nx [.val (curveD c), .val (prD p), .no, .no] := by
        rw [← hB]
        have b1 : decide (0 ≤ p.1) = true := decide_eq_true hb.1.1
        have b2 : decide (p.1 ≤ 400) = true := decide_eq_true hb.1.2
        have b3 : decide (0 ≤ p.2) = true := decide_eq_true hb.2.1
        have b4 : decide (p.2 ≤ 100) = true := decide_eq_true hb.2.2
        simp [exs, ex, ev, evT, opds, opd, args, biS, prD, isiT, lenD, cmpS, eqD_int, truthD, callS, evC, ixS, atI, ixN, q5, e5, b1, b2, b3, b4, putBack, putBack_ex, vI, vB, Sl.d, CC, SR.then, hb.1.1, hb.1.2, hb.2.1, hb.2.2]
      rw [eb]
      exact ⟨.val (prD p), fun d => by simp, rfl⟩) (fun E ⟨s1, hs, eE⟩ => ⟨s1, hs, by rw [eE]⟩) [.val (curveD c), .no, .no, .no] ⟨.no, fun d => by simp, rfl⟩
  obtain ⟨s1, hs, el⟩ := loop
  have ad := all_down P6 h hs
  have t1 : evT P6 CC (.orV (.notV (.bi .isinstance [(.var 0), (.tyc "tuple")])) (.notV (.chn .LtE .LtE (.int 1) (.bi .len [(.var 0)]) (.cst 0)))) [.val (curveD c), .no, .no, .no] = .ok false [.val (curveD c), .no, .no, .no] := by
    simp [evT, ev, opd, opds, biS, curveD, isiT, lenD, cmpS, truthD, vI, vB, Sl.d, CC, l1, l2]
  have t2 : evI P6 CC (.fz 0) [.val (curveD c), .no, .no, .no] = .ok (c.map prD) [.val (curveD c), .no, .no, .no] := by
    simp [evI, ev, fzS, itemsD, curveD, Sl.d]
  unfold F6 B6
  simp only [fnS, List.length_cons, List.length_nil, List.replicate, List.append, List.cons_append, List.nil_append, x_exs1, x_exs0, x_ite, x_for, x_ret, t1, t2, SR.of, hB, el, ad, Bool.false_eq_true, if_false, SR.then]
  simp [wipeE, vB]
theorem look_curve_ok {c : Cv} (h : Curve c) : F7 [.val (curveD c)] = .ok (.val .non) [.val (curveD c)] := by
  have q6 : P7 6 = F6 := rfl
  unfold F7 B7
  simp [fnS, exs, ex, ev, evT, opds, opd, args, callS, evC, q6, is_curve_ok h, putBack, popS, truthD, vB, Sl.d, wipeE, SR.then]
/-- a traffic -/
structure Traf (t : List Int) : Prop where
  len : t.length ≤ 500
  small : ∀ x ∈ t, 0 ≤ x ∧ x ≤ 1000
theorem is_traffic_ok {t : List Int} (h : Traf t) : F12 [.val (trafD t)] = .ok (vB true) [.val (trafD t)] := by
  have q5 : P12 5 = F5 := rfl
  have l2 : (t.length : Int) ≤ 500 := by have := h.len; omega
  have e5 : ∀ v lo hi : Int, F5 [.val (.int v), .val (.int lo), .val (.int hi)] = .ok (vB (decide (lo ≤ v) && decide (v ≤ hi))) [.val (.int v), .val (.int lo), .val (.int hi)] := is_int_gen P5
  generalize hE : ev P12 CC (.call 5 [(.var 1), (.int 0), (.cst 3)]) = elt
  have lc := lcI_mapG (bt := bindT (.nm 1)) (tests := evTs P12 CC []) (elt := elt) (own := [1]) (W := [.val (trafD t), .no]) (g := D.int) (f := fun _ => .bl true) (by simp [wipeE]) t [] (by rw [sizeLine_eq]; simp; omega) (fun x hx => by
    have hd := h.small x hx
    have b1 : decide (0 ≤ x) = true := decide_eq_true hd.1
    have b2 : decide (x ≤ 1000) = true := decide_eq_true hd.2
    refine ⟨[.val (trafD t), .val (.int x)], [.val (trafD t), .val (.int x)], [.val (trafD t), .val (.int x)], vB true, by simp [bindT], by simp [evTs, lcI.allT], ?_, rfl, by simp [wipeE]⟩
    rw [← hE]
    simp [ev, args, callS, evC, popS, q5, e5, putBack, CC, vI, vB, hd.1, hd.2])
  have hb := blsOf_true (t.map fun _ => D.bl true) fun d hd => by obtain ⟨_, _, e⟩ := List.mem_map.mp hd; exact e.symm
  have all : ev P12 CC (.bi .all [(.lc (.call 5 [(.var 1), (.int 0), (.cst 3)]) (.nm 1) (.fz 0) [] [1])]) [.val (trafD t), .no] = .ok (vB true) [.val (trafD t), .no] := by
    simp only [ev, opds1, opd_lc, ev_lc, hE]
    simp only [trafD, List.nil_append] at lc
    simp [evI, ev, opd, opds, fzS, trafD, itemsD, notOwn, wipeE, vI, Sl.d]
    simp only [lc, s_ok, biS, hb, Option.map_some, s_some, s_pure]
    rw [show ((t.map fun _ => D.bl true).map fun _ => true).all id = true from List.all_eq_true.mpr fun b hb => by obtain ⟨_, _, rfl⟩ := List.mem_map.mp hb; rfl]
    simp [backE, vB]
  have c1 : ev P12 CC (.bi .isinstance [(.var 0), (.tyc "tuple")]) [.val (trafD t), .no] = .ok (vB true) [.val (trafD t), .no] := by
    simp [ev, opds, opd, biS, trafD, isiT, Sl.d]
  have c2 : ev P12 CC (.cmp .LtE (.bi .len [(.var 0)]) (.cst 4)) [.val (trafD t), .no] = .ok (vB true) [.val (trafD t), .no] := by
    simp [ev, opds, opd, biS, trafD, lenD, cmpS, CC, l2, vI, Sl.d]
  have eA : ∀ a b : E, ev P12 CC (.andV a b) = M.bind (ev P12 CC a) fun s => match s with | .val (.bl true) => ev P12 CC b | .val (.bl false) => M.pure (vB false) | _ => M.bad := fun a b => by rw [ev] <;> rfl
  unfold F12 B12
  simp only [fnS, List.length_cons, List.length_nil, List.replicate, List.append, List.cons_append, List.nil_append, x_exs1, x_exs0, x_ret, eA, s_bind, c1, c2, s_ok, vB]
  simp only [vB] at all
  simp [c1, c2, all, vB, wipeE]
theorem look_traffic_ok {t : List Int} (h : Traf t) : F13 [.val (trafD t)] = .ok (.val .non) [.val (trafD t)] := by
  have q6 : P13 12 = F12 := rfl
  unfold F13 B13
  simp [fnS, exs, ex, ev, evT, opds, opd, args, callS, evC, q6, is_traffic_ok h, putBack, popS, truthD, vB, Sl.d, wipeE, SR.then]
theorem told_at_ok {c : Cv} {t : Int} (h : Curve c) (ht : t < 2 ^ 31) : F14 [.val (curveD c), .val (.int t)] = .ok (vI (letZ c t)) [.val (curveD c), .val (.int t)] :=
  let_gen P14 h.ne h.small (by have := h.len; omega) ht
theorem let_ok {c : Cv} {t : Int} (h : Curve c) (ht : t < 2 ^ 31) : F0 [.val (curveD c), .val (.int t)] = .ok (vI (letZ c t)) [.val (curveD c), .val (.int t)] :=
  let_gen P0 h.ne h.small (by have := h.len; omega) ht
theorem let_in_ok {c : Cv} {t : Int} (h : Curve c) (h0 : 0 ≤ t) (ht : t ≤ 1000000) : F26 [.val (curveD c), .val (.int t)] = .ok (vI (letZ c t)) [.val (curveD c), .val (.int t)] := by
  have q5 : P26 5 = F5 := rfl
  have q7 : P26 7 = F7 := rfl
  have q14 : P26 14 = F14 := rfl
  have e5 : ∀ v lo hi : Int, F5 [.val (.int v), .val (.int lo), .val (.int hi)] = .ok (vB (decide (lo ≤ v) && decide (v ≤ hi))) [.val (.int v), .val (.int lo), .val (.int hi)] := is_int_gen P5
  have p6 : (Builtin.Int.intBits 10 : Int) * 6 ≤ 134217728 := by decide +kernel
  unfold F26 B26
  simp [fnS, exs, ex, ev, evT, opds, opd, args, callS, evC, q5, q7, q14, e5, look_curve_ok h, told_at_ok h (show t < 2 ^ 31 by omega), putBack, putBack_ex, popS, truthD, bopS, p6, h0, ht, vB, vI, Sl.d, wipeE, SR.then]
end Lw
end

section
set_option Elab.async false
set_option linter.all false
set_option maxRecDepth 100000
set_option maxHeartbeats 1000000
/-! K8: where there is too much -/
namespace Lw
open PySem L2
theorem cut_nat {α : Type} {xs : List α} {s m : Nat} (h : s + m ≤ xs.length) : cutD xs (some (s : Int)) (some ((s : Int) + (m : Int))) = (xs.drop s).take m := by
  unfold cutD
  have e1 : HT.sIx xs.length 0 (some (s : Int)) = s := by rw [HT.sIx_nat]; omega
  have e2 : HT.sIx xs.length xs.length (some ((s : Int) + (m : Int))) = s + m := by
    rw [← Int.natCast_add, HT.sIx_nat]; omega
  rw [e1, e2]; congr 1; omega
/-- pairs that need not go down -/
structure Cv0 (c : Cv) : Prop where
  ne : c ≠ []
  len : c.length ≤ 1000
  small : Small c
theorem Curve.cv0 {c : Cv} (h : Curve c) : Cv0 c := ⟨h.ne, by have := h.len; omega, h.small⟩
theorem let0_ok {c : Cv} {t : Int} (h : Cv0 c) (ht : t < 2 ^ 31) : F0 [.val (curveD c), .val (.int t)] = .ok (vI (letZ c t)) [.val (curveD c), .val (.int t)] :=
  let_gen P0 h.ne h.small h.len ht
def sumZ (t : List Int) (s m : Nat) : Int := ((t.drop s).take m).sum
def hit (c : Cv) (t : List Int) (s m : Nat) : Option (Int × Int) := if letZ c (1 + (m : Int)) < sumZ t s (m + 1) then some ((s : Int), 1 + (m : Int)) else none
def rowTo (c : Cv) (t : List Int) (s j : Nat) : Cv := (List.range j).filterMap (hit c t s)
def hitsTo (c : Cv) (t : List Int) (i : Nat) : Cv := (List.range i).flatMap fun s => rowTo c t s (t.length - s)
def hits (c : Cv) (t : List Int) : Cv := hitsTo c t t.length
theorem row_succ (c : Cv) (t : List Int) (s j : Nat) : rowTo c t s (j + 1) = rowTo c t s j ++ (hit c t s j).toList := by
  unfold rowTo
  rw [List.range_succ, List.filterMap_append]
  cases h : hit c t s j <;> simp [h]
theorem hits_succ (c : Cv) (t : List Int) (i : Nat) : hitsTo c t (i + 1) = hitsTo c t i ++ rowTo c t i (t.length - i) := by
  unfold hitsTo
  rw [List.range_succ, List.flatMap_append]
  simp only [List.flatMap_cons, List.flatMap_nil, List.append_nil]
theorem row_len (c : Cv) (t : List Int) (s j : Nat) : (rowTo c t s j).length ≤ j := by
  unfold rowTo
  exact Nat.le_trans (List.length_filterMap_le _ _) (by simp)
theorem hits_len (c : Cv) (t : List Int) : ∀ i, (hitsTo c t i).length ≤ i * t.length
  | 0 => by simp [hitsTo]
  | i + 1 => by
    rw [hits_succ, List.length_append, Nat.succ_mul]
    have := hits_len c t i
    have := row_len c t i (t.length - i)
    omega
theorem rng2_get {a b : Int} {i : Nat} {d : D} (h : (rngD a b)[i]? = some d) : d = .int (a + i) ∧ (i : Int) < b - a := by
  unfold rngD at h
  rw [List.getElem?_map] at h
  rcases Nat.lt_or_ge i (b - a).toNat with q | q
  · rw [List.getElem?_range q] at h
    cases h
    exact ⟨rfl, by omega⟩
  · rw [List.getElem?_eq_none (by simpa using q)] at h; cases h
theorem rng_len2 (a b : Int) : (rngD a b).length = (b - a).toNat := by simp [rngD]
theorem bound_of {x : Int} (h0 : 0 ≤ x) (h1 : x ≤ 1000000) : -4611686018427387904 ≤ x ∧ x < 4611686018427387904 := ⟨Int.le_trans (by decide) h0, Int.lt_of_le_of_lt h1 (by decide)⟩
def inS : List S := [.ite (.cmp .Gt (.bi .sum [(.slc (.var 1) (.var 3) (.bop .Add (.var 3) (.var 4)))]) (.call 0 [(.var 0), (.var 4)])) [.app 2 (.tup [(.fz 3), (.fz 4)])] []]
def outS : List S := [.for_ (.nm 4) (.rng2 (.int 1) (.bop .Add (.bop .Sub (.bi .len [(.var 1)]) (.var 3)) (.int 1))) inS]
/-- a turn of the inner loop -/
theorem inner_ok {c : Cv} {t : List Int} {i j : Nat} {xs : Cv} (hc : Cv0 c) (hij : i + j + 1 ≤ t.length) (ht : t.length ≤ 500) (small : xs.length < 16777216) :
    exs P11 CC inS [.val (curveD c), .val (trafD t), .own (.lst (xs.map prD)), .val (.int i), .val (.int (1 + j))] = .nx [.val (curveD c), .val (trafD t), .own (.lst ((xs ++ (hit c t i j).toList).map prD)), .val (.int i), .val (.int (1 + j))] := by
  have q0 : P11 0 = F0 := rfl
  have cut : cutD (t.map D.int) (some (i : Int)) (some ((i : Int) + (1 + (j : Int)))) = ((t.drop i).take (j + 1)).map D.int := by
    have := cut_nat (xs := t.map D.int) (s := i) (m := j + 1) (by simp; omega)
    rw [show (i : Int) + (1 + (j : Int)) = (i : Int) + ((j + 1 : Nat) : Int) by omega, this]
    simp
  have ei : intsOf (List.take (j + 1) (List.drop i (List.map D.int t))) = some ((t.drop i).take (j + 1)) := by
    rw [← List.map_drop, ← List.map_take, intsOf_ints]
  have lo := let0_ok (t := 1 + (j : Int)) hc (by omega)
  have test : evT P11 CC (.cmp .Gt (.bi .sum [(.slc (.var 1) (.var 3) (.bop .Add (.var 3) (.var 4)))]) (.call 0 [(.var 0), (.var 4)])) [.val (curveD c), .val (trafD t), .own (.lst (xs.map prD)), .val (.int i), .val (.int (1 + j))] = .ok (decide (letZ c (1 + j) < sumZ t i (j + 1))) [.val (curveD c), .val (trafD t), .own (.lst (xs.map prD)), .val (.int i), .val (.int (1 + j))] := by
    simp [evT, ev, opds, opd, args, biS, slP, partO, isNonE, partD, slS, trafD, cut, ei, callS, evC, popS, q0, lo, putBack, bopS, cmpS, truthD, vI, vB, Sl.d, sumZ]
    rfl
  unfold inS
  simp only [x_exs1, x_ite, test, SR.of, x_exs0]
  by_cases hh : letZ c (1 + j) < sumZ t i (j + 1)
  · have hit1 : hit c t i j = some ((i : Int), 1 + (j : Int)) := if_pos hh
    simp [hh, hit1, exs, ex, ev, evD, isOwnL, updS, appD, fzS, small, sizeLine_eq, prD, Sl.d, SR.then]
  · have hit1 : hit c t i j = none := if_neg hh
    simp [hh, hit1, exs, SR.then]
theorem small_hits {c : Cv} {t : List Int} {i j : Nat} (hi : i ≤ 500) (hj : j ≤ 500) (ht : t.length ≤ 500) : (hitsTo c t i ++ rowTo c t i j).length < 16777216 := by
  rw [List.length_append]
  have h1 := hits_len c t i
  have h2 := row_len c t i j
  have h3 : i * t.length ≤ 500 * 500 := Nat.mul_le_mul hi ht
  have h4 : (500 : Nat) * 500 = 250000 := by decide
  omega
theorem outer_ok {c : Cv} {t : List Int} {i : Nat} {s4 : Sl} (hc : Cv0 c) (ht : t.length ≤ 500) (hi : i < t.length) :
    ∃ s5, exs P11 CC outS [.val (curveD c), .val (trafD t), .own (.lst ((hitsTo c t i).map prD)), .val (.int i), s4] = .nx [.val (curveD c), .val (trafD t), .own (.lst ((hitsTo c t (i + 1)).map prD)), .val (.int i), s5] := by
  have il := forI_ind (bt := bindT (.nm 4)) (b := exs P11 CC inS) (fun j E => ∃ s4, E = [.val (curveD c), .val (trafD t), .own (.lst ((hitsTo c t i ++ rowTo c t i j).map prD)), .val (.int i), s4])
    (fun R => ∃ s4, R = .nx [.val (curveD c), .val (trafD t), .own (.lst ((hitsTo c t (i + 1)).map prD)), .val (.int i), s4]) (rngD 1 ((t.length : Int) - i + 1))
    (fun j E d hd ⟨s4, eE⟩ => by
      subst eE
      obtain ⟨rfl, hj⟩ := rng2_get hd
      refine ⟨[.val (curveD c), .val (trafD t), .own (.lst ((hitsTo c t i ++ rowTo c t i j).map prD)), .val (.int i), .val (.int (1 + j))], by simp [bindT], ?_⟩
      rw [inner_ok hc (by omega) ht (small_hits (by omega) (by omega) ht)]
      exact ⟨.val (.int (1 + j)), by rw [row_succ, List.append_assoc]⟩)
    (fun E ⟨s4, eE⟩ => ⟨s4, by rw [eE, hits_succ, rng_len2, show ((t.length : Int) - i + 1 - 1).toNat = t.length - i by omega]⟩)
    [.val (curveD c), .val (trafD t), .own (.lst ((hitsTo c t i).map prD)), .val (.int i), s4] ⟨s4, by simp [rowTo]⟩
  obtain ⟨s5, el⟩ := il
  have hm : (-4611686018427387904 ≤ (t.length : Int) - i + 1 ∧ (t.length : Int) - i + 1 < 4611686018427387904) := bound_of (by omega) (by omega)
  have er : evI P11 CC (.rng2 (.int 1) (.bop .Add (.bop .Sub (.bi .len [(.var 1)]) (.var 3)) (.int 1))) [.val (curveD c), .val (trafD t), .own (.lst ((hitsTo c t i).map prD)), .val (.int i), s4] = .ok (rngD 1 ((t.length : Int) - i + 1)) [.val (curveD c), .val (trafD t), .own (.lst ((hitsTo c t i).map prD)), .val (.int i), s4] := by
    simp [evI, ev, opds, opd, biS, lenD, trafD, bopS, vI, Sl.d, hm]
  refine ⟨s5, ?_⟩
  unfold outS
  simp only [x_exs1, x_exs0, x_for, er, SR.of, el, SR.then]
theorem outers_ok {c : Cv} {t : List Int} (hc : Cv0 c) (ht : t.length ≤ 500) : ∃ s3 s4, forI (bindT (.nm 3)) (exs P11 CC outS) (rngD 0 t.length) [.val (curveD c), .val (trafD t), .own (.lst []), .no, .no] = .nx [.val (curveD c), .val (trafD t), .own (.lst ((hits c t).map prD)), s3, s4] := by
  refine forI_ind (bt := bindT (.nm 3)) (b := exs P11 CC outS) (fun i E => ∃ s3 s4, E = [.val (curveD c), .val (trafD t), .own (.lst ((hitsTo c t i).map prD)), s3, s4])
    (fun R => ∃ s3 s4, R = .nx [.val (curveD c), .val (trafD t), .own (.lst ((hits c t).map prD)), s3, s4]) (rngD 0 t.length) ?_ ?_ _ ⟨.no, .no, by simp [hitsTo]⟩
  · rintro i E d hd ⟨s3, s4, rfl⟩
    obtain ⟨rfl, hi⟩ := rng2_get hd
    refine ⟨[.val (curveD c), .val (trafD t), .own (.lst ((hitsTo c t i).map prD)), .val (.int i), s4], by simp [bindT], ?_⟩
    obtain ⟨s5, eo⟩ := outer_ok (s4 := s4) hc ht (show i < t.length by omega)
    rw [eo]
    exact ⟨.val (.int i), s5, rfl⟩
  · rintro E ⟨s3, s4, rfl⟩
    have e : (rngD 0 (t.length : Int)).length = t.length := by rw [rng_len2]; omega
    exact ⟨s3, s4, by rw [e]; rfl⟩
theorem range_ok {c : Cv} {t : List Int} (ht : t.length ≤ 500) : evI P11 CC (.rng1 (.bi .len [(.var 1)])) [.val (curveD c), .val (trafD t), .own (.lst []), .no, .no] = .ok (rngD 0 t.length) [.val (curveD c), .val (trafD t), .own (.lst []), .no, .no] := by
  have hm : -4611686018427387904 ≤ (t.length : Int) ∧ (t.length : Int) < 4611686018427387904 := bound_of (by omega) (by omega)
  have hm' : (if -(2 : Int) ^ 62 ≤ (t.length : Int) ∧ (t.length : Int) < 2 ^ 62 then M.pure (rngD 0 (t.length : Int)) else M.bad) = M.pure (rngD 0 (t.length : Int)) := if_pos (by constructor <;> omega)
  have e1 : ev P11 CC (.bi .len [(.var 1)]) [.val (curveD c), .val (trafD t), .own (.lst []), .no, .no] = .ok (.val (.int t.length)) [.val (curveD c), .val (trafD t), .own (.lst []), .no, .no] := by
    simp [ev, opds, opd, biS, lenD, trafD, vI, Sl.d]
  rw [evI, s_bind, e1, s_ok]
  dsimp only
  rw [hm', s_pure]
theorem set0_ok {c : Cv} {t : List Int} : ex P11 CC (.set 2 (.lst [])) [.val (curveD c), .val (trafD t), .no, .no, .no] = .nx [.val (curveD c), .val (trafD t), .own (.lst []), .no, .no] := by
  simp [ex, ev, evD, putS]
theorem ret2_ok {a b s3 s4 : Sl} {xs : List D} : ex P11 CC (.ret (.mv 2)) [a, b, .own (.lst xs), s3, s4] = .rt (.own (.lst xs)) [a, b, .no, s3, s4] := by
  simp [ex, ev, popS]
theorem b11 : B11 = [.set 2 (.lst []), .for_ (.nm 3) (.rng1 (.bi .len [(.var 1)])) outS, .ret (.mv 2)] := rfl
theorem body11 {c : Cv} {t : List Int} (hc : Cv0 c) (ht : t.length ≤ 500) : ∃ s3 s4, exs P11 CC B11 [.val (curveD c), .val (trafD t), .no, .no, .no] = .rt (.own (.lst ((hits c t).map prD))) [.val (curveD c), .val (trafD t), .no, s3, s4] := by
  obtain ⟨s3, s4, el⟩ := outers_ok hc ht
  refine ⟨s3, s4, ?_⟩
  rw [b11, x_exs1, set0_ok]
  show exs P11 CC [.for_ (.nm 3) (.rng1 (.bi .len [(.var 1)])) outS, .ret (.mv 2)] _ = _
  rw [x_exs1, x_for, range_ok ht]
  show (forI (bindT (.nm 3)) (exs P11 CC outS) (rngD 0 t.length) _).then _ = _
  rw [el]
  show exs P11 CC [.ret (.mv 2)] _ = _
  rw [x_exs1, ret2_ok]
  rfl
theorem law_too_much_ok {c : Cv} {t : List Int} (hc : Cv0 c) (ht : t.length ≤ 500) : F11 [.val (curveD c), .val (trafD t)] = .ok (.own (.lst ((hits c t).map prD))) [.val (curveD c), .val (trafD t)] := by
  obtain ⟨s3, s4, e⟩ := body11 hc ht
  have e' : exs P11 CC B11 ([.val (curveD c), .val (trafD t)] ++ List.replicate (5 - [Sl.val (curveD c), .val (trafD t)].length) Sl.no) = _ := e
  unfold F11 fnS
  rw [e']
  rfl
end Lw
end

section
set_option Elab.async false
set_option linter.all false
set_option maxRecDepth 100000
set_option maxHeartbeats 1000000
/-! K9: the law's own look at a curve -/
namespace Lw
open PySem L2
theorem law_is_curve_ok {c : Cv} (h : Curve c) : F35 [.val (curveD c)] = .ok (vB true) [.val (curveD c)] := by
  have q5 : P35 34 = F34 := rfl
  have l1 : (1 : Int) ≤ (c.length : Int) := by have := List.length_pos_iff.mpr h.ne; omega
  have l2 : (c.length : Int) ≤ 8 := by have := h.len; omega
  have e5 : ∀ v lo hi : Int, F34 [.val (.int v), .val (.int lo), .val (.int hi)] = .ok (vB (decide (lo ≤ v) && decide (v ≤ hi))) [.val (.int v), .val (.int lo), .val (.int hi)] := is_int_gen P34
  generalize hB : exs P35 CC [.ite (.orV (.notV (.bi .isinstance [(.var 1), (.tyc "tuple")])) (.orV (.cmp .NotEq (.bi .len [(.var 1)]) (.int 2)) (.notV (.call 34 [(.idx (.var 1) (.int 0)), (.int 0), (.int 400)])))) [.ret (.bl false)] [], .ite (.notV (.call 34 [(.idx (.var 1) (.int 1)), (.int 0), (.int 100)])) [.ret (.bl false)] []] = body
  have loop := forI_ind (bt := bindT (.nm 1)) (b := body) (fun i E => ∃ s1, (∀ d, s1 ≠ .own d) ∧ E = [.val (curveD c), s1, .no, .no]) (fun R => ∃ s1, (∀ d, s1 ≠ .own d) ∧ R = .nx [.val (curveD c), s1, .no, .no]) (c.map prD)
    (fun i E d hd ⟨s1, hs, eE⟩ => by
      subst eE
      obtain ⟨p, hp, rfl⟩ := List.mem_map.mp (List.mem_of_getElem? hd)
      have hb := h.small p hp
      refine ⟨[.val (curveD c), .val (prD p), .no, .no], by simp [bindT], ?_⟩
      have eb : body [.val (curveD c), .val (prD p), .no, .no] = .nx [.val (curveD c), .val (prD p), .no, .no] := by
        rw [← hB]
        have b1 : decide (0 ≤ p.1) = true := decide_eq_true hb.1.1
        have b2 : decide (p.1 ≤ 400) = true := decide_eq_true hb.1.2
        have b3 : decide (0 ≤ p.2) = true := decide_eq_true hb.2.1
        have b4 : decide (p.2 ≤ 100) = true := decide_eq_true hb.2.2
        simp [exs, ex, ev, evT, opds, opd, args, biS, prD, isiT, lenD, cmpS, eqD_int, truthD, callS, evC, ixS, atI, ixN, q5, e5, b1, b2, b3, b4, putBack, putBack_ex, vI, vB, Sl.d, CC, SR.then, hb.1.1, hb.1.2, hb.2.1, hb.2.2]
      rw [eb]
      exact ⟨.val (prD p), fun d => by simp, rfl⟩) (fun E ⟨s1, hs, eE⟩ => ⟨s1, hs, by rw [eE]⟩) [.val (curveD c), .no, .no, .no] ⟨.no, fun d => by simp, rfl⟩
  obtain ⟨s1, hs, el⟩ := loop
  have ad := all_down P35 h hs
  have t1 : evT P35 CC (.orV (.notV (.bi .isinstance [(.var 0), (.tyc "tuple")])) (.notV (.chn .LtE .LtE (.int 1) (.bi .len [(.var 0)]) (.int 8)))) [.val (curveD c), .no, .no, .no] = .ok false [.val (curveD c), .no, .no, .no] := by
    simp [evT, ev, opd, opds, biS, curveD, isiT, lenD, cmpS, truthD, vI, vB, Sl.d, CC, l1, l2]
  have t2 : evI P35 CC (.fz 0) [.val (curveD c), .no, .no, .no] = .ok (c.map prD) [.val (curveD c), .no, .no, .no] := by
    simp [evI, ev, fzS, itemsD, curveD, Sl.d]
  unfold F35 B35
  simp only [fnS, List.length_cons, List.length_nil, List.replicate, List.append, List.cons_append, List.nil_append, x_exs1, x_exs0, x_ite, x_for, x_ret, t1, t2, SR.of, hB, el, ad, Bool.false_eq_true, if_false, SR.then]
  simp [wipeE, vB]
end Lw
end

section
set_option Elab.async false
set_option linter.all false
set_option maxRecDepth 100000
set_option maxHeartbeats 1000000
/-! K10: the fullest traffic of a curve -/
namespace Lw
open PySem L2
def fullZ (c : Cv) : List Int := (List.range 10).map fun (i : Nat) => letZ c ((i : Int) + 1) - letZ c (i : Int)
theorem full_ok {c : Cv} (hc : Curve c) : F1 [.val (curveD c), .val (.int 10)] = .ok (.val (trafD (fullZ c))) [.val (curveD c), .val (.int 10)] := by
  have q0 : P1 0 = F0 := rfl
  generalize hE : ev P1 CC (.bop .Sub (.call 0 [(.var 0), (.bop .Add (.var 2) (.int 1))]) (.call 0 [(.var 0), (.var 2)])) = elt
  have lc := lcI_mapG (bt := bindT (.nm 2)) (tests := evTs P1 CC []) (elt := elt) (own := [2]) (W := [.val (curveD c), .val (.int 10), .no]) (g := fun (i : Nat) => D.int (0 + (i : Int))) (f := fun (i : Nat) => .int (letZ c ((i : Int) + 1) - letZ c (i : Int))) (by simp [wipeE]) (List.range 10) [] (by rw [sizeLine_eq]; simp) (fun i hi => by
    have hi := List.mem_range.mp hi
    have l1 := let_ok (t := (i : Int) + 1) hc (by omega)
    have l2 := let_ok (t := (i : Int)) hc (by omega)
    refine ⟨[.val (curveD c), .val (.int 10), .val (.int i)], [.val (curveD c), .val (.int 10), .val (.int i)], [.val (curveD c), .val (.int 10), .val (.int i)], vI (letZ c ((i : Int) + 1) - letZ c (i : Int)), by simp [bindT], by simp [evTs, lcI.allT], ?_, rfl, by simp [wipeE]⟩
    rw [← hE]
    simp [ev, opd, args, callS, evC, popS, q0, l1, l2, putBack, putBack_ex, bopS, vI, Sl.d])
  have er : rngD 0 10 = (List.range 10).map fun (i : Nat) => D.int (0 + (i : Int)) := rfl
  rw [← er] at lc
  have e1 : evI P1 CC (.rng1 (.fz 1)) [.val (curveD c), .val (.int 10), .no] = .ok (rngD 0 10) [.val (curveD c), .val (.int 10), .no] := by
    simp [evI, ev, fzS]
  have ft : D.tup ((List.range 10).map fun (i : Nat) => D.int (letZ c ((i : Int) + 1) - letZ c (i : Int))) = trafD (fullZ c) := by
    simp only [trafD, fullZ, List.map_map]; rfl
  unfold F1 B1
  simp only [fnS, List.length_cons, List.length_nil, List.replicate, List.append, List.cons_append, List.nil_append, x_exs1, x_exs0, x_ret, ev_ty, opds1, opd_lc, ev_lc, hE, s_bind, s_evA2, e1, s_ok]
  simp only [List.nil_append] at lc
  simp [notOwn, wipeE, lc, opds, backE, tyS, Sl.d, SR.of, SR.then, ft]
end Lw
end

section
set_option Elab.async false
set_option linter.all false
set_option maxRecDepth 100000
set_option maxHeartbeats 1000000
/-! K11: the buckets; who waits for ever -/
namespace Lw
open PySem L2
theorem buckets_ok {c : Cv} (hc : Curve c) : F27 [.val (curveD c)] = .ok (.own (.lst ((c.map fun p => (p.1 + p.2, p.2)).map prD))) [.val (curveD c)] := by
  generalize hE : ev P27 CC (.tup [(.bop .Add (.var 1) (.var 2)), (.fz 2)]) = elt
  have lc := lcI_mapG (bt := bindT (.tup [.nm 1, .nm 2])) (tests := evTs P27 CC []) (elt := elt) (own := [1, 2]) (W := [.val (curveD c), .no, .no]) (g := prD) (f := fun p => prD (p.1 + p.2, p.2)) (by simp [wipeE]) c [] (by rw [sizeLine_eq]; have := hc.len; simp; omega) (fun p hp => by
    refine ⟨[.val (curveD c), .val (.int p.1), .val (.int p.2)], [.val (curveD c), .val (.int p.1), .val (.int p.2)], [.val (curveD c), .val (.int p.1), .val (.int p.2)], .val (prD (p.1 + p.2, p.2)), by simp [bindT, bindTs, prD], by simp [evTs, lcI.allT], ?_, rfl, by simp [wipeE]⟩
    rw [← hE]
    simp [ev, evD, opd, fzS, bopS, vI, Sl.d, prD, sizeLine_eq])
  have e1 : evI P27 CC (.fz 0) [.val (curveD c), .no, .no] = .ok (c.map prD) [.val (curveD c), .no, .no] := by
    simp [evI, ev, fzS, itemsD, curveD, Sl.d]
  unfold F27 B27
  simp only [fnS, List.length_cons, List.length_nil, List.replicate, List.append, List.cons_append, List.nil_append, x_exs1, x_exs0, x_ret, ev_lc, hE, s_bind, e1, s_ok]
  simp only [List.nil_append] at lc
  simp [notOwn, wipeE, lc, backE, SR.of, SR.then, Function.comp_def]
end Lw
end

section
set_option Elab.async false
set_option linter.all false
set_option maxRecDepth 100000
set_option maxHeartbeats 1000000
/-! K12: the first ticks that bring too much; fits -/
namespace Lw
open PySem L2
theorem sumZ_succ {t : List Int} {s m : Nat} (h : s + m < t.length) : sumZ t s (m + 1) = sumZ t s m + t[s + m] := by
  unfold sumZ
  have : (t.drop s).take (m + 1) = (t.drop s).take m ++ [t[s + m]] := by
    rw [List.take_succ, List.getElem?_drop, List.getElem?_eq_getElem h]; rfl
  rw [this, List.sum_append]; simp
theorem atI_nat {α : Type} {xs : List α} {i : Nat} (h : i < xs.length) : atI xs (i : Int) = some xs[i] := by
  obtain ⟨x, _, e, e2⟩ := atI_mem (xs := xs) (i := (i : Int)) (by omega) (by omega)
  rw [e, ← e2, Int.toNat_natCast, List.getElem?_eq_getElem h]
theorem row_pre (c : Cv) (t : List Int) (s j : Nat) : ∀ n, j ≤ n → ∃ r, rowTo c t s n = rowTo c t s j ++ r
  | 0, h => ⟨[], by have : j = 0 := by omega
                    subst this; simp⟩
  | n + 1, h => by
    rcases Nat.lt_or_ge n j with q | q
    · have : j = n + 1 := by omega
      subst this; exact ⟨[], by simp⟩
    · obtain ⟨r, e⟩ := row_pre c t s j n q
      exact ⟨r ++ (hit c t s n).toList, by rw [row_succ, e, List.append_assoc]⟩
theorem hits_pre (c : Cv) (t : List Int) (j : Nat) : ∀ n, j ≤ n → ∃ r, hitsTo c t n = hitsTo c t j ++ r
  | 0, h => ⟨[], by have : j = 0 := by omega
                    subst this; simp⟩
  | n + 1, h => by
    rcases Nat.lt_or_ge n j with q | q
    · have : j = n + 1 := by omega
      subst this; exact ⟨[], by simp⟩
    · obtain ⟨r, e⟩ := hits_pre c t j n q
      exact ⟨r ++ rowTo c t n (t.length - n), by rw [hits_succ, e, List.append_assoc]⟩
def in15 : List S := [.aug 3 .Add (.idx (.var 1) (.bop .Sub (.bop .Add (.var 2) (.var 4)) (.int 1))), .ite (.cmp .Gt (.var 3) (.call 14 [(.var 0), (.var 4)])) [.ret (.tup [(.fz 2), (.fz 4)])] []]
def out15 : List S := [.set 3 (.int 0), .for_ (.nm 4) (.rng2 (.int 1) (.bop .Add (.bop .Sub (.bi .len [(.var 1)]) (.var 2)) (.int 1))) in15]
theorem in15_ok {c : Cv} {t : List Int} {i j : Nat} (hc : Curve c) (hij : i + j + 1 ≤ t.length) (ht : t.length ≤ 500) :
    exs P15 CC in15 [.val (curveD c), .val (trafD t), .val (.int i), .val (.int (sumZ t i j)), .val (.int (1 + j))] =
      if letZ c (1 + j) < sumZ t i (j + 1) then .rt (.val (prD ((i : Int), 1 + (j : Int)))) [.val (curveD c), .val (trafD t), .val (.int i), .val (.int (sumZ t i (j + 1))), .val (.int (1 + j))]
      else .nx [.val (curveD c), .val (trafD t), .val (.int i), .val (.int (sumZ t i (j + 1))), .val (.int (1 + j))] := by
  have q14 : P15 14 = F14 := rfl
  have lo := told_at_ok (t := 1 + (j : Int)) hc (by omega)
  have ix : atI (t.map D.int) ((i : Int) + (1 + (j : Int)) - 1) = some (.int t[i + j]) := by
    rw [show (i : Int) + (1 + (j : Int)) - 1 = ((i + j : Nat) : Int) by omega]
    rw [atI_nat (by simp; omega)]
    simp
  have e1 : ex P15 CC (.aug 3 .Add (.idx (.var 1) (.bop .Sub (.bop .Add (.var 2) (.var 4)) (.int 1)))) [.val (curveD c), .val (trafD t), .val (.int i), .val (.int (sumZ t i j)), .val (.int (1 + j))] = .nx [.val (curveD c), .val (trafD t), .val (.int i), .val (.int (sumZ t i (j + 1))), .val (.int (1 + j))] := by
    rw [sumZ_succ (show i + j < t.length by omega)]
    simp [ex, ev, opd, trafD, bopS, ixS, ix, augO, putS, vI, Sl.d]
  have e2 : evT P15 CC (.cmp .Gt (.var 3) (.call 14 [(.var 0), (.var 4)])) [.val (curveD c), .val (trafD t), .val (.int i), .val (.int (sumZ t i (j + 1))), .val (.int (1 + j))] = .ok (decide (letZ c (1 + j) < sumZ t i (j + 1))) [.val (curveD c), .val (trafD t), .val (.int i), .val (.int (sumZ t i (j + 1))), .val (.int (1 + j))] := by
    simp [evT, ev, opds, opd, args, callS, evC, popS, q14, lo, putBack, cmpS, truthD, vI, vB, Sl.d]
  unfold in15
  simp only [x_exs1, x_ite, e1, s_nx, e2, SR.of, x_exs0]
  by_cases hh : letZ c (1 + j) < sumZ t i (j + 1)
  · simp [hh, ex, exs, ev, evD, fzS, sizeLine_eq, prD, Sl.d, SR.then]
  · simp [hh, exs, SR.then]
theorem out15_ok {c : Cv} {t : List Int} {i : Nat} {s3 s4 : Sl} (hc : Curve c) (ht : t.length ≤ 500) (hi : i < t.length) :
    (rowTo c t i (t.length - i) = [] ∧ ∃ s5 s6, exs P15 CC out15 [.val (curveD c), .val (trafD t), .val (.int i), s3, s4] = .nx [.val (curveD c), .val (trafD t), .val (.int i), s5, s6]) ∨
    (∃ p r s2 s5 s6, rowTo c t i (t.length - i) = p :: r ∧ exs P15 CC out15 [.val (curveD c), .val (trafD t), .val (.int i), s3, s4] = .rt (.val (prD p)) [.val (curveD c), .val (trafD t), s2, s5, s6]) := by
  have il := forI_ind (bt := bindT (.nm 4)) (b := exs P15 CC in15) (fun j E => rowTo c t i j = [] ∧ ∃ s4, E = [.val (curveD c), .val (trafD t), .val (.int i), .val (.int (sumZ t i j)), s4])
    (fun R => (rowTo c t i (t.length - i) = [] ∧ ∃ s5 s6, R = .nx [.val (curveD c), .val (trafD t), .val (.int i), s5, s6]) ∨
    (∃ p r s2 s5 s6, rowTo c t i (t.length - i) = p :: r ∧ R = .rt (.val (prD p)) [.val (curveD c), .val (trafD t), s2, s5, s6])) (rngD 1 ((t.length : Int) - i + 1))
    (fun j E d hd ⟨h0, s4, eE⟩ => by
      subst eE
      obtain ⟨rfl, hj⟩ := rng2_get hd
      refine ⟨[.val (curveD c), .val (trafD t), .val (.int i), .val (.int (sumZ t i j)), .val (.int (1 + j))], by simp [bindT], ?_⟩
      rw [in15_ok hc (by omega) ht]
      by_cases hh : letZ c (1 + j) < sumZ t i (j + 1)
      · rw [if_pos hh]
        have h1 : hit c t i j = some ((i : Int), 1 + (j : Int)) := if_pos hh
        obtain ⟨r, e⟩ := row_pre c t i (j + 1) (t.length - i) (by omega)
        rw [row_succ, h0, h1] at e
        exact .inr ⟨_, r, _, _, _, e, rfl⟩
      · rw [if_neg hh]
        have h1 : hit c t i j = none := if_neg hh
        exact ⟨by rw [row_succ, h0, h1]; rfl, _, rfl⟩)
    (fun E ⟨h0, s4, eE⟩ => by
      subst eE
      rw [rng_len2, show ((t.length : Int) - i + 1 - 1).toNat = t.length - i by omega] at h0
      exact .inl ⟨h0, _, _, rfl⟩)
    [.val (curveD c), .val (trafD t), .val (.int i), .val (.int 0), s4] ⟨by simp [rowTo], s4, by simp [sumZ]⟩
  have hm : (-4611686018427387904 ≤ (t.length : Int) - i + 1 ∧ (t.length : Int) - i + 1 < 4611686018427387904) := bound_of (by omega) (by omega)
  have er : evI P15 CC (.rng2 (.int 1) (.bop .Add (.bop .Sub (.bi .len [(.var 1)]) (.var 2)) (.int 1))) [.val (curveD c), .val (trafD t), .val (.int i), .val (.int 0), s4] = .ok (rngD 1 ((t.length : Int) - i + 1)) [.val (curveD c), .val (trafD t), .val (.int i), .val (.int 0), s4] := by
    simp [evI, ev, opds, opd, biS, lenD, trafD, bopS, vI, Sl.d, hm]
  have e0 : ex P15 CC (.set 3 (.int 0)) [.val (curveD c), .val (trafD t), .val (.int i), s3, s4] = .nx [.val (curveD c), .val (trafD t), .val (.int i), .val (.int 0), s4] := by
    simp [ex, ev, putS, vI]
  have eo : exs P15 CC out15 [.val (curveD c), .val (trafD t), .val (.int i), s3, s4] = forI (bindT (.nm 4)) (exs P15 CC in15) (rngD 1 ((t.length : Int) - i + 1)) [.val (curveD c), .val (trafD t), .val (.int i), .val (.int 0), s4] := by
    unfold out15
    simp only [x_exs1, x_for, e0, s_nx, er, SR.of]
    cases forI (bindT (.nm 4)) (exs P15 CC in15) (rngD 1 ((t.length : Int) - i + 1)) [.val (curveD c), .val (trafD t), .val (.int i), .val (.int 0), s4] <;> simp [SR.then, x_exs0]
  rw [eo]
  exact il
def headD : Cv → D
  | [] => .non
  | p :: _ => prD p
theorem range15 {c : Cv} {t : List Int} (ht : t.length ≤ 500) : evI P15 CC (.rng1 (.bi .len [(.var 1)])) [.val (curveD c), .val (trafD t), .no, .no, .no] = .ok (rngD 0 t.length) [.val (curveD c), .val (trafD t), .no, .no, .no] := by
  have hm' : (if -(2 : Int) ^ 62 ≤ (t.length : Int) ∧ (t.length : Int) < 2 ^ 62 then M.pure (rngD 0 (t.length : Int)) else M.bad) = M.pure (rngD 0 (t.length : Int)) := if_pos (by constructor <;> omega)
  have e1 : ev P15 CC (.bi .len [(.var 1)]) [.val (curveD c), .val (trafD t), .no, .no, .no] = .ok (.val (.int t.length)) [.val (curveD c), .val (trafD t), .no, .no, .no] := by
    simp [ev, opds, opd, biS, lenD, trafD, vI, Sl.d]
  rw [evI, s_bind, e1, s_ok]
  dsimp only
  rw [hm', s_pure]
theorem body15 {c : Cv} {t : List Int} (hc : Curve c) (ht : t.length ≤ 500) : ∃ s2 s3 s4, exs P15 CC B15 [.val (curveD c), .val (trafD t), .no, .no, .no] = .rt (.val (headD (hits c t))) [.val (curveD c), .val (trafD t), s2, s3, s4] := by
  have il := forI_ind (bt := bindT (.nm 2)) (b := exs P15 CC out15) (fun i E => hitsTo c t i = [] ∧ ∃ s2 s3 s4, E = [.val (curveD c), .val (trafD t), s2, s3, s4])
    (fun R => (hits c t = [] ∧ ∃ s2 s3 s4, R = .nx [.val (curveD c), .val (trafD t), s2, s3, s4]) ∨ (∃ p r s2 s3 s4, hits c t = p :: r ∧ R = .rt (.val (prD p)) [.val (curveD c), .val (trafD t), s2, s3, s4])) (rngD 0 t.length)
    (fun i E d hd ⟨h0, s2, s3, s4, eE⟩ => by
      subst eE
      obtain ⟨rfl, hi⟩ := rng2_get hd
      refine ⟨[.val (curveD c), .val (trafD t), .val (.int i), s3, s4], by simp [bindT], ?_⟩
      rcases out15_ok (s3 := s3) (s4 := s4) hc ht (show i < t.length by omega) with ⟨e, s5, s6, eo⟩ | ⟨p, r, s2, s5, s6, e, eo⟩
      · rw [eo]
        exact ⟨by rw [hits_succ, h0, e]; rfl, _, _, _, rfl⟩
      · rw [eo]
        obtain ⟨r2, e2⟩ := hits_pre c t (i + 1) t.length (by omega)
        rw [hits_succ, h0, e] at e2
        exact .inr ⟨p, r ++ r2, s2, s5, s6, e2, rfl⟩)
    (fun E ⟨h0, s2, s3, s4, eE⟩ => by
      subst eE
      have e : (rngD 0 (t.length : Int)).length = t.length := by rw [rng_len2]; omega
      rw [e] at h0
      exact .inl ⟨h0, _, _, _, rfl⟩)
    [.val (curveD c), .val (trafD t), .no, .no, .no] ⟨by simp [hitsTo], _, _, _, rfl⟩
  have b15 : B15 = [.for_ (.nm 2) (.rng1 (.bi .len [(.var 1)])) out15, .ret .non] := rfl
  rw [b15, x_exs1, x_for, range15 ht]
  simp only [SR.of]
  rcases il with ⟨h0, s2, s3, s4, e⟩ | ⟨p, r, s2, s3, s4, h0, e⟩
  · exact ⟨s2, s3, s4, by rw [e, h0]; simp [SR.then, exs, ex, ev, headD]⟩
  · exact ⟨s2, s3, s4, by rw [e, h0]; simp [SR.then, headD]⟩
theorem too_much_ok {c : Cv} {t : List Int} (hc : Curve c) (ht : t.length ≤ 500) : F15 [.val (curveD c), .val (trafD t)] = .ok (.val (headD (hits c t))) [.val (curveD c), .val (trafD t)] := by
  obtain ⟨s2, s3, s4, e⟩ := body15 hc ht
  have e' : exs P15 CC B15 ([.val (curveD c), .val (trafD t)] ++ List.replicate (5 - [Sl.val (curveD c), .val (trafD t)].length) Sl.no) = _ := e
  unfold F15 fnS
  rw [e']
  rfl
def moreD (p : Int × Int) : D := .tup [.str "more", .int p.1, .int p.2]
def fitsD : D := .tup [.str "fits"]
def fitD : Cv → D
  | [] => fitsD
  | p :: _ => moreD p
theorem fits_ok {c : Cv} {t : List Int} (hc : Curve c) (ht : Traf t) : F16 [.val (curveD c), .val (trafD t)] = .ok (.val (fitD (hits c t))) [.val (curveD c), .val (trafD t)] := by
  have q7 : P16 7 = F7 := rfl
  have q13 : P16 13 = F13 := rfl
  have q15 : P16 15 = F15 := rfl
  have tm := too_much_ok hc ht.len
  unfold F16 B16
  cases hh : hits c t with
  | nil =>
    rw [hh] at tm
    simp [fnS, exs, ex, ev, evT, evD, opds, opd, args, callS, evC, popS, q7, q13, q15, look_curve_ok hc, look_traffic_ok ht, tm, headD, putBack, putS, cmpS, isNonD, truthD, vB, Sl.d, sizeLine_eq, CC, wipeE, SR.then, fitD, fitsD]
  | cons p r =>
    rw [hh] at tm
    simp [fnS, exs, ex, ev, evT, evD, opds, opd, args, callS, evC, popS, fzS, q7, q13, q15, look_curve_ok hc, look_traffic_ok ht, tm, headD, prD, putBack, putS, cmpS, isNonD, truthD, vB, Sl.d, sizeLine_eq, CC, wipeE, SR.then, fitD, moreD]
end Lw
end

section
set_option Elab.async false
set_option linter.all false
set_option maxRecDepth 100000
set_option maxHeartbeats 1000000
/-! K13: values of any kind; values bent -/
namespace Lw
open PySem L2
def oddL : List D := [.non, .bl true, .bl false, .int 0, .int 1, .int (-1), .int 2, .int 256, .int (10 ^ 20), .str "", .str "a", .str "pass", .str "never", .tup [], .lst [], .dk [] [], .tup [.int 0], .tup [.tup []], .lst [.int 0],
  .tup [.str "a"], .tup [.int 0, .int 255], .tup [.tup [.int 0, .int 255]], .tup [.non], .dk [.inr "a"] [.int 1], .tup [.str "covered", .tup []], .tup [.str "left", .tup []], .tup [.tup [.bl true, .int 1]]]
theorem odd_ok {n : Int} {l : List D} (hn : n < 2 ^ 20) (h : PotOk n l) : ∃ d l', d ∈ oddL ∧ PotOk (n + 1) l' ∧ F17 [.own (.lst l)] = .ok (.val d) [.own (.lst l')] := by
  obtain ⟨d, l', hd, hp, e⟩ := of_ok (n := n) (xs := oddL) hn h (by decide) (by decide)
  have q3 : P17 3 = F3 := rfl
  have p10 : (Builtin.Int.intBits 10 : Int) * 20 ≤ 134217728 := by decide +kernel
  refine ⟨d, l', hd, hp, ?_⟩
  simp only [oddL, Int.reducePow, Int.reduceNeg] at e
  unfold F17 B17
  simp [fnS, exs, ex, ev, evD, opds, opd, args, callS, evC, popS, q3, e, putBack, putS, bopS, negS, p10, vB, vI, Sl.d, sizeLine_eq, wipeE, SR.then]
def bB (k : Nat) : List S := [.ite (.andV (.bi .isinstance [(.var 1), (.tyc "tuple")]) (.andV (.cmp .NotEq (.var 1) (.tup [])) (.cmp .Gt (.call 2 [(.var 0), (.int 5)]) (.int 0)))) [.set 2 (.call 2 [(.var 0), (.bi .len [(.var 1)])]), .ret (.bop .Add (.bop .Add (.slc (.var 1) .non (.var 2)) (.tup [(.call k [(.var 0), (.idx (.var 1) (.var 2))])])) (.slc (.var 1) (.bop .Add (.var 2) (.int 1)) .non))] [], .ite (.bi .isinstance [(.var 1), (.tyc "tuple")]) [.ret (.call 3 [(.var 0), (.lst [(.ty .list [(.var 1)]), (.slc (.var 1) (.int 1) .non), (.slc (.var 1) .non (.neg (.int 1))), (.bop .Add (.var 1) (.slc (.var 1) (.neg (.int 1)) .non)), (.rev (.var 1)), (.tup []), .non])])] [], .ite (.bi .isinstance [(.var 1), (.tyc "bool")]) [.ret (.call 3 [(.var 0), (.lst [(.notV (.fz 1)), (.ty .int [(.var 1)]), .non])])] [], .ite (.bi .isinstance [(.var 1), (.tyc "int")]) [.ret (.call 3 [(.var 0), (.lst [(.bop .Add (.var 1) (.int 1)), (.bop .Sub (.var 1) (.int 1)), (.bop .Sub (.neg (.var 1)) (.int 1)), (.ty .str [(.var 1)]), (.cmp .Eq (.var 1) (.int 1)), .non, (.tup [(.fz 1)]), (.bop .Pow (.int 10) (.int 9))])])] [], .ite (.bi .isinstance [(.var 1), (.tyc "str")]) [.ret (.call 3 [(.var 0), (.lst [(.bop .Add (.var 1) (.str "a")), (.slc (.var 1) (.int 1) .non), (.mth .upper (.var 1) []), (.str ""), .non, (.int 0)])])] [], .ret (.call 17 [(.var 0)])]
theorem f21_eq : F21 = fnS P21 CC 3 [] (bB 20) := rfl
theorem f22_eq : F22 = fnS P22 CC 3 [] (bB 21) := rfl
def intBents (i : Int) : List D := [.int (i + 1), .int (i - 1), .int (-i - 1), .str (toString i : String), .bl (i == 1), .non, .tup [.int i], .int (10 ^ 9)]
def strBents (s : Str) : List D := [.str (s ++ ("a" : Str)), .str (cutS s (some 1) none), .str (Txt.upper s), .str "", .non, .int 0]
theorem bent_int {n : Int} {l : List D} {i : Int} (hn : n < 2 ^ 20) (h : PotOk n l) (hi : i.natAbs < 2 ^ 100) : ∃ d l', d ∈ intBents i ∧ PotOk (n + 1) l' ∧ F21 [.own (.lst l), .val (.int i)] = .ok (.val d) [.own (.lst l'), .val (.int i)] := by
  obtain ⟨d, l', hd, hp, e⟩ := of_ok (n := n) (xs := intBents i) hn h (by simp [intBents]) (by simp [intBents])
  have q3 : P21 3 = F3 := rfl
  have p10 : (Builtin.Int.intBits 10 : Int) * 9 ≤ 134217728 := by decide +kernel
  have lg : i.natAbs.log2 < 1920 := Nat.lt_of_lt_of_le (log_lt (by decide) hi) (by decide)
  refine ⟨d, l', hd, hp, ?_⟩
  have ts : (toString i : String) = i.repr := rfl
  simp only [intBents, Int.reducePow, ts] at e
  rw [f21_eq]
  unfold bB
  simp [fnS, exs, ex, ev, evT, evD, opds, opd, args, callS, evC, popS, fzS, biS, tyS, isiD, tyD, isiTys, isiS, q3, e, putBack, putS, bopS, cmpS, eqD_int, negS, p10, lg, truthD, vB, vI, Sl.d, sizeLine_eq, wipeE, SR.then]
theorem bent_str {n : Int} {l : List D} {s : Str} (hn : n < 2 ^ 20) (h : PotOk n l) (hs : s.length ≤ 1000) : ∃ d l', d ∈ strBents s ∧ PotOk (n + 1) l' ∧ F21 [.own (.lst l), .val (.str s)] = .ok (.val d) [.own (.lst l'), .val (.str s)] := by
  obtain ⟨d, l', hd, hp, e⟩ := of_ok (n := n) (xs := strBents s) hn h (by simp [strBents]) (by simp [strBents])
  have q3 : P21 3 = F3 := rfl
  have la : Str.length "a" = 1 := by decide +kernel
  have l1 : s.length + Str.length "a" ≤ 16777216 := by rw [la]; omega
  have l2 : s.length ≤ 16777216 := by omega
  have l3 : s.length ≤ 5592405 := by omega
  refine ⟨d, l', hd, hp, ?_⟩
  simp only [strBents] at e
  rw [f21_eq]
  unfold bB
  simp [fnS, exs, ex, ev, evT, evD, opds, opd, args, callS, evC, popS, fzS, biS, tyS, isiD, tyD, isiTys, isiS, q3, e, putBack, putS, bopS, cmpS, slP, partO, isNonE, partD, slS, mtP, mtS, l1, l2, l3, truthD, vB, vI, Sl.d, sizeLine_eq, wipeE, SR.then]
def tupBents (xs : List D) : List D := [.lst xs, .tup (cutD xs (some 1) none), .tup (cutD xs none (some (-1))), .tup (xs ++ cutD xs (some (-1)) none), .tup xs.reverse, .tup [], .non]
theorem cut_len {α : Type} (xs : List α) (lo hi : Option Int) : (cutD xs lo hi).length ≤ xs.length := by
  unfold cutD
  rw [List.length_take, List.length_drop]; omega
/-- bent as a tuple, from what bending of its items comes to -/
theorem bent_tup {n : Int} {l : List D} {xs : List D} {I : D → List D} (hn : n < 2 ^ 19) (h : PotOk n l) (h0 : 0 < xs.length) (hl : xs.length ≤ 3) (he : eqD (.tup xs) (.tup []) = some false)
    (hi : ∀ x ∈ xs, ∀ l1, PotOk (n + 2) l1 → ∃ d l', d ∈ I x ∧ PotOk (n + 2 + 1) l' ∧ F21 [.own (.lst l1), .val x] = .ok (.val d) [.own (.lst l'), .val x]) :
    ∃ d l', ((∃ (i : Nat) (x y : D), xs[i]? = some x ∧ y ∈ I x ∧ d = .tup (cutD xs none (some (i : Int)) ++ [y] ++ cutD xs (some ((i : Int) + 1)) none)) ∨ d ∈ tupBents xs) ∧ PotOk (n + 3) l' ∧ F22 [.own (.lst l), .val (.tup xs)] = .ok (.val d) [.own (.lst l'), .val (.tup xs)] := by
  obtain ⟨k, l1, hk, p1, e1⟩ := take_ok (u := 5) (by omega) h (by decide)
  have q2 : P22 2 = F2 := rfl
  have q3 : P22 3 = F3 := rfl
  have q21 : P22 21 = F21 := rfl
  have b1 := cut_len xs none none
  by_cases hk0 : 0 < k
  · obtain ⟨j, l2, hj, p2, e2⟩ := take_ok (u := (xs.length : Int)) (by omega) p1 ⟨by omega, by omega⟩
    obtain ⟨x, hx, ex1, ex2⟩ := atI_mem (xs := xs) hj.1 hj.2
    obtain ⟨y, l3, hy, p3, e3⟩ := hi x hx l2 (by have := p2; rw [show n + 1 + 1 = n + 2 by omega] at this; exact this)
    have c1 := cut_len xs none (some j)
    have c2 := cut_len xs (some (j + 1)) none
    have s1 : (cutD xs none (some j)).length + 1 ≤ 16777216 := by omega
    have s2 : (cutD xs none (some j)).length + 1 + (cutD xs (some (j + 1)) none).length ≤ 16777216 := by omega
    refine ⟨_, l3, .inl ⟨j.toNat, x, y, ex2, hy, rfl⟩, by have := p3; rw [show n + 2 + 1 = n + 3 by omega] at this; exact this, ?_⟩
    rw [show ((j.toNat : Nat) : Int) = j by omega]
    rw [f22_eq]
    unfold bB
    simp [fnS, exs, ex, ev, evT, evD, opds, opd, args, callS, evC, popS, fzS, biS, isiT, lenD, q2, q3, q21, e1, e2, e3, ex1, he, hk0, ixS, slP, partO, isNonE, partD, slS, putBack, putBack_ex, putS, bopS, cmpS, s1, s2, truthD, vB, vI, Sl.d, sizeLine_eq, wipeE, SR.then]
  · obtain ⟨d, l', hd, hp, e⟩ := of_ok (n := n + 1) (xs := tupBents xs) (by omega) p1 (by simp [tupBents]) (by simp [tupBents])
    refine ⟨d, l', .inr hd, hp.mono (by omega), ?_⟩
    have c1 := cut_len xs (some (-1)) none
    have s1 : xs.length + (cutD xs (some (-1)) none).length ≤ 16777216 := by omega
    simp only [tupBents] at e
    rw [f22_eq]
    unfold bB
    simp [fnS, exs, ex, ev, evT, evD, opds, opd, args, callS, evC, popS, fzS, biS, tyS, isiT, lenD, q2, q3, q21, e1, e, he, hk0, ixS, slP, partO, isNonE, partD, slS, revS, negS, putBack, putBack_ex, putS, bopS, cmpS, s1, truthD, vB, vI, Sl.d, sizeLine_eq, wipeE, SR.then]
end Lw
end

section
set_option Elab.async false
set_option linter.all false
set_option maxRecDepth 100000
set_option maxHeartbeats 1000000
/-! K14: which values show what; their texts -/
namespace Lw
open PySem L2
def isMore : D → Option (Int × Int)
  | .tup [.str m, .int a, .int b] => if m = ("more" : Str) ∧ 0 ≤ a ∧ 0 ≤ b then some (a, b) else none
  | _ => none
def isFits : D → Bool
  | .tup [.str m] => decide (m = ("fits" : Str))
  | _ => false
def isDig (c : Nat) : Bool := Nat.ble 48 c && Nat.ble c 57
def rdNat : List Nat → Nat → Nat × List Nat
  | [], n => (n, [])
  | c :: r, n => if isDig c then rdNat r (10 * n + (c - 48)) else (n, c :: r)
def stripP : List Nat → List Nat → Option (List Nat)
  | [], r => some r
  | _ :: _, [] => none
  | p :: ps, c :: r => if p = c then stripP ps r else none
def parseTail (r : List Nat) (a : Nat) : Option (Int × Int) := match rdNat r 0 with
  | (b, [41]) => some ((a : Int), (b : Int))
  | _ => none
def parseMore (x : Str) : Option (Int × Int) := match stripP [40, 39, 109, 111, 114, 101, 39, 44, 32] x.cps.toList with
  | some r => (match rdNat r 0 with
    | (a, r1) => (match stripP [44, 32] r1 with
      | some r2 => parseTail r2 a
      | none => none))
  | none => none
def fitsTx : Str := "('fits',)"
def strFine : D → Bool
  | .str z => PyData.strOk z
  | _ => true
def tyFine : D → Bool
  | .tup xs => xs.all fun x => (tyD x).isSome && strFine x
  | d => (tyD d).isSome
def reprFine (d : D) : Bool := match reprD d with
  | some x => PyData.strOk x && decide (parseMore x = isMore d) && (decide (x = fitsTx) == isFits d)
  | none => false
def good (d : D) : Bool := tyFine d && reprFine d
def atomBents : D → List D
  | .int i => intBents i
  | .str s => strBents s
  | _ => []
def bents (xs : List D) : List D := tupBents xs ++ (List.range xs.length).flatMap fun i => match xs[i]? with
  | some x => (atomBents x).map fun y => .tup (cutD xs none (some (i : Int)) ++ [y] ++ cutD xs (some ((i : Int) + 1)) none)
  | none => []
def moreX (p : Int × Int) : List D := [.str "more", .int p.1, .int p.2]
def seed (p : Int × Int) : List D := moreD p :: .lst (moreX p) :: bents (moreX p)
def fixedV : List D := fitsD :: .lst [.str "fits"] :: .non :: .tup [.str "fits", .tup []] :: oddL ++ bents [.str "fits"]
theorem fixed_good : fixedV.all good = true := by decide +kernel
/-- the pairs of a start and of how many of at most 12, start by start -/
def seedsAt (a : Nat) : Bool := (List.range (12 - a)).all fun (b : Nat) => (seed ((a : Int), 1 + (b : Int))).all good
theorem seeds_0 : seedsAt 0 = true := by decide +kernel
theorem seeds_1 : seedsAt 1 = true := by decide +kernel
theorem seeds_2 : seedsAt 2 = true := by decide +kernel
theorem seeds_3 : seedsAt 3 = true := by decide +kernel
theorem seeds_4 : seedsAt 4 = true := by decide +kernel
theorem seeds_5 : seedsAt 5 = true := by decide +kernel
theorem seeds_6 : seedsAt 6 = true := by decide +kernel
theorem seeds_7 : seedsAt 7 = true := by decide +kernel
theorem seeds_8 : seedsAt 8 = true := by decide +kernel
theorem seeds_9 : seedsAt 9 = true := by decide +kernel
theorem seeds_10 : seedsAt 10 = true := by decide +kernel
theorem seeds_11 : seedsAt 11 = true := by decide +kernel
theorem seeds_good (a : Nat) (h : a < 12) : seedsAt a = true := by
  have e : a = 0 ∨ a = 1 ∨ a = 2 ∨ a = 3 ∨ a = 4 ∨ a = 5 ∨ a = 6 ∨ a = 7 ∨ a = 8 ∨ a = 9 ∨ a = 10 ∨ a = 11 := by omega
  rcases e with rfl | rfl | rfl | rfl | rfl | rfl | rfl | rfl | rfl | rfl | rfl | rfl
  · exact seeds_0
  · exact seeds_1
  · exact seeds_2
  · exact seeds_3
  · exact seeds_4
  · exact seeds_5
  · exact seeds_6
  · exact seeds_7
  · exact seeds_8
  · exact seeds_9
  · exact seeds_10
  · exact seeds_11
theorem mores_good : ((List.range 2).all fun (a : Nat) => (List.range 13).all fun (b : Nat) => good (moreD ((a : Int), (b : Int)))) = true := by decide +kernel
end Lw
end

section
set_option Elab.async false
set_option linter.all false
set_option maxRecDepth 100000
set_option maxHeartbeats 1000000
/-! K15: shows_fits -/
namespace Lw
open PySem L2
theorem mem_hits {c : Cv} {t : List Int} {p : Int × Int} : p ∈ hits c t ↔ ∃ i j : Nat, i + j < t.length ∧ p = ((i : Int), 1 + (j : Int)) ∧ letZ c (1 + (j : Int)) < sumZ t i (j + 1) := by
  unfold hits hitsTo rowTo hit
  simp only [List.mem_flatMap, List.mem_range, List.mem_filterMap]
  constructor
  · rintro ⟨i, hi, j, hj, e⟩
    split at e
    · cases e; exact ⟨i, j, by omega, rfl, by assumption⟩
    · cases e
  · rintro ⟨i, j, hij, rfl, h⟩
    exact ⟨i, by omega, j, by omega, if_pos h⟩
def dueB (c : Cv) (t : List Int) (v : D) : Bool := match isMore v with
  | some p => decide (p ∈ hits c t)
  | none => isFits v && (hits c t).isEmpty
def intIn (d : D) (lo hi : Int) : Bool := match d with
  | .int v => decide (lo ≤ v) && decide (v ≤ hi)
  | _ => false
theorem is_int_any (Φ : Nat → M Sl) {d : D} (ht : (tyD d).isSome = true) (lo hi : Int) : fnS Φ CC 3 [] B5 [.val d, .val (.int lo), .val (.int hi)] = .ok (vB (intIn d lo hi)) [.val d, .val (.int lo), .val (.int hi)] := by
  cases d with
  | int v => exact is_int_gen Φ v lo hi
  | _ => first
    | (simp [tyD] at ht; done)
    | (unfold B5; simp [fnS, exs, ex, ev, opd, opds, biS, isiD, tyD, isiTys, isiS, vB, vI, Sl.d, cmpS, wipeE, intIn])
def tl24 : List S := [.ite (.cmp .Eq (.bi .len [(.var 2)]) (.int 1)) [.ret (.andV (.cmp .Eq (.idx (.var 2) (.int 0)) (.cst 5)) (.cmp .Is (.call 15 [(.var 0), (.var 1)]) .non))] [], .ite (.orV (.cmp .NotEq (.idx (.var 2) (.int 0)) (.cst 6)) (.orV (.notV (.call 5 [(.idx (.var 2) (.int 1)), (.int 0), (.cst 4)])) (.notV (.call 5 [(.idx (.var 2) (.int 2)), (.int 1), (.cst 4)])))) [.ret (.bl false)] [], .ite (.cmp .Gt (.bop .Add (.idx (.var 2) (.int 1)) (.idx (.var 2) (.int 2))) (.bi .len [(.var 1)])) [.ret (.bl false)] [], .ret (.cmp .Gt (.bi .sum [(.slc (.var 1) (.idx (.var 2) (.int 1)) (.bop .Add (.idx (.var 2) (.int 1)) (.idx (.var 2) (.int 2))))]) (.call 14 [(.var 0), (.idx (.var 2) (.int 2))]))]
def t24 : E := (.orV (.notV (.bi .isinstance [(.var 2), (.tyc "tuple")])) (.orV (.cmp .NotIn (.bi .len [(.var 2)]) (.tup [(.int 1), (.cst 7)])) (.notV (.bi .isinstance [(.idx (.var 2) (.int 0)), (.tyc "str")]))))
theorem b24 : B24 = .ex (.call 7 [(.var 0)]) :: .ex (.call 13 [(.var 1)]) :: .ite t24 [.ret (.bl false)] [] :: tl24 := rfl
/-- behind the looks -/
theorem enter24 {c : Cv} {t : List Int} {v : D} {R : SR} (hc : Curve c) (ht : Traf t) (h : (SR.of (evT P24 CC t24 [.val (curveD c), .val (trafD t), .val v]) fun k => if k then exs P24 CC [.ret (.bl false)] else exs P24 CC []).then (exs P24 CC tl24) = R) :
    exs P24 CC B24 [.val (curveD c), .val (trafD t), .val v] = R := by
  have q7 : P24 7 = F7 := rfl
  have q13 : P24 13 = F13 := rfl
  have e1 : ex P24 CC (.ex (.call 7 [(.var 0)])) [.val (curveD c), .val (trafD t), .val v] = .nx [.val (curveD c), .val (trafD t), .val v] := by
    simp [ex, ev, args, callS, evC, popS, q7, look_curve_ok hc, putBack]
  have e2 : ex P24 CC (.ex (.call 13 [(.var 1)])) [.val (curveD c), .val (trafD t), .val v] = .nx [.val (curveD c), .val (trafD t), .val v] := by
    simp [ex, ev, args, callS, evC, popS, q13, look_traffic_ok ht, putBack]
  rw [b24, x_exs1, e1, s_nx, x_exs1, e2, s_nx, x_exs1, x_ite]
  exact h
theorem f24_of {c : Cv} {t : List Int} {v : D} {b : Bool} (h : exs P24 CC B24 [.val (curveD c), .val (trafD t), .val v] = .rt (vB b) [.val (curveD c), .val (trafD t), .val v]) : F24 [.val (curveD c), .val (trafD t), .val v] = .ok (vB b) [.val (curveD c), .val (trafD t), .val v] := by
  have e' : exs P24 CC B24 ([.val (curveD c), .val (trafD t), .val v] ++ List.replicate (3 - [Sl.val (curveD c), .val (trafD t), .val v].length) Sl.no) = _ := h
  unfold F24 fnS
  rw [e']
  rfl
theorem no24 {c : Cv} {t : List Int} {v : D} (hc : Curve c) (ht : Traf t) (h : evT P24 CC t24 [.val (curveD c), .val (trafD t), .val v] = .ok true [.val (curveD c), .val (trafD t), .val v]) : F24 [.val (curveD c), .val (trafD t), .val v] = .ok (vB false) [.val (curveD c), .val (trafD t), .val v] := by
  refine f24_of (enter24 hc ht ?_)
  rw [h]
  simp [SR.of, exs, ex, ev, SR.then]
theorem notin13 {n : Int} (h1 : n ≠ 1) (h3 : n ≠ 3) : cmpS .NotIn (.int n) (.tup [.int 1, .int 3]) = some (vB true) := by
  have e1 : ((1 : Int) == n) = false := by simpa using fun h => h1 h.symm
  have e3 : ((3 : Int) == n) = false := by simpa using fun h => h3 h.symm
  simp [cmpS, flatD, eqF, e1, e3, vB]
theorem not_tup {v : D} (hv : ∀ xs, v ≠ .tup xs) (ht : (tyD v).isSome = true) : isiD v "tuple" = some false := by
  cases v with
  | tup xs => exact absurd rfl (hv xs)
  | _ => first
    | (simp [tyD] at ht; done)
    | simp [isiD, tyD, isiTys, isiS]
theorem not_strD {v : D} (hv : ∀ z, v ≠ .str z) (ht : (tyD v).isSome = true) : isiD v "str" = some false := by
  cases v with
  | str xs => exact absurd rfl (hv xs)
  | _ => first
    | (simp [tyD] at ht; done)
    | simp [isiD, tyD, isiTys, isiS]
theorem strOk_more : PyData.strOk ("more" : Str) = true := by decide +kernel
theorem strOk_fits : PyData.strOk ("fits" : Str) = true := by decide +kernel
theorem isiStr (z : Str) : isiD (.str z) "str" = some true := by simp [isiD, tyD, isiTys, isiS]
theorem cc7 : CC 7 = .int 3 := rfl
theorem cc5 : CC 5 = .str "fits" := rfl
theorem cc6 : CC 6 = .str "more" := rfl
theorem cc4 : CC 4 = .int 500 := rfl
theorem not_len {c : Cv} {t : List Int} {xs : List D} (h1 : (xs.length : Int) ≠ 1) (h3 : (xs.length : Int) ≠ 3) : evT P24 CC t24 [.val (curveD c), .val (trafD t), .val (.tup xs)] = .ok true [.val (curveD c), .val (trafD t), .val (.tup xs)] := by
  have e := notin13 h1 h3
  unfold t24
  simp only [vB] at e
  simp [evT, ev, evD, opds, opd, biS, isiT, lenD, cc7, e, truthD, vB, vI, Sl.d, sizeLine_eq]
theorem due_len {c : Cv} {t : List Int} {xs : List D} (h1 : xs.length ≠ 1) (h3 : xs.length ≠ 3) : dueB c t (.tup xs) = false := by
  match xs, h1, h3 with
  | [], _, _ => rfl
  | [x], h1, _ => exact absurd rfl h1
  | [x, y], _, _ => cases x <;> first | rfl | (cases y <;> rfl)
  | [x, y, w], _, h3 => exact absurd rfl h3
  | x :: y :: w :: u :: r, _, _ => cases x <;> first | rfl | (cases y <;> first | rfl | (cases w <;> rfl))
theorem in13_1 : cmpS .NotIn (.int 1) (.tup [.int 1, .int 3]) = some (vB false) := by simp [cmpS, flatD, eqF, vB]
theorem in13_3 : cmpS .NotIn (.int 3) (.tup [.int 1, .int 3]) = some (vB false) := by simp [cmpS, flatD, eqF, vB]
/-- one item, that is no text -/
theorem one_not {c : Cv} {t : List Int} {x : D} (hx : ∀ z, x ≠ .str z) (tx : (tyD x).isSome = true) : evT P24 CC t24 [.val (curveD c), .val (trafD t), .val (.tup [x])] = .ok true [.val (curveD c), .val (trafD t), .val (.tup [x])] := by
  have e := in13_1
  have e2 := not_strD hx tx
  unfold t24
  simp only [vB] at e
  simp [evT, ev, evD, opds, opd, biS, isiT, lenD, cc7, e, e2, ixS, atI, ixN, truthD, vB, vI, Sl.d, sizeLine_eq]
theorem three_not {c : Cv} {t : List Int} {x y w : D} (hx : ∀ z, x ≠ .str z) (tx : (tyD x).isSome = true) : evT P24 CC t24 [.val (curveD c), .val (trafD t), .val (.tup [x, y, w])] = .ok true [.val (curveD c), .val (trafD t), .val (.tup [x, y, w])] := by
  have e := in13_3
  have e2 := not_strD hx tx
  unfold t24
  simp only [vB] at e
  simp [evT, ev, evD, opds, opd, biS, isiT, lenD, cc7, e, e2, ixS, atI, ixN, truthD, vB, vI, Sl.d, sizeLine_eq]
theorem one_str {c : Cv} {t : List Int} {z : Str} : evT P24 CC t24 [.val (curveD c), .val (trafD t), .val (.tup [.str z])] = .ok false [.val (curveD c), .val (trafD t), .val (.tup [.str z])] := by
  have e := in13_1
  have e2 := isiStr z
  unfold t24
  simp only [vB] at e
  simp [evT, ev, evD, opds, opd, biS, isiT, lenD, cc7, e, e2, ixS, atI, ixN, truthD, vB, vI, Sl.d, sizeLine_eq]
theorem three_str {c : Cv} {t : List Int} {z : Str} {y w : D} : evT P24 CC t24 [.val (curveD c), .val (trafD t), .val (.tup [.str z, y, w])] = .ok false [.val (curveD c), .val (trafD t), .val (.tup [.str z, y, w])] := by
  have e := in13_3
  have e2 := isiStr z
  unfold t24
  simp only [vB] at e
  simp [evT, ev, evD, opds, opd, biS, isiT, lenD, cc7, e, e2, ixS, atI, ixN, truthD, vB, vI, Sl.d, sizeLine_eq]
theorem tail1 {c : Cv} {t : List Int} {z : Str} (hc : Curve c) (hl : t.length ≤ 500) (hz : PyData.strOk z = true) :
    exs P24 CC tl24 [.val (curveD c), .val (trafD t), .val (.tup [.str z])] = .rt (vB (dueB c t (.tup [.str z]))) [.val (curveD c), .val (trafD t), .val (.tup [.str z])] := by
  have q15 : P24 15 = F15 := rfl
  have tm := too_much_ok hc hl
  have e1 := eqD_str hz strOk_fits
  unfold tl24
  by_cases h : z = ("fits" : Str)
  · subst h
    cases hh : hits c t with
    | nil =>
      rw [hh] at tm
      simp [exs, ex, ev, evT, evD, opds, opd, args, callS, evC, popS, biS, lenD, q15, tm, headD, ixS, atI, ixN, putBack, cmpS, eqD_int, e1, cc5, isNonD, truthD, vB, vI, Sl.d, SR.then, dueB, isMore, isFits, hh]
    | cons p r =>
      rw [hh] at tm
      simp [exs, ex, ev, evT, evD, opds, opd, args, callS, evC, popS, biS, lenD, q15, tm, headD, prD, ixS, atI, ixN, putBack, cmpS, eqD_int, e1, cc5, isNonD, truthD, vB, vI, Sl.d, SR.then, dueB, isMore, isFits, hh]
  · have hb : (z == ("fits" : Str)) = false := by simpa using h
    rw [hb] at e1
    simp [exs, ex, ev, evT, evD, opds, opd, args, callS, evC, popS, biS, lenD, ixS, atI, ixN, putBack, cmpS, eqD_int, e1, cc5, isNonD, truthD, vB, vI, Sl.d, SR.then, dueB, isMore, isFits, h]
theorem f5_any {d : D} (ht : (tyD d).isSome = true) (lo hi : Int) : F5 [.val d, .val (.int lo), .val (.int hi)] = .ok (.val (.bl (intIn d lo hi))) [.val d, .val (.int lo), .val (.int hi)] := is_int_any P5 ht lo hi
/-- what is no text "more" with two numbers in bounds -/
theorem tail3_no {c : Cv} {t : List Int} {z : Str} {y w : D} (hz : PyData.strOk z = true) (ty : (tyD y).isSome = true) (tw : (tyD w).isSome = true) (h : ¬ (z = ("more" : Str) ∧ intIn y 0 500 = true ∧ intIn w 1 500 = true)) :
    exs P24 CC tl24 [.val (curveD c), .val (trafD t), .val (.tup [.str z, y, w])] = .rt (vB false) [.val (curveD c), .val (trafD t), .val (.tup [.str z, y, w])] := by
  have q5 : P24 5 = F5 := rfl
  have e1 := eqD_str hz strOk_more
  have ey := f5_any ty 0 500
  have ew := f5_any tw 1 500
  unfold tl24
  by_cases h1 : z = ("more" : Str)
  · subst h1
    cases h2 : intIn y 0 500 with
    | false =>
      rw [h2] at ey
      simp [exs, ex, ev, evT, evD, opds, opd, args, callS, evC, popS, biS, lenD, q5, ey, ixS, atI, ixN, putBack, putBack_ex, cmpS, eqD_int, e1, cc4, cc6, truthD, vB, vI, Sl.d, SR.then]
    | true =>
      have h3 : intIn w 1 500 = false := by
        cases h3 : intIn w 1 500 with
        | false => rfl
        | true => exact absurd ⟨rfl, h2, h3⟩ h
      rw [h2] at ey
      rw [h3] at ew
      simp [exs, ex, ev, evT, evD, opds, opd, args, callS, evC, popS, biS, lenD, q5, ey, ew, ixS, atI, ixN, putBack, putBack_ex, cmpS, eqD_int, e1, cc4, cc6, truthD, vB, vI, Sl.d, SR.then]
  · have hb : (z == ("more" : Str)) = false := by simpa using h1
    rw [hb] at e1
    simp [exs, ex, ev, evT, evD, opds, opd, args, callS, evC, popS, biS, lenD, ixS, atI, ixN, putBack, putBack_ex, cmpS, eqD_int, e1, cc4, cc6, truthD, vB, vI, Sl.d, SR.then]
theorem tail3_yes {c : Cv} {t : List Int} {a b : Int} (hc : Curve c) (hl : t.length ≤ 500) (ha : 0 ≤ a ∧ a ≤ 500) (hb : 1 ≤ b ∧ b ≤ 500) :
    exs P24 CC tl24 [.val (curveD c), .val (trafD t), .val (moreD (a, b))] = .rt (vB (decide ((a, b) ∈ hits c t))) [.val (curveD c), .val (trafD t), .val (moreD (a, b))] := by
  have q5 : P24 5 = F5 := rfl
  have q14 : P24 14 = F14 := rfl
  have e1 := eqD_str strOk_more strOk_more
  have ey : F5 [.val (.int a), .val (.int 0), .val (.int 500)] = .ok (.val (.bl true)) [.val (.int a), .val (.int 0), .val (.int 500)] := by
    have := f5_any (d := .int a) rfl 0 500
    rw [show intIn (.int a) 0 500 = true by simp [intIn, ha.1, ha.2]] at this; exact this
  have ew : F5 [.val (.int b), .val (.int 1), .val (.int 500)] = .ok (.val (.bl true)) [.val (.int b), .val (.int 1), .val (.int 500)] := by
    have := f5_any (d := .int b) rfl 1 500
    rw [show intIn (.int b) 1 500 = true by simp [intIn, hb.1, hb.2]] at this; exact this
  unfold tl24
  by_cases hs : (t.length : Int) < a + b
  · have no : ¬ (a, b) ∈ hits c t := by
      rw [mem_hits]
      rintro ⟨i, j, hij, e, -⟩
      cases e; omega
    simp [moreD, exs, ex, ev, evT, evD, opds, opd, args, callS, evC, popS, biS, lenD, q5, ey, ew, trafD, ixS, atI, ixN, putBack, putBack_ex, bopS, cmpS, eqD_int, e1, cc4, cc6, truthD, vB, vI, Sl.d, SR.then, hs, no]
  · obtain ⟨i, rfl⟩ : ∃ i : Nat, a = i := ⟨a.toNat, by omega⟩
    obtain ⟨j, rfl⟩ : ∃ j : Nat, b = 1 + (j : Int) := ⟨(b - 1).toNat, by omega⟩
    have lo := told_at_ok (t := 1 + (j : Int)) hc (by omega)
    have cut : cutD (t.map D.int) (some (i : Int)) (some ((i : Int) + (1 + (j : Int)))) = ((t.drop i).take (j + 1)).map D.int := by
      have := cut_nat (xs := t.map D.int) (s := i) (m := j + 1) (by simp; omega)
      rw [show (i : Int) + (1 + (j : Int)) = (i : Int) + ((j + 1 : Nat) : Int) by omega, this]
      simp
    have ei : intsOf (List.take (j + 1) (List.drop i (List.map D.int t))) = some ((t.drop i).take (j + 1)) := by
      rw [← List.map_drop, ← List.map_take, intsOf_ints]
    have mem : decide (((i : Int), 1 + (j : Int)) ∈ hits c t) = decide (letZ c (1 + (j : Int)) < sumZ t i (j + 1)) := by
      apply decide_eq_decide.mpr
      rw [mem_hits]
      constructor
      · rintro ⟨i', j', hij, e, h⟩
        have e1 := congrArg Prod.fst e
        have e2 := congrArg Prod.snd e
        simp only at e1 e2
        have : i' = i := by omega
        subst this
        have : j' = j := by omega
        subst this
        exact h
      · intro h
        exact ⟨i, j, by omega, rfl, h⟩
    rw [mem]
    simp [moreD, exs, ex, ev, evT, evD, opds, opd, args, callS, evC, popS, biS, lenD, q5, q14, lo, ey, ew, trafD, slP, partO, isNonE, partD, slS, cut, ei, ixS, atI, ixN, putBack, putBack_ex, bopS, cmpS, eqD_int, e1, cc4, cc6, truthD, vB, vI, Sl.d, SR.then, hs, sumZ]
    rfl
theorem len3 {α : Type} {xs : List α} (h : xs.length = 3) : ∃ a b c, xs = [a, b, c] := by
  match xs, h with
  | [a, b, c], _ => exact ⟨a, b, c, rfl⟩
theorem shows_ok {c : Cv} {t : List Int} {v : D} (hc : Curve c) (ht : Traf t) (hf : tyFine v = true) : F24 [.val (curveD c), .val (trafD t), .val v] = .ok (vB (dueB c t v)) [.val (curveD c), .val (trafD t), .val v] := by
  have hl := ht.len
  by_cases hv : ∃ xs, v = .tup xs
  · obtain ⟨xs, rfl⟩ := hv
    have hx : ∀ x ∈ xs, (tyD x).isSome = true ∧ strFine x = true := by simpa [tyFine] using hf
    by_cases l1 : xs.length = 1
    · obtain ⟨x, rfl⟩ := List.length_eq_one_iff.mp l1
      obtain ⟨tx, sx⟩ := hx x List.mem_cons_self
      by_cases hs : ∃ z, x = .str z
      · obtain ⟨z, rfl⟩ := hs
        refine f24_of (enter24 hc ht ?_)
        rw [one_str]
        simp only [SR.of, Bool.false_eq_true, if_false, x_exs0, s_nx]
        exact tail1 hc hl sx
      · rw [no24 hc ht (one_not (fun z e => hs ⟨z, e⟩) tx)]
        have : dueB c t (.tup [x]) = false := by
          cases x with
          | str z => exact absurd ⟨z, rfl⟩ hs
          | _ => rfl
        rw [this]
    · by_cases l3 : xs.length = 3
      · obtain ⟨x, y, w, rfl⟩ := len3 l3
        obtain ⟨tx, sx⟩ := hx x (by simp)
        obtain ⟨ty, _⟩ := hx y (by simp)
        obtain ⟨tw, _⟩ := hx w (by simp)
        by_cases hs : ∃ z, x = .str z
        · obtain ⟨z, rfl⟩ := hs
          refine f24_of (enter24 hc ht ?_)
          rw [three_str]
          simp only [SR.of, Bool.false_eq_true, if_false, x_exs0, s_nx]
          by_cases hm : z = ("more" : Str) ∧ intIn y 0 500 = true ∧ intIn w 1 500 = true
          · obtain ⟨rfl, hy, hw⟩ := hm
            cases y with
            | int a => cases w with
              | int b =>
                simp [intIn] at hy hw
                have e := tail3_yes (a := a) (b := b) hc hl hy hw
                have d : dueB c t (.tup [.str "more", .int a, .int b]) = decide ((a, b) ∈ hits c t) := by
                  have hm : isMore (.tup [.str "more", .int a, .int b]) = some (a, b) := if_pos ⟨rfl, hy.1, by omega⟩
                  unfold dueB
                  rw [hm]
                rw [d]
                exact e
              | _ => cases hw
            | _ => cases hy
          · rw [tail3_no sx ty tw hm]
            have : dueB c t (.tup [.str z, y, w]) = false := by
              cases y with
              | int a => cases w with
                | int b =>
                  by_cases h : z = ("more" : Str) ∧ 0 ≤ a ∧ 0 ≤ b
                  · have hm2 : isMore (.tup [.str z, .int a, .int b]) = some (a, b) := if_pos h
                    unfold dueB
                    rw [hm2]
                    refine decide_eq_false ?_
                    rw [mem_hits]
                    rintro ⟨i, j, hij, e, -⟩
                    cases e
                    exact hm ⟨h.1, by simp [intIn]; omega, by simp [intIn]; omega⟩
                  · have hm2 : isMore (.tup [.str z, .int a, .int b]) = none := if_neg h
                    unfold dueB
                    rw [hm2]; rfl
                | _ => rfl
              | _ => rfl
            rw [this]
        · rw [no24 hc ht (three_not (fun z e => hs ⟨z, e⟩) tx)]
          have : dueB c t (.tup [x, y, w]) = false := by
            cases x with
            | str z => exact absurd ⟨z, rfl⟩ hs
            | _ => rfl
          rw [this]
      · rw [no24 hc ht (not_len (by omega) (by omega)), due_len l1 l3]
  · have hv' : ∀ xs, v ≠ .tup xs := fun xs e => hv ⟨xs, e⟩
    have tv : (tyD v).isSome = true := by
      cases v with
      | tup xs => exact absurd rfl (hv' xs)
      | _ => exact hf
    have e2 := not_tup hv' tv
    rw [no24 hc ht (by unfold t24; simp [evT, ev, evD, opds, opd, biS, e2, truthD, Sl.d, vB])]
    have : dueB c t v = false := by
      cases v with
      | tup xs => exact absurd rfl (hv' xs)
      | _ => rfl
    rw [this]
end Lw
end

section
set_option Elab.async false
set_option linter.all false
set_option maxRecDepth 100000
set_option maxHeartbeats 1000000
/-! K16: data that can be compared and shown -/
namespace Lw
open PySem L2 PyProof.Rows
theorem pys_map {α : Type} {f : α → D} {g : α → PyData} (h : ∀ x, (f x).py = some (g x)) : ∀ xs : List α, D.pys (xs.map f) = some (xs.map g)
  | [] => by simp [D.pys]
  | x :: xs => by simp [D.pys, h x, pys_map h xs]
theorem canLay_map {α : Type} {g : α → PyData} : ∀ xs : List α, (∀ x ∈ xs, (g x).canLay0 = true) → PyData.canLayAll0 (xs.map g) = true
  | [], _ => by simp [PyData.canLayAll0]
  | x :: xs, h => by simp [PyData.canLayAll0, h x List.mem_cons_self, canLay_map xs fun y hy => h y (List.mem_cons_of_mem _ hy)]
theorem depth_map {α : Type} {g : α → PyData} {n : Nat} : ∀ xs : List α, (∀ x ∈ xs, (g x).depth ≤ n) → PyData.depthAll (xs.map g) ≤ n
  | [], _ => by simp [PyData.depthAll]
  | x :: xs, h => by
    have := h x List.mem_cons_self
    have := depth_map xs fun y hy => h y (List.mem_cons_of_mem _ hy)
    simp [PyData.depthAll]; omega
theorem ok_lst {α : Type} {f : α → D} {g : α → PyData} {xs : List α} (h : ∀ x, (f x).py = some (g x)) (h1 : ∀ x ∈ xs, (g x).canLay0 = true) (h2 : ∀ x ∈ xs, (g x).depth ≤ 60) : okD (.lst (xs.map f)) = some (.list (xs.map g)) := by
  have e1 := canLay_map xs h1
  have e2 := depth_map xs h2
  have e3 : SeqAt.shaped (.list (xs.map g)) = true := by
    simp [SeqAt.shaped, PyData.canLay0, PyData.depth, e1]; omega
  simp [okD, D.py, pys_map h xs, e3]
theorem ok_tup {α : Type} {f : α → D} {g : α → PyData} {xs : List α} (h : ∀ x, (f x).py = some (g x)) (h1 : ∀ x ∈ xs, (g x).canLay0 = true) (h2 : ∀ x ∈ xs, (g x).depth ≤ 60) : okD (.tup (xs.map f)) = some (.tuple (xs.map g)) := by
  have e1 := canLay_map xs h1
  have e2 := depth_map xs h2
  have e3 : SeqAt.shaped (.tuple (xs.map g)) = true := by
    simp [SeqAt.shaped, PyData.canLay0, PyData.depth, e1]; omega
  simp [okD, D.py, pys_map h xs, e3]
def prP (p : Int × Int) : PyData := .tuple [.int p.1, .int p.2]
def moreP (p : Int × Int) : PyData := .tuple [.str "more", .int p.1, .int p.2]
theorem pr_py (p : Int × Int) : (prD p).py = some (prP p) := by simp [prD, D.py, D.pys, prP]
theorem more_py (p : Int × Int) : (moreD p).py = some (moreP p) := by simp [moreD, D.py, D.pys, moreP]
theorem prP_lay (p : Int × Int) : (prP p).canLay0 = true ∧ (prP p).depth ≤ 60 := by simp [prP, PyData.canLay0, PyData.canLayAll0, PyData.depth, PyData.depthAll]
theorem moreP_lay (p : Int × Int) : (moreP p).canLay0 = true ∧ (moreP p).depth ≤ 60 := by simp [moreP, PyData.canLay0, PyData.canLayAll0, PyData.depth, PyData.depthAll, strOk_more]
theorem ok_prs (h : Cv) : okD (.lst (h.map prD)) = some (.list (h.map prP)) := ok_lst pr_py (fun p _ => (prP_lay p).1) fun p _ => (prP_lay p).2
theorem ok_nil : okD (.lst []) = some (.list []) := by rfl
theorem eq_prs_nil (h : Cv) : eqD (.lst (h.map prD)) (.lst []) = some h.isEmpty := by
  unfold eqD
  rw [ok_prs, ok_nil]
  cases h <;> simp [PyData.eqv, PyData.eqvAll]
theorem shaped_more (p : Int × Int) : SeqAt.shaped (moreP p) = true := by
  have := moreP_lay p
  simp [SeqAt.shaped, this.1]; omega
theorem ok_more (p : Int × Int) : okD (moreD p) = some (moreP p) := by simp [okD, more_py, shaped_more]
theorem ok_fits : okD fitsD = some (.tuple [.str "fits"]) := by simp [okD, fitsD, D.py, D.pys, SeqAt.shaped, PyData.canLay0, PyData.canLayAll0, PyData.depth, PyData.depthAll, strOk_fits]
theorem eq_more_fits (p : Int × Int) : eqD (moreD p) fitsD = some false := by
  unfold eqD
  rw [ok_more, ok_fits]
  simp [moreP, PyData.eqv, PyData.eqvAll]
theorem eq_fits_fits : eqD fitsD fitsD = some true := by decide +kernel
theorem eq_more_nil (p : Int × Int) : eqD (moreD p) (.tup []) = some false := by
  unfold eqD
  rw [ok_more, show okD (.tup []) = some (.tuple []) by rfl]
  simp [moreP, PyData.eqv, PyData.eqvAll]
theorem eq_fits_nil : eqD fitsD (.tup []) = some false := by decide +kernel
theorem eqv_more (p : Int × Int) : PyData.eqv (moreP p) (moreP p) = true := by simp [moreP, PyData.eqv, PyData.eqvAll]
theorem in_more (p : Int × Int) (r : Cv) : inD (moreD p) ((p :: r).map moreD) = some true := by
  unfold inD
  rw [ok_more, ok_lst more_py (fun p _ => (moreP_lay p).1) fun p _ => (moreP_lay p).2]
  simp [eqv_more]
theorem eqD_bl (a b : Bool) : eqD (.bl a) (.bl b) = some (a == b) := by
  have h : ∀ x, SeqAt.shaped (.bool x) = true := fun x => by simp [SeqAt.shaped, PyData.canLay0, PyData.depth]
  simp [eqD, okD, D.py, h, PyData.eqv]
theorem in_strs {x : Str} {ys : List Str} (hx : PyData.strOk x = true) (hy : ∀ y ∈ ys, PyData.strOk y = true) : inD (.str x) (ys.map D.str) = some (ys.any fun y => y == x) := by
  unfold inD
  rw [show okD (.str x) = some (.str x) by simp [okD, D.py, shaped_str hx], ok_lst (f := D.str) (g := PyData.str) (fun y => by simp [D.py]) (fun y h => by simp [PyData.canLay0, hy y h]) (fun y _ => by simp [PyData.depth])]
  simp only [List.any_map]
  rfl
theorem int_py : ∀ x : Int, (D.int x).py = some (.int x) := fun x => by simp [D.py]
theorem eqvAll_ints : ∀ a b : List Int, PyData.eqvAll (a.map .int) (b.map .int) = decide (a = b)
  | [], [] => by simp [PyData.eqvAll]
  | [], _ :: _ => by simp [PyData.eqvAll]
  | _ :: _, [] => by simp [PyData.eqvAll]
  | x :: a, y :: b => by
    simp [PyData.eqvAll, PyData.eqv, eqvAll_ints a b]
    by_cases h : x = y <;> simp [h]
theorem ok_traf (t : List Int) : okD (trafD t) = some (.tuple (t.map .int)) := ok_tup int_py (fun x _ => by simp [PyData.canLay0]) (fun x _ => by simp [PyData.depth])
theorem eq_traf (a b : List Int) : eqD (trafD a) (trafD b) = some (decide (a = b)) := by
  unfold eqD
  rw [ok_traf, ok_traf]
  simp only [PyData.eqv]
  rw [eqvAll_ints]
/-! texts -/
theorem strOk_app (a b : Str) (ha : PyData.strOk a = true) (hb : PyData.strOk b = true) : PyData.strOk (a ++ b) = true := by
  unfold PyData.strOk at *
  have e : (a ++ b).cps = a.cps ++ b.cps := rfl
  rw [e, Array.all_append, ha, hb]; rfl
theorem strOk_join (sep : Str) (hs : PyData.strOk sep = true) : ∀ ts : List Str, (∀ x ∈ ts, PyData.strOk x = true) → PyData.strOk (Str.join sep ts) = true
  | [], _ => by simp only [Str.join]; decide +kernel
  | [x], h => by simp only [Str.join]; exact h x List.mem_cons_self
  | x :: y :: r, h => by
    rw [Str.join]
    · exact strOk_app _ _ (strOk_app _ _ (h x List.mem_cons_self) hs) (strOk_join sep hs (y :: r) fun z hz => h z (List.mem_cons_of_mem _ hz))
    · intro z; cases z
theorem strOk_tupT {ts : List Str} (h : ∀ x ∈ ts, PyData.strOk x = true) : PyData.strOk (tupleText ts) = true := by
  unfold tupleText
  refine strOk_app _ _ (strOk_app _ _ (by decide +kernel) (strOk_join _ (by decide +kernel) ts h)) ?_
  split <;> decide +kernel
theorem strOk_int (i : Int) : PyData.strOk (Str.ofString (toString i)) = true := by
  unfold PyData.strOk
  rw [Array.all_eq_true_iff_forall_mem]
  intro c hc
  have hc' : c ∈ (Str.ofString (toString i)).cps.toList := by simpa using hc
  by_cases h : c < 0x110000
  · simpa using h
  · exact absurd hc' (int_text_free' c ⟨by omega, by omega⟩ i)
theorem repr_int {i : Int} (h : i.natAbs < 10 ^ 12) : reprD (.int i) = some (Str.ofString (toString i)) := by
  have h1 : i.natAbs.log2 < 1920 := Nat.lt_of_lt_of_le (log_lt (k := 40) (by decide) (Nat.lt_trans h (by decide))) (by decide)
  have h2 := PyData.shown_int_le h
  have h3 : (Str.ofString (toString i)).length ≤ sizeLine := by
    rw [sizeLine_eq]; simp only [PyData.shown] at h2; omega
  simp [reprD, D.pd, PyData.showable, PyData.hasDict, PyData.depth, PyData.shown, h1]
  exact h3
end Lw
end

section
set_option Elab.async false
set_option linter.all false
set_option maxRecDepth 100000
set_option maxHeartbeats 1000000
/-! K17: whether it is told rightly what fits -/
namespace Lw
open PySem L2
theorem bool23 (a b : Bool) : F23 [.val (.bl a), .val (.bl b)] = .ok (.val (.bl (a == b))) [.val (.bl a), .val (.bl b)] := by
  unfold F23 B23
  simp [fnS, exs, ex, ev, opds, opd, biS, isiD, tyD, isiTys, isiS, cmpS, eqD_bl, vB, Sl.d, wipeE, SR.then]
theorem good_fixed {v : D} (h : v ∈ fixedV) : good v = true := List.all_eq_true.mp fixed_good v h
theorem good_seed {c : Cv} {t : List Int} {p : Int × Int} (hp : p ∈ hits c t) (ht : t.length ≤ 12) {v : D} (hv : v ∈ seed p) : good v = true := by
  obtain ⟨i, j, hij, rfl, -⟩ := mem_hits.mp hp
  have h1 := seeds_good i (by omega)
  unfold seedsAt at h1
  have h2 := List.all_eq_true.mp h1 j (List.mem_range.mpr (by omega))
  exact List.all_eq_true.mp h2 v hv
theorem good_more {a b : Nat} (ha : a < 2) (hb : b < 13) : good (moreD ((a : Int), (b : Int))) = true := by
  have h1 := List.all_eq_true.mp mores_good a (List.mem_range.mpr ha)
  exact List.all_eq_true.mp h1 b (List.mem_range.mpr hb)
theorem mem_bents {xs : List D} {d : D} (h : (∃ (i : Nat) (x y : D), xs[i]? = some x ∧ y ∈ atomBents x ∧ d = .tup (cutD xs none (some (i : Int)) ++ [y] ++ cutD xs (some ((i : Int) + 1)) none)) ∨ d ∈ tupBents xs) : d ∈ bents xs := by
  unfold bents
  rcases h with ⟨i, x, y, hx, hy, rfl⟩ | h
  · refine List.mem_append_right _ (List.mem_flatMap.mpr ⟨i, List.mem_range.mpr ?_, ?_⟩)
    · rcases Nat.lt_or_ge i xs.length with q | q
      · exact q
      · rw [List.getElem?_eq_none q] at hx; cases hx
    · rw [hx]; exact List.mem_map.mpr ⟨y, hy, rfl⟩
  · exact List.mem_append_left _ h
theorem bent_told {c : Cv} {t : List Int} {n : Int} {l : List D} (ht : t.length ≤ 12) (hn : n < 2 ^ 19) (h : PotOk n l) :
    ∃ d l', good d = true ∧ PotOk (n + 3) l' ∧ F22 [.own (.lst l), .val (fitD (hits c t))] = .ok (.val d) [.own (.lst l'), .val (fitD (hits c t))] := by
  cases hh : hits c t with
  | nil =>
    obtain ⟨d, l', hd, hp, e⟩ := bent_tup (xs := [.str "fits"]) (I := atomBents) hn h (by simp) (by simp) eq_fits_nil (fun x hx l1 h1 => by
      simp only [List.mem_singleton] at hx; subst hx
      exact bent_str (by omega) h1 (by decide +kernel))
    exact ⟨d, l', good_fixed (List.mem_append_right _ (mem_bents hd)), hp, e⟩
  | cons p r =>
    have pm : p ∈ hits c t := by rw [hh]; exact List.mem_cons_self
    have pb : (0 ≤ p.1 ∧ p.1 < 12) ∧ 0 ≤ p.2 ∧ p.2 < 13 := by
      obtain ⟨i, j, hij, e, -⟩ := mem_hits.mp pm
      rw [e]; simp only; omega
    obtain ⟨d, l', hd, hp, e⟩ := bent_tup (xs := moreX p) (I := atomBents) hn h (by simp [moreX]) (by simp [moreX]) (eq_more_nil p) (fun x hx l1 h1 => by
      simp only [moreX, List.mem_cons, List.not_mem_nil, or_false] at hx
      rcases hx with rfl | rfl | rfl
      · exact bent_str (by omega) h1 (by decide +kernel)
      · exact bent_int (by omega) h1 (by omega)
      · exact bent_int (by omega) h1 (by omega))
    exact ⟨d, l', good_seed pm ht (by unfold seed; exact List.mem_cons_of_mem _ (List.mem_cons_of_mem _ (mem_bents hd))), hp, e⟩
def tx (p : Int × Int) : Str := (reprD (moreD p)).getD ""
theorem good_repr {v : D} (h : good v = true) : ∃ x, reprD v = some x ∧ PyData.strOk x = true ∧ parseMore x = isMore v ∧ decide (x = fitsTx) = isFits v := by
  unfold good reprFine at h
  simp only [Bool.and_eq_true] at h
  obtain ⟨h1, h2⟩ := h
  cases e : reprD v with
  | none => rw [e] at h2; cases h2
  | some x =>
    rw [e] at h2
    simp only [Bool.and_eq_true, decide_eq_true_eq, beq_iff_eq] at h2
    exact ⟨x, rfl, h2.1.1, h2.1.2, h2.2⟩
theorem good_ty {v : D} (h : good v = true) : tyFine v = true := by
  unfold good at h
  exact (Bool.and_eq_true_iff.mp h).1
theorem hit_tx {c : Cv} {t : List Int} {p : Int × Int} (hp : p ∈ hits c t) (ht : t.length ≤ 12) : reprD (moreD p) = some (tx p) ∧ PyData.strOk (tx p) = true ∧ parseMore (tx p) = some p := by
  obtain ⟨x, h1, h2, h3, -⟩ := good_repr (good_seed hp ht (v := moreD p) List.mem_cons_self)
  have e : tx p = x := by unfold tx; rw [h1]; rfl
  rw [e]
  refine ⟨h1, h2, ?_⟩
  rw [h3]
  obtain ⟨i, j, hij, rfl, -⟩ := mem_hits.mp hp
  have q : (0 : Int) ≤ (i : Int) ∧ (0 : Int) ≤ 1 + (j : Int) := by omega
  show (if ("more" : Str) = ("more" : Str) ∧ (0 : Int) ≤ (i : Int) ∧ (0 : Int) ≤ 1 + (j : Int) then some ((i : Int), 1 + (j : Int)) else none) = _
  exact if_pos ⟨rfl, q.1, q.2⟩
theorem isMore_eq {v : D} {p : Int × Int} (h : isMore v = some p) : v = moreD p := by
  unfold isMore at h
  split at h
  · split at h
    · rename_i hm
      cases h
      rw [hm.1]; rfl
    · cases h
  · cases h
/-- what is due, by the texts -/
theorem due_eq {c : Cv} {t : List Int} {v : D} {x : Str} (ht : t.length ≤ 12) (hx : reprD v = some x) (h3 : parseMore x = isMore v) (h4 : decide (x = fitsTx) = isFits v) :
    (((hits c t).map tx).any (fun y => y == x) || ((hits c t).isEmpty && (x == fitsTx))) = dueB c t v := by
  have e4 : (x == fitsTx) = isFits v := by rw [← h4]; by_cases q : x = fitsTx <;> simp [q]
  rw [e4]
  unfold dueB
  cases hm : isMore v with
  | none =>
    have no : ((hits c t).map tx).any (fun y => y == x) = false := by
      rw [List.any_eq_false]
      intro y hy
      obtain ⟨p, hp, rfl⟩ := List.mem_map.mp hy
      intro q
      have q : tx p = x := by simpa using q
      have := (hit_tx hp ht).2.2
      rw [q, h3, hm] at this
      cases this
    rw [no]
    simp only [Bool.false_or]
    exact Bool.and_comm _ _
  | some p =>
    have ev := isMore_eq hm
    have nf : isFits v = false := by rw [ev] <;> rfl
    rw [nf]
    simp only [Bool.and_false, Bool.or_false]
    by_cases hp : p ∈ hits c t
    · rw [decide_eq_true hp, List.any_eq_true]
      refine ⟨tx p, List.mem_map.mpr ⟨p, hp, rfl⟩, ?_⟩
      have := (hit_tx hp ht).1
      rw [ev, this] at hx
      cases hx; simp
    · rw [decide_eq_false hp, List.any_eq_false]
      intro y hy
      obtain ⟨q, hq, rfl⟩ := List.mem_map.mp hy
      intro z
      have z : tx q = x := by simpa using z
      have := (hit_tx hq ht).2.2
      rw [z, h3, hm] at this
      cases this
      exact hp hq
/-! ### the comprehensions -/
theorem notOwn8 {s0 s1 s2 s3 s4 s5 s6 s7 s9 : Sl} : notOwn [s0, s1, s2, s3, s4, s5, s6, s7, .no, s9] [8] = true := by simp [notOwn]
theorem wipe8 {s0 s1 s2 s3 s4 s5 s6 s7 s8 s9 : Sl} : wipeE [s0, s1, s2, s3, s4, s5, s6, s7, s8, s9] [8] = [s0, s1, s2, s3, s4, s5, s6, s7, .no, s9] := by simp [wipeE]
theorem lc_more {it : E} {E0 : SE} {ps : Cv} {s0 s1 s2 s3 s4 s5 s6 s7 s9 : Sl} (hp : ps.length ≤ 1000) (hi : evI P25 CC it E0 = .ok (ps.map prD) [s0, s1, s2, s3, s4, s5, s6, s7, .no, s9]) :
    ev P25 CC (.lc (.bop .Add (.tup [(.str "more")]) (.var 8)) (.nm 8) it [] [8]) E0 = .ok (.own (.lst (ps.map moreD))) [s0, s1, s2, s3, s4, s5, s6, s7, .no, s9] := by
  generalize hE : ev P25 CC (.bop .Add (.tup [(.str "more")]) (.var 8)) = elt
  have lc := lcI_mapG (bt := bindT (.nm 8)) (tests := evTs P25 CC []) (elt := elt) (own := [8]) (W := [s0, s1, s2, s3, s4, s5, s6, s7, .no, s9]) (g := prD) (f := moreD) wipe8 ps [] (by rw [sizeLine_eq]; simp; omega) (fun p hp => by
    refine ⟨[s0, s1, s2, s3, s4, s5, s6, s7, .val (prD p), s9], [s0, s1, s2, s3, s4, s5, s6, s7, .val (prD p), s9], [s0, s1, s2, s3, s4, s5, s6, s7, .val (prD p), s9], .val (moreD p), by simp [bindT], by simp [evTs, lcI.allT], ?_, rfl, wipe8⟩
    rw [← hE]
    simp [ev, evD, opd, bopS, prD, moreD, Sl.d, sizeLine_eq])
  rw [ev_lc, s_bind, hi, s_ok]
  simp only [hE, notOwn8, if_true, wipe8, lc, List.nil_append]
  simp [backE]
theorem lc_repr {it : E} {E0 : SE} {ps : Cv} {s0 s1 s2 s3 s4 s5 s6 s7 s9 : Sl} (hp : ps.length ≤ 1000) (hr : ∀ p ∈ ps, reprD (moreD p) = some (tx p)) (hi : evI P25 CC it E0 = .ok (ps.map prD) [s0, s1, s2, s3, s4, s5, s6, s7, .no, s9]) :
    ev P25 CC (.lc (.bi .repr [(.bop .Add (.tup [(.str "more")]) (.var 8))]) (.nm 8) it [] [8]) E0 = .ok (.own (.lst ((ps.map tx).map .str))) [s0, s1, s2, s3, s4, s5, s6, s7, .no, s9] := by
  generalize hE : ev P25 CC (.bi .repr [(.bop .Add (.tup [(.str "more")]) (.var 8))]) = elt
  have lc := lcI_mapG (bt := bindT (.nm 8)) (tests := evTs P25 CC []) (elt := elt) (own := [8]) (W := [s0, s1, s2, s3, s4, s5, s6, s7, .no, s9]) (g := prD) (f := fun p => .str (tx p)) wipe8 ps [] (by rw [sizeLine_eq]; simp; omega) (fun p hp => by
    refine ⟨[s0, s1, s2, s3, s4, s5, s6, s7, .val (prD p), s9], [s0, s1, s2, s3, s4, s5, s6, s7, .val (prD p), s9], [s0, s1, s2, s3, s4, s5, s6, s7, .val (prD p), s9], .val (.str (tx p)), by simp [bindT], by simp [evTs, lcI.allT], ?_, rfl, wipe8⟩
    have := hr p hp
    unfold moreD at this
    rw [← hE]
    simp [ev, evD, opds, opd, biS, bopS, prD, this, Sl.d, sizeLine_eq])
  rw [ev_lc, s_bind, hi, s_ok]
  simp only [hE, notOwn8, if_true, wipe8, lc, List.nil_append]
  simp [backE]
theorem lc_bent {c : Cv} {t : List Int} {n : Int} {l : List D} {s1 s2 s3 s5 s6 s7 : Sl} (ht : t.length ≤ 12) (hn : n < 2 ^ 18) (h : PotOk n l) :
    ∃ vs l', (∀ v ∈ vs, good v = true) ∧ vs.length ≤ 8 ∧ PotOk (n + 24) l' ∧ ev P25 CC (.lc (.call 22 [(.var 0), (.var 4)]) (.nm 9) (.rng1 (.int 8)) [] [9]) [.own (.lst l), s1, s2, s3, .val (fitD (hits c t)), s5, s6, s7, .no, .no] = .ok (.own (.lst vs)) [.own (.lst l'), s1, s2, s3, .val (fitD (hits c t)), s5, s6, s7, .no, .no] := by
  have q22 : P25 22 = F22 := rfl
  generalize hE : ev P25 CC (.call 22 [(.var 0), (.var 4)]) = elt
  have len8 : (rngD 0 8).length = 8 := rfl
  obtain ⟨acc, E', el, l', h1, h2, h3, h4⟩ := lcI_ind (bt := bindT (.nm 9)) (tests := evTs P25 CC []) (elt := elt) (own := [9])
    (fun i acc E => ∃ l', (∀ v ∈ acc, good v = true) ∧ acc.length = i ∧ PotOk (n + 3 * i) l' ∧ E = [.own (.lst l'), s1, s2, s3, .val (fitD (hits c t)), s5, s6, s7, .no, .no]) (rngD 0 8)
    (fun i acc E d hd ⟨l', h1, h2, h3, eE⟩ => by
      subst eE
      have hi : i < 8 := by
        rcases Nat.lt_or_ge i (rngD 0 8).length with q | q
        · omega
        · rw [List.getElem?_eq_none q] at hd; cases hd
      obtain ⟨v, l2, hv, hp, e⟩ := bent_told (c := c) (t := t) ht (by omega) h3
      refine ⟨[.own (.lst l'), s1, s2, s3, .val (fitD (hits c t)), s5, s6, s7, .no, .val d], [.own (.lst l'), s1, s2, s3, .val (fitD (hits c t)), s5, s6, s7, .no, .val d], true, by simp [bindT, wipeE], by simp [evTs, lcI.allT], fun _ => ⟨.val v, [.own (.lst l2), s1, s2, s3, .val (fitD (hits c t)), s5, s6, s7, .no, .val d], ?_, ?_, l2, ?_, by simp [h2], ?_, by simp [wipeE]⟩, fun z => by cases z⟩
      · rw [← hE]
        simp [ev, args, callS, evC, popS, q22, e, putBack]
      · rw [sizeLine_eq]; omega
      · intro w hw
        rcases List.mem_append.mp hw with hw | hw
        · exact h1 w hw
        · simp only [List.mem_singleton] at hw; subst hw; exact hv
      · rw [show n + 3 * ((i + 1 : Nat) : Int) = n + 3 * i + 3 by omega]; exact hp) [] [.own (.lst l), s1, s2, s3, .val (fitD (hits c t)), s5, s6, s7, .no, .no] ⟨l, by simp, rfl, by simpa using h, rfl⟩
  refine ⟨acc, l', h1, by omega, h3.mono (by omega), ?_⟩
  subst h4
  have w9 : wipeE [.own (.lst l), s1, s2, s3, .val (fitD (hits c t)), s5, s6, s7, .no, .no] [9] = [.own (.lst l), s1, s2, s3, .val (fitD (hits c t)), s5, s6, s7, .no, .no] := by simp [wipeE]
  have n9 : notOwn [.own (.lst l), s1, s2, s3, .val (fitD (hits c t)), s5, s6, s7, .no, .no] [9] = true := by simp [notOwn]
  have ei : evI P25 CC (.rng1 (.int 8)) [.own (.lst l), s1, s2, s3, .val (fitD (hits c t)), s5, s6, s7, .no, .no] = .ok (rngD 0 8) [.own (.lst l), s1, s2, s3, .val (fitD (hits c t)), s5, s6, s7, .no, .no] := by
    simp [evI, ev, vI]
  rw [ev_lc, s_bind, ei, s_ok]
  simp only [hE, n9, if_true, w9, el]
  simp [backE]
end Lw
end

section
set_option Elab.async false
set_option linter.all false
set_option maxRecDepth 100000
set_option maxHeartbeats 1000000
/-! K18: whether it is told rightly what fits, the whole -/
namespace Lw
open PySem L2
theorem ev_cmp (Φ : Nat → M Sl) (C : Nat → D) (o : CmpOp) (a b : E) : ev Φ C (.cmp o a b) = M.bind (evA [opd Φ C a, opd Φ C b]) fun ds => M.opt (match ds with | [x, y] => cmpS o x y | _ => none) := by rw [ev] <;> rfl
theorem ev_bop (Φ : Nat → M Sl) (C : Nat → D) (o : Operator) (a b : E) : ev Φ C (.bop o a b) = M.bind (evA [opd Φ C a, opd Φ C b]) fun ds => M.opt (match ds with | [x, y] => bopS o x y | _ => none) := by rw [ev] <;> rfl
theorem ev_orV (Φ : Nat → M Sl) (C : Nat → D) (a b : E) : ev Φ C (.orV a b) = M.bind (ev Φ C a) fun s => match s with
    | .val (.bl false) => ev Φ C b
    | .val (.bl true) => M.pure (vB true)
    | _ => M.bad := by rw [ev] <;> rfl
theorem opd_bi (Φ : Nat → M Sl) (C : Nat → D) (b : Bi) (as : List E) : opd Φ C (.bi b as) = .ex (ev Φ C (.bi b as)) := by simp only [opd]
theorem opd_bop (Φ : Nat → M Sl) (C : Nat → D) (o : Operator) (a b : E) : opd Φ C (.bop o a b) = .ex (ev Φ C (.bop o a b)) := by simp only [opd]
theorem opd_cmp (Φ : Nat → M Sl) (C : Nat → D) (o : CmpOp) (a b : E) : opd Φ C (.cmp o a b) = .ex (ev Φ C (.cmp o a b)) := by simp only [opd]
theorem opd_lst (Φ : Nat → M Sl) (C : Nat → D) (a : List E) : opd Φ C (.lst a) = .ex (ev Φ C (.lst a)) := by simp only [opd]
theorem opd_varK (Φ : Nat → M Sl) (C : Nat → D) (i : Nat) : opd Φ C (.var i) = .slot i := by simp only [opd]
theorem evT_or (Φ : Nat → M Sl) (C : Nat → D) (a b : E) : evT Φ C (.orV a b) = M.bind (evT Φ C a) fun k => if k then M.pure true else evT Φ C b := by rw [evT]
theorem evT_and (Φ : Nat → M Sl) (C : Nat → D) (a b : E) : evT Φ C (.andV a b) = M.bind (evT Φ C a) fun k => if k then evT Φ C b else M.pure false := by rw [evT]
theorem evT_not (Φ : Nat → M Sl) (C : Nat → D) (a : E) : evT Φ C (.notV a) = M.bind (evT Φ C a) fun k => M.pure (!k) := by rw [evT]
theorem evT_cmpK (Φ : Nat → M Sl) (C : Nat → D) (o : CmpOp) (a b : E) : evT Φ C (.cmp o a b) = M.bind (evA [opd Φ C (.cmp o a b)]) fun ds => M.opt (match ds with | [d] => truthD d | _ => none) := by rw [evT] <;> first | rfl | (intros; rename_i z; cases z)
def prsL (c : Cv) (t : List Int) : D := .lst ((hits c t).map prD)
theorem hits144 {c : Cv} {t : List Int} (ht : t.length ≤ 12) : (hits c t).length ≤ 144 := by
  have h1 := hits_len c t t.length
  have h2 : t.length * t.length ≤ 12 * 12 := Nat.mul_le_mul ht ht
  unfold hits
  omega
theorem fz3 {c : Cv} {t : List Int} {s0 s1 s2 s3 s4 s5 s6 s7 s9 : Sl} (hs : s3 = .own (prsL c t) ∨ s3 = .val (prsL c t)) : evI P25 CC (.fz 3) [s0, s1, s2, s3, s4, s5, s6, s7, .no, s9] = .ok ((hits c t).map prD) [s0, s1, s2, .val (prsL c t), s4, s5, s6, s7, .no, s9] := by
  rcases hs with rfl | rfl <;> simp [evI, ev, fzS, itemsD, prsL, Sl.d]
def dueE : E := (.orV (.cmp .In (.bi .repr [(.var 6)]) (.lc (.bi .repr [(.bop .Add (.tup [(.str "more")]) (.var 8))]) (.nm 8) (.fz 3) [] [8])) (.andV (.cmp .Eq (.var 3) (.lst [])) (.cmp .Eq (.bi .repr [(.var 6)]) (.str "('fits',)"))))
theorem strOk_fitsTx : PyData.strOk fitsTx = true := by decide +kernel
theorem dueE_ok {c : Cv} {t : List Int} {v : D} {s0 s1 s2 s3 s4 s5 s7 s9 : Sl} (ht : t.length ≤ 12) (hg : good v = true) (hs : s3 = .own (prsL c t) ∨ s3 = .val (prsL c t)) :
    ev P25 CC dueE [s0, s1, s2, s3, s4, s5, .val v, s7, .no, s9] = .ok (vB (dueB c t v)) [s0, s1, s2, .val (prsL c t), s4, s5, .val v, s7, .no, s9] := by
  obtain ⟨x, hx, sx, h3, h4⟩ := good_repr hg
  have er : ∀ s3, ev P25 CC (.bi .repr [(.var 6)]) [s0, s1, s2, s3, s4, s5, .val v, s7, .no, s9] = .ok (.val (.str x)) [s0, s1, s2, s3, s4, s5, .val v, s7, .no, s9] := fun s3 => by
    simp [ev, opds, opd, biS, hx, Sl.d]
  have h144 := hits144 (c := c) ht
  have el := lc_repr (by omega) (fun p hp => (hit_tx hp ht).1) (fz3 (s0 := s0) (s1 := s1) (s2 := s2) (s4 := s4) (s5 := s5) (s6 := .val v) (s7 := s7) (s9 := s9) hs)
  have ea : ev P25 CC (.cmp .In (.bi .repr [(.var 6)]) (.lc (.bi .repr [(.bop .Add (.tup [(.str "more")]) (.var 8))]) (.nm 8) (.fz 3) [] [8])) [s0, s1, s2, s3, s4, s5, .val v, s7, .no, s9] = .ok (vB (((hits c t).map tx).any (fun y => y == x))) [s0, s1, s2, .val (prsL c t), s4, s5, .val v, s7, .no, s9] := by
    have hi := in_strs (x := x) (ys := (hits c t).map tx) sx (fun y hy => by obtain ⟨p, hp, rfl⟩ := List.mem_map.mp hy; exact (hit_tx hp ht).2.1)
    rw [ev_cmp, opd_bi, opd_lc, s_bind, s_evA2, er, s_ok, s_evA2, el, s_ok, s_evA0, s_ok, s_ok, s_ok]
    simp only [Sl.d, cmpS, hi, Option.map_some, s_some, s_pure]
  have eb : ev P25 CC (.andV (.cmp .Eq (.var 3) (.lst [])) (.cmp .Eq (.bi .repr [(.var 6)]) (.str "('fits',)"))) [s0, s1, s2, .val (prsL c t), s4, s5, .val v, s7, .no, s9] = .ok (vB ((hits c t).isEmpty && (x == fitsTx))) [s0, s1, s2, .val (prsL c t), s4, s5, .val v, s7, .no, s9] := by
    have e1 := eq_prs_nil (hits c t)
    have e2 := eqD_str sx strOk_fitsTx
    unfold fitsTx at e2
    cases hq : (hits c t).isEmpty <;> rw [hq] at e1 <;> simp [ev, evD, opds, opd, prsL, cmpS, e1, e2, biS, hx, vB, Sl.d, sizeLine_eq] <;> try rfl
  unfold dueE
  rw [ev_orV, s_bind, ea, s_ok]
  have de := due_eq (c := c) ht hx h3 h4
  cases hq : ((hits c t).map tx).any (fun y => y == x) with
  | false =>
    rw [hq] at de
    simp only [vB, eb]
    simp only [Bool.false_or] at de
    rw [de]
  | true =>
    rw [hq] at de
    simp only [Bool.true_or] at de
    rw [← de]; rfl
def body25 : List S := [.set 7 dueE, .ite (.notV (.call 23 [(.call 24 [(.var 1), (.var 2), (.var 6)]), (.var 7)])) [.ret (.bl false)] []]
theorem body25_ok {c : Cv} {t : List Int} {v : D} {s0 s3 s4 s5 s7 : Sl} (hc : Curve c) (htr : Traf t) (ht : t.length ≤ 12) (hg : good v = true) (hs : s3 = .own (prsL c t) ∨ s3 = .val (prsL c t)) :
    exs P25 CC body25 [s0, .val (curveD c), .val (trafD t), s3, s4, s5, .val v, s7, .no, .no] = .nx [s0, .val (curveD c), .val (trafD t), .val (prsL c t), s4, s5, .val v, .val (.bl (dueB c t v)), .no, .no] := by
  have q23 : P25 23 = F23 := rfl
  have q24 : P25 24 = F24 := rfl
  have e1 : ex P25 CC (.set 7 dueE) [s0, .val (curveD c), .val (trafD t), s3, s4, s5, .val v, s7, .no, .no] = .nx [s0, .val (curveD c), .val (trafD t), .val (prsL c t), s4, s5, .val v, .val (.bl (dueB c t v)), .no, .no] := by
    rw [x_set, dueE_ok ht hg hs]
    simp [SR.of, putS, vB]
  have e24 := shows_ok hc htr (good_ty hg)
  have e23 := bool23 (dueB c t v) (dueB c t v)
  simp only [vB] at e24
  unfold body25
  rw [x_exs1, e1, s_nx]
  simp [exs, ex, ev, evT, opds, opd, args, callS, evC, popS, q23, q24, e24, e23, putBack, putBack_ex, truthD, Sl.d, SR.then]
def T25 : E := (.orV (.cmp .NotEq (.cmp .Eq (.var 4) (.tup [(.str "fits")])) (.cmp .Eq (.var 3) (.lst []))) (.andV (.cmp .NotEq (.var 4) (.tup [(.str "fits")])) (.cmp .NotIn (.var 4) (.lc (.bop .Add (.tup [(.str "more")]) (.var 8)) (.nm 8) (.fz 3) [] [8]))))
theorem T25_ok {c : Cv} {t : List Int} {s0 s1 s2 s5 s6 s7 s9 : Sl} (ht : t.length ≤ 12) : ∃ s3, (s3 = .own (prsL c t) ∨ s3 = .val (prsL c t)) ∧
    evT P25 CC T25 [s0, s1, s2, .own (prsL c t), .val (fitD (hits c t)), s5, s6, s7, .no, s9] = .ok false [s0, s1, s2, s3, .val (fitD (hits c t)), s5, s6, s7, .no, s9] := by
  have e1 := eq_prs_nil (hits c t)
  have h144 := hits144 (c := c) ht
  have el := lc_more (by omega) (fz3 (c := c) (t := t) (s0 := s0) (s1 := s1) (s2 := s2) (s4 := .val (fitD (hits c t))) (s5 := s5) (s6 := s6) (s7 := s7) (s9 := s9) (.inl rfl))
  unfold T25
  cases hh : hits c t with
  | nil =>
    have eff := eq_fits_fits
    have e0 : eqD (.lst []) (.lst []) = some true := by have := eq_prs_nil []; simpa using this
    refine ⟨.own (prsL c t), .inl rfl, ?_⟩
    simp only [prsL, hh, List.map_nil]
    simp only [fitsD] at eff
    simp [evT, ev, evD, opds, opd, fitD, fitsD, eff, e0, cmpS, eqD_bl, truthD, vB, Sl.d, sizeLine_eq]
  | cons p r =>
    rw [hh] at e1 el
    refine ⟨.val (prsL c t), .inr rfl, ?_⟩
    have ef := eq_more_fits p
    have en : eqD (.lst ((p :: r).map prD)) (.lst []) = some false := e1
    have ei := in_more p r
    simp only [fitsD] at ef
    have ea : evT P25 CC (.cmp .NotEq (.cmp .Eq (.var 4) (.tup [(.str "fits")])) (.cmp .Eq (.var 3) (.lst []))) [s0, s1, s2, .own (prsL c t), .val (fitD (p :: r)), s5, s6, s7, .no, s9] = .ok false [s0, s1, s2, .own (prsL c t), .val (fitD (p :: r)), s5, s6, s7, .no, s9] := by
      simp only [prsL, hh]
      simp only [List.map_cons] at en ⊢
      simp [evT, ev, evD, opds, opd, fitD, ef, en, cmpS, eqD_bl, truthD, vB, Sl.d, sizeLine_eq]
    have eb : evT P25 CC (.cmp .NotEq (.var 4) (.tup [(.str "fits")])) [s0, s1, s2, .own (prsL c t), .val (fitD (p :: r)), s5, s6, s7, .no, s9] = .ok true [s0, s1, s2, .own (prsL c t), .val (fitD (p :: r)), s5, s6, s7, .no, s9] := by
      simp [evT, ev, evD, opds, opd, fitD, ef, cmpS, truthD, vB, Sl.d, sizeLine_eq]
    have ec : evT P25 CC (.cmp .NotIn (.var 4) (.lc (.bop .Add (.tup [(.str "more")]) (.var 8)) (.nm 8) (.fz 3) [] [8])) [s0, s1, s2, .own (prsL c t), .val (fitD (p :: r)), s5, s6, s7, .no, s9] = .ok false [s0, s1, s2, .val (prsL c t), .val (fitD (p :: r)), s5, s6, s7, .no, s9] := by
      have ffd : fitD (p :: r) = moreD p := rfl
      rw [ffd] at el ⊢
      rw [evT_cmpK, opd_cmp, s_bind, s_evA2, ev_cmp, opd_lc, opd_varK, s_bind, s_evA1]
      simp only [s_slot, List.getElem?_cons_succ, List.getElem?_cons_zero, s_ok, s_evA2, el, s_evA0, fitD, Sl.d, cmpS, ei, Option.map_some, s_some, s_pure, vB, truthD, Bool.not_true]
    rw [evT_or, s_bind, ea, s_ok]
    simp only [Bool.false_eq_true, if_false]
    rw [evT_and, s_bind, eb, s_ok]
    simp only [if_true]
    rw [ec]
end Lw
end

section
set_option Elab.async false
set_option linter.all false
set_option maxRecDepth 100000
set_option maxHeartbeats 1000000
/-! K19: _law_is_fitting_right -/
namespace Lw
open PySem L2
theorem evI_bopK (Φ : Nat → M Sl) (C : Nat → D) (o : Operator) (a b : E) : evI Φ C (.bop o a b) = M.bind (ev Φ C (.bop o a b)) fun s => M.opt (itemsD s.d) := by
  rw [evI] <;> first | rfl | (intros; rename_i z; cases z)
def S25a : S := .set 5 (.lst [(.fz 4), (.tup [(.str "fits")]), (.tup [(.str "more"), (.int 0), (.int 1)]), (.tup [(.str "more"), (.int 0), (.bi .len [(.var 2)])]), (.tup [(.str "more"), (.int 1), (.bi .len [(.var 2)])]), .non, (.ty .list [(.var 4)])])
def S25b : S := .ext 5 (.lc (.bop .Add (.tup [(.str "more")]) (.var 8)) (.nm 8) (.slc (.var 3) .non (.int 3)) [] [8])
def I25a : E := .bop .Add (.var 5) (.lst [(.tup [(.str "fits"), (.tup [])]), (.call 17 [(.var 0)])])
def I25 : E := .bop .Add I25a (.lc (.call 22 [(.var 0), (.var 4)]) (.nm 9) (.rng1 (.int 8)) [] [9])
theorem b25 : B25 = [.set 3 (.call 11 [(.var 1), (.var 2)]), .set 4 (.call 16 [(.var 1), (.var 2)]), .ite T25 [.ret (.bl false)] [], S25a, S25b, .for_ (.nm 6) I25 body25, .ret (.bl true)] := rfl
def listOf : D → D
  | .tup xs => .lst xs
  | d => d
def vals0 (c : Cv) (t : List Int) : List D := [fitD (hits c t), fitsD, moreD (0, 1), moreD (0, t.length), moreD (1, t.length), .non, listOf (fitD (hits c t))]
theorem s25a_ok {c : Cv} {t : List Int} {s0 s1 s3 s5 s6 s7 s9 : Sl} : ex P25 CC S25a [s0, s1, .val (trafD t), s3, .val (fitD (hits c t)), s5, s6, s7, .no, s9] = .nx [s0, s1, .val (trafD t), s3, .val (fitD (hits c t)), .own (.lst (vals0 c t)), s6, s7, .no, s9] := by
  have tl : ∀ d, ∃ xs, fitD d = .tup xs := fun d => by cases d <;> exact ⟨_, rfl⟩
  obtain ⟨xs, hx⟩ := tl (hits c t)
  unfold S25a vals0
  rw [hx]
  simp [ex, ev, evD, opds, opd, biS, tyS, lenD, trafD, fzS, listOf, moreD, fitsD, putS, vI, Sl.d, sizeLine_eq, SR.of]
theorem cut3 (xs : List D) : cutD xs none (some 3) = xs.take 3 := by
  unfold cutD
  have e1 : HT.sIx xs.length 0 none = 0 := rfl
  have e2 : HT.sIx xs.length xs.length (some ((3 : Nat) : Int)) = min 3 xs.length := by rw [HT.sIx_nat]
  rw [e1, show (3 : Int) = ((3 : Nat) : Int) by rfl, e2, List.drop_zero, Nat.sub_zero]
  rw [List.take_eq_take_iff]; omega
theorem s25b_ok {c : Cv} {t : List Int} {s0 s1 s2 s3 s4 s6 s7 s9 : Sl} {xs : List D} (ht : t.length ≤ 12) (hx : xs.length ≤ 1000) (hs : s3 = .own (prsL c t) ∨ s3 = .val (prsL c t)) : ex P25 CC S25b [s0, s1, s2, s3, s4, .own (.lst xs), s6, s7, .no, s9] = .nx [s0, s1, s2, s3, s4, .own (.lst (xs ++ ((hits c t).take 3).map moreD)), s6, s7, .no, s9] := by
  have ei : evI P25 CC (.slc (.var 3) .non (.int 3)) [s0, s1, s2, s3, s4, .own (.lst xs), s6, s7, .no, s9] = .ok (((hits c t).take 3).map prD) [s0, s1, s2, s3, s4, .own (.lst xs), s6, s7, .no, s9] := by
    rcases hs with rfl | rfl <;> simp [evI, ev, opd, slP, partO, isNonE, partD, slS, cut3, prsL, itemsD, vI, Sl.d]
  have el := lc_more (by simp; omega) ei
  have hz : xs.length + min 3 (hits c t).length ≤ 16777216 := by omega
  unfold S25b
  rw [ex]
  simp only [isOwnL, List.getElem?_cons_succ, List.getElem?_cons_zero, if_true, el]
  simp [SR.of, updS, extD, Sl.d, sizeLine_eq, hz]
theorem good_told {c : Cv} {t : List Int} (ht : t.length ≤ 12) : good (fitD (hits c t)) = true ∧ good (listOf (fitD (hits c t))) = true := by
  cases hh : hits c t with
  | nil => exact ⟨good_fixed (List.mem_cons_self), good_fixed (List.mem_cons_of_mem _ List.mem_cons_self)⟩
  | cons p r =>
    have pm : p ∈ hits c t := by rw [hh]; exact List.mem_cons_self
    exact ⟨good_seed pm ht List.mem_cons_self, good_seed pm ht (List.mem_cons_of_mem _ List.mem_cons_self)⟩
theorem good_vals0 {c : Cv} {t : List Int} (ht : t.length ≤ 12) : ∀ v ∈ vals0 c t, good v = true := by
  intro v hv
  have gt := good_told (c := c) ht
  simp only [vals0, List.mem_cons, List.not_mem_nil, or_false] at hv
  rcases hv with rfl | rfl | rfl | rfl | rfl | rfl | rfl
  · exact gt.1
  · exact good_fixed List.mem_cons_self
  · exact good_more (a := 0) (b := 1) (by omega) (by omega)
  · exact good_more (a := 0) (b := t.length) (by omega) (by omega)
  · exact good_more (a := 1) (b := t.length) (by omega) (by omega)
  · exact good_fixed (List.mem_cons_of_mem _ (List.mem_cons_of_mem _ List.mem_cons_self))
  · exact gt.2
theorem i25_ok {c : Cv} {t : List Int} {n : Int} {l xs : List D} {s1 s2 s3 s6 s7 : Sl} (ht : t.length ≤ 12) (hn : n < 2 ^ 17) (h : PotOk n l) (hx : xs.length ≤ 1000) (hg : ∀ v ∈ xs, good v = true) :
    ∃ vs l', (∀ v ∈ vs, good v = true) ∧ PotOk (n + 25) l' ∧ evI P25 CC I25 [.own (.lst l), s1, s2, s3, .val (fitD (hits c t)), .own (.lst xs), s6, s7, .no, .no] = .ok vs [.own (.lst l'), s1, s2, s3, .val (fitD (hits c t)), .own (.lst xs), s6, s7, .no, .no] := by
  obtain ⟨d, l1, hd, p1, e1⟩ := odd_ok (n := n) (by omega) h
  obtain ⟨bs, l2, hb, hbl, p2, e2⟩ := lc_bent (c := c) (t := t) (s1 := s1) (s2 := s2) (s3 := s3) (s5 := .own (.lst xs)) (s6 := s6) (s7 := s7) ht (by omega) p1
  have q17 : P25 17 = F17 := rfl
  have hz : xs.length + 2 ≤ 16777216 := by omega
  have hz2 : xs.length + 2 + bs.length ≤ 16777216 := by omega
  have ea : ev P25 CC I25a [.own (.lst l), s1, s2, s3, .val (fitD (hits c t)), .own (.lst xs), s6, s7, .no, .no] = .ok (.own (.lst (xs ++ [.tup [.str "fits", .tup []], d]))) [.own (.lst l1), s1, s2, s3, .val (fitD (hits c t)), .own (.lst xs), s6, s7, .no, .no] := by
    unfold I25a
    simp [ev, evD, opds, opd, args, callS, evC, popS, q17, e1, putBack, bopS, Sl.d, sizeLine_eq, hz]
  refine ⟨xs ++ [.tup [.str "fits", .tup []], d] ++ bs, l2, ?_, p2.mono (by omega), ?_⟩
  · intro v hv
    simp only [List.mem_append, List.mem_cons, List.not_mem_nil, or_false] at hv
    rcases hv with (hv | rfl | rfl) | hv
    · exact hg v hv
    · exact good_fixed (List.mem_append_left _ (List.mem_cons_of_mem _ (List.mem_cons_of_mem _ (List.mem_cons_of_mem _ List.mem_cons_self))))
    · exact good_fixed (List.mem_append_left _ (List.mem_cons_of_mem _ (List.mem_cons_of_mem _ (List.mem_cons_of_mem _ (List.mem_cons_of_mem _ hd)))))
    · exact hb v hv
  · have oa : opd P25 CC I25a = .ex (ev P25 CC I25a) := opd_bop _ _ _ _ _
    unfold I25
    rw [evI_bopK, s_bind, ev_bop, oa, opd_lc, s_bind, s_evA2, ea, s_ok, s_evA2, e2, s_ok, s_evA0, s_ok, s_ok, s_ok]
    simp [bopS, Sl.d, itemsD, sizeLine_eq]
    rw [if_pos hz2]
    simp [itemsD, Sl.d]
theorem body25all {c : Cv} {t : List Int} {n : Int} {l : List D} (hc : Curve c) (htr : Traf t) (ht : t.length ≤ 12) (hn : n < 2 ^ 17) (h : PotOk n l) :
    ∃ l' s3 s4 s5 s6 s7, PotOk (n + 25) l' ∧ exs P25 CC B25 [.own (.lst l), .val (curveD c), .val (trafD t), .no, .no, .no, .no, .no, .no, .no] = .rt (vB true) [.own (.lst l'), .val (curveD c), .val (trafD t), s3, s4, s5, s6, s7, .no, .no] := by
  have q11 : P25 11 = F11 := rfl
  have q16 : P25 16 = F16 := rfl
  have f11 := law_too_much_ok hc.cv0 htr.len
  have f16 := fits_ok hc htr
  have e1 : ex P25 CC (.set 3 (.call 11 [(.var 1), (.var 2)])) [.own (.lst l), .val (curveD c), .val (trafD t), .no, .no, .no, .no, .no, .no, .no] = .nx [.own (.lst l), .val (curveD c), .val (trafD t), .own (prsL c t), .no, .no, .no, .no, .no, .no] := by
    simp [ex, ev, args, callS, evC, popS, q11, f11, putBack, putS, prsL]
  have e2 : ex P25 CC (.set 4 (.call 16 [(.var 1), (.var 2)])) [.own (.lst l), .val (curveD c), .val (trafD t), .own (prsL c t), .no, .no, .no, .no, .no, .no] = .nx [.own (.lst l), .val (curveD c), .val (trafD t), .own (prsL c t), .val (fitD (hits c t)), .no, .no, .no, .no, .no] := by
    simp [ex, ev, args, callS, evC, popS, q16, f16, putBack, putS]
  obtain ⟨s3, hs3, e3⟩ := T25_ok (c := c) (t := t) (s0 := .own (.lst l)) (s1 := .val (curveD c)) (s2 := .val (trafD t)) (s5 := .no) (s6 := .no) (s7 := .no) (s9 := .no) ht
  have hv0 : (vals0 c t).length = 7 := rfl
  have h144 := hits144 (c := c) ht
  have hgv : ∀ v ∈ vals0 c t ++ ((hits c t).take 3).map moreD, good v = true := by
    intro v hv
    rcases List.mem_append.mp hv with hv | hv
    · exact good_vals0 ht v hv
    · obtain ⟨p, hp, rfl⟩ := List.mem_map.mp hv
      exact good_seed (List.mem_of_mem_take hp) ht List.mem_cons_self
  obtain ⟨vs, l', hg, hp, e6⟩ := i25_ok (c := c) (t := t) (s1 := .val (curveD c)) (s2 := .val (trafD t)) (s3 := s3) (s6 := .no) (s7 := .no) ht hn h (xs := vals0 c t ++ ((hits c t).take 3).map moreD) (by simp [hv0]; omega) hgv
  obtain ⟨s3', s6, s7, -, el⟩ := forI_ind (bt := bindT (.nm 6)) (b := exs P25 CC body25) (fun _ E => ∃ s3 s6 s7, (s3 = .own (prsL c t) ∨ s3 = .val (prsL c t)) ∧ E = [.own (.lst l'), .val (curveD c), .val (trafD t), s3, .val (fitD (hits c t)), .own (.lst (vals0 c t ++ ((hits c t).take 3).map moreD)), s6, s7, .no, .no])
    (fun R => ∃ s3 s6 s7, (s3 = .own (prsL c t) ∨ s3 = .val (prsL c t)) ∧ R = .nx [.own (.lst l'), .val (curveD c), .val (trafD t), s3, .val (fitD (hits c t)), .own (.lst (vals0 c t ++ ((hits c t).take 3).map moreD)), s6, s7, .no, .no]) vs
    (fun i E d hd ⟨s3, s6, s7, hs, eE⟩ => by
      subst eE
      have gd := hg d (List.mem_of_getElem? hd)
      refine ⟨[.own (.lst l'), .val (curveD c), .val (trafD t), s3, .val (fitD (hits c t)), .own (.lst (vals0 c t ++ ((hits c t).take 3).map moreD)), .val d, s7, .no, .no], by simp [bindT], ?_⟩
      rw [body25_ok hc htr ht gd hs]
      exact ⟨_, _, _, .inr rfl, rfl⟩)
    (fun E ⟨s3, s6, s7, hs, eE⟩ => by subst eE; exact ⟨_, _, _, hs, rfl⟩)
    [.own (.lst l'), .val (curveD c), .val (trafD t), s3, .val (fitD (hits c t)), .own (.lst (vals0 c t ++ ((hits c t).take 3).map moreD)), .no, .no, .no, .no] ⟨_, _, _, hs3, rfl⟩
  refine ⟨l', s3', .val (fitD (hits c t)), .own (.lst (vals0 c t ++ ((hits c t).take 3).map moreD)), s6, s7, hp, ?_⟩
  rw [b25, x_exs1, e1, s_nx, x_exs1, e2, s_nx, x_exs1, x_ite, e3]
  simp only [SR.of, Bool.false_eq_true, if_false, x_exs0, s_nx]
  rw [x_exs1, s25a_ok, s_nx, x_exs1, s25b_ok ht (by rw [hv0]; omega) hs3, s_nx, x_exs1, x_for, e6]
  simp only [SR.of, el, s_nx]
  simp [exs, ex, ev, SR.then]
theorem fitting_ok {c : Cv} {t : List Int} {n : Int} {l : List D} (hc : Curve c) (htr : Traf t) (ht : t.length ≤ 12) (hn : n < 2 ^ 17) (h : PotOk n l) :
    ∃ l', PotOk (n + 25) l' ∧ F25 [.own (.lst l), .val (curveD c), .val (trafD t)] = .ok (vB true) [.own (.lst l'), .val (curveD c), .val (trafD t)] := by
  obtain ⟨l', s3, s4, s5, s6, s7, hp, e⟩ := body25all hc htr ht hn h
  refine ⟨l', hp, ?_⟩
  have e' : exs P25 CC B25 ([.own (.lst l), .val (curveD c), .val (trafD t)] ++ List.replicate (10 - [Sl.own (.lst l), .val (curveD c), .val (trafD t)].length) Sl.no) = _ := e
  unfold F25 fnS
  rw [e']
  rfl
end Lw
end

section
set_option Elab.async false
set_option linter.all false
set_option maxRecDepth 100000
set_option maxHeartbeats 1000000
/-! K20: buckets in plain Lean -/
namespace Lw
open PySem L2
/-- how full a bucket is, behind what went on (the last one first) -/
def lev (p : Int × Int) : List Int → Int
  | [] => p.1 + p.2
  | g :: r => min (p.1 + p.2) (lev p r - g + p.2)
/-- the last m of them -/
def lastS (f : List Int) (m : Nat) : Int := (f.drop (f.length - m)).sum
theorem lastS_zero (f : List Int) : lastS f 0 = 0 := by
  unfold lastS
  rw [Nat.sub_zero, List.drop_length]; rfl
theorem lastS_app (f : List Int) (g : Int) (m : Nat) (h : m ≤ f.length) : lastS (f ++ [g]) (m + 1) = lastS f m + g := by
  unfold lastS
  rw [List.length_append, List.length_singleton, show f.length + 1 - (m + 1) = f.length - m by omega, List.drop_append_of_le_length (by omega), List.sum_append]
  simp
def LevOk (p : Int × Int) (f : List Int) (x : Int) : Prop := (∀ m : Nat, m ≤ f.length → x ≤ p.1 + p.2 * ((m : Int) + 1) - lastS f m) ∧ ∃ m : Nat, m ≤ f.length ∧ x = p.1 + p.2 * ((m : Int) + 1) - lastS f m
theorem lev_ok (p : Int × Int) : ∀ r : List Int, LevOk p r.reverse (lev p r)
  | [] => by
    refine ⟨fun m hm => ?_, 0, by simp, ?_⟩
    · have : m = 0 := by simpa using hm
      subst this
      simp [lev, lastS_zero]
    · simp [lev, lastS_zero]
  | g :: r => by
    obtain ⟨h1, m0, hm0, h2⟩ := lev_ok p r
    rw [List.reverse_cons, lev]
    have e : ∀ m : Nat, p.2 * (((m + 1 : Nat) : Int) + 1) = p.2 * ((m : Int) + 1) + p.2 := fun m => by
      rw [show ((m + 1 : Nat) : Int) + 1 = ((m : Int) + 1) + 1 by omega, Int.mul_add, Int.mul_one]
    constructor
    · intro m hm
      cases m with
      | zero =>
        rw [lastS_zero]
        simp only [Int.natCast_zero, Int.zero_add, Int.mul_one]
        omega
      | succ m =>
        rw [List.length_append, List.length_singleton] at hm
        have := h1 m (by omega)
        rw [lastS_app _ _ _ (by omega), e]
        omega
    · by_cases q : p.1 + p.2 ≤ lev p r - g + p.2
      · refine ⟨0, by omega, ?_⟩
        rw [lastS_zero]
        simp only [Int.natCast_zero, Int.zero_add, Int.mul_one]
        omega
      · refine ⟨m0 + 1, by rw [List.length_append, List.length_singleton]; omega, ?_⟩
        rw [lastS_app _ _ _ hm0, e]
        omega
/-- the state behind so many ticks: what went on, what waits -/
def goes (c : Cv) (f : List Int) (w : Int) : Int := minL (w :: c.map fun p => lev p f.reverse)
def at0 (t : List Int) (k : Nat) : Int := t.getD k 0
def stp (c : Cv) (t : List Int) (s : List Int × Int) : List Int × Int := (s.1 ++ [goes c s.1 (s.2 + at0 t s.1.length)], s.2 + at0 t s.1.length - goes c s.1 (s.2 + at0 t s.1.length))
def st (c : Cv) (t : List Int) : Nat → List Int × Int
  | 0 => ([], 0)
  | n + 1 => stp c t (st c t n)
theorem st_len (c : Cv) (t : List Int) : ∀ n, (st c t n).1.length = n
  | 0 => rfl
  | n + 1 => by simp [st, stp, st_len c t n]
theorem goes_le (c : Cv) (f : List Int) (w : Int) : goes c f w ≤ w := (minL_mem w (c.map fun p => lev p f.reverse)).2 w List.mem_cons_self
theorem goes_lev (c : Cv) (f : List Int) (w : Int) {p : Int × Int} (hp : p ∈ c) : goes c f w ≤ lev p f.reverse := (minL_mem w (c.map fun p => lev p f.reverse)).2 _ (List.mem_cons_of_mem _ (List.mem_map.mpr ⟨p, hp, rfl⟩))
theorem goes_cases (c : Cv) (f : List Int) (w : Int) : goes c f w = w ∨ ∃ p ∈ c, goes c f w = lev p f.reverse := by
  have h := (minL_mem w (c.map fun p => lev p f.reverse)).1
  rcases List.mem_cons.mp h with h | h
  · exact .inl h
  · obtain ⟨p, hp, e⟩ := List.mem_map.mp h
    exact .inr ⟨p, hp, e.symm⟩
/-- what holds behind each tick -/
structure StOk (c : Cv) (t : List Int) (n : Nat) (s : List Int × Int) : Prop where
  w0 : 0 ≤ s.2
  len : s.1.length = n
  sum : s.1.sum + s.2 = (t.take n).sum
  pos : ∀ x ∈ s.1, 0 ≤ x
  full : ∀ p ∈ c, p.2 ≤ lev p s.1.reverse
theorem take_sum (t : List Int) (n : Nat) : (t.take (n + 1)).sum = (t.take n).sum + at0 t n := by
  rw [List.take_succ, List.sum_append]
  unfold at0
  rw [List.getD_eq_getElem?_getD]
  cases t[n]? <;> simp
theorem at0_pos {t : List Int} (h : ∀ x ∈ t, 0 ≤ x) (n : Nat) : 0 ≤ at0 t n := by
  unfold at0
  rw [List.getD_eq_getElem?_getD]
  cases e : t[n]? with
  | none => simp
  | some x => exact h x (List.mem_of_getElem? e)
theorem st_ok {c : Cv} {t : List Int} (hs : Small c) (ht : ∀ x ∈ t, 0 ≤ x) : ∀ n, StOk c t n (st c t n)
  | 0 => ⟨by simp [st], rfl, by simp [st], by simp [st], fun p hp => by
      have := hs p hp
      simp [st, lev]; omega⟩
  | n + 1 => by
    have h := st_ok hs ht n
    have ha := at0_pos ht n
    have h1 := goes_le c (st c t n).1 ((st c t n).2 + at0 t n)
    have h2 : ∀ p ∈ c, goes c (st c t n).1 ((st c t n).2 + at0 t n) ≤ lev p (st c t n).1.reverse := fun p hp => goes_lev c _ _ hp
    have h3 : 0 ≤ goes c (st c t n).1 ((st c t n).2 + at0 t n) := by
      have w := h.w0
      rcases goes_cases c (st c t n).1 ((st c t n).2 + at0 t n) with e | ⟨p, hp, e⟩
      · omega
      · have := h.full p hp
        have := hs p hp
        omega
    have e : st c t (n + 1) = ((st c t n).1 ++ [goes c (st c t n).1 ((st c t n).2 + at0 t n)], (st c t n).2 + at0 t n - goes c (st c t n).1 ((st c t n).2 + at0 t n)) := by
      show stp c t (st c t n) = _
      unfold stp
      rw [h.len]
    rw [e]
    refine ⟨by simp only; omega, by simp [h.len], ?_, ?_, ?_⟩
    · have := h.sum
      rw [List.sum_append, take_sum]
      simp; omega
    · intro x hx
      rcases List.mem_append.mp hx with hx | hx
      · exact h.pos x hx
      · simp only [List.mem_singleton] at hx; omega
    · intro p hp
      have q1 := h2 p hp
      have q2 := hs p hp
      simp only [List.reverse_append, List.reverse_cons, List.reverse_nil, List.nil_append, List.singleton_append, lev]
      omega
theorem st_succ {c : Cv} {t : List Int} (n : Nat) : st c t (n + 1) = ((st c t n).1 ++ [goes c (st c t n).1 ((st c t n).2 + at0 t n)], (st c t n).2 + at0 t n - goes c (st c t n).1 ((st c t n).2 + at0 t n)) := by
  show stp c t (st c t n) = _
  unfold stp
  rw [st_len]
def condB (c : Cv) (t : List Int) (n : Nat) : Bool := decide (n < t.length) || decide (0 < (st c t n).2)
def stuck (c : Cv) (s : List Int × Int) : Bool := decide (0 < s.2) && (c.any fun p => decide (p.2 = 0) && decide (lev p s.1.reverse = 0))
theorem take_le_sum {t : List Int} (ht : ∀ x ∈ t, 0 ≤ x) (n : Nat) : (t.take n).sum ≤ t.sum ∧ 0 ≤ (t.take n).sum := by
  have pos : ∀ l : List Int, (∀ x ∈ l, 0 ≤ x) → 0 ≤ l.sum := by
    intro l
    induction l with
    | nil => intro _; simp
    | cons a l ih => intro h; have := h a List.mem_cons_self; have := ih fun x hx => h x (List.mem_cons_of_mem _ hx); simp; omega
  have e : t.sum = (t.take n).sum + (t.drop n).sum := by rw [← List.sum_append, List.take_append_drop]
  have := pos (t.drop n) fun x hx => ht x (List.mem_of_mem_drop hx)
  have := pos (t.take n) fun x hx => ht x (List.mem_of_mem_take hx)
  omega
/-- where the loop goes on, it has not gone on for long -/
theorem st_bound {c : Cv} {t : List Int} (hs : Small c) (ht : ∀ x ∈ t, 0 ≤ x) : ∀ n, (∀ i, i < n → condB c t i = true ∧ stuck c (st c t (i + 1)) = false) → t.length ≤ n → (n : Int) + (st c t n).2 ≤ t.length + t.sum
  | 0, _, h0 => by
    have := take_le_sum ht 0
    simp [st] at *; omega
  | n + 1, h, hn => by
    have ok := st_ok (c := c) hs ht n
    have ok1 := st_ok (c := c) hs ht (n + 1)
    rcases Nat.lt_or_ge n t.length with q | q
    · have : n + 1 = t.length := by omega
      have s := ok1.sum
      rw [this, List.take_length] at s
      have p : 0 ≤ (st c t (n + 1)).1.sum := by
        have := take_le_sum ok1.pos (n + 1)
        rw [List.take_of_length_le (by rw [ok1.len]; omega)] at this
        exact this.2
      rw [this] at p
      rw [this]
      omega
    · have ih := st_bound hs ht n (fun i hi => h i (by omega)) q
      have hc := (h n (by omega)).1
      unfold condB at hc
      rw [decide_eq_false (by omega), Bool.false_or] at hc
      have wpos : 0 < (st c t n).2 := of_decide_eq_true hc
      have a0 : at0 t n = 0 := by unfold at0; rw [List.getD_eq_getElem?_getD, List.getElem?_eq_none (by omega)]; rfl
      have lv : ∀ p ∈ c, 1 ≤ lev p (st c t n).1.reverse := by
        intro p hp
        have h1 := ok.full p hp
        have h2 := hs p hp
        cases n with
        | zero =>
          have z : (st c t 0).2 = 0 := rfl
          omega
        | succ n =>
          have ns := (h n (by omega)).2
          unfold stuck at ns
          rw [decide_eq_true wpos, Bool.true_and, List.any_eq_false] at ns
          have := ns p hp
          simp only [Bool.and_eq_true, decide_eq_true_eq, not_and] at this
          by_cases r0 : p.2 = 0
          · have := this r0; omega
          · omega
      have g1 : 1 ≤ goes c (st c t n).1 ((st c t n).2 + at0 t n) := by
        rcases goes_cases c (st c t n).1 ((st c t n).2 + at0 t n) with e | ⟨p, hp, e⟩
        · omega
        · have := lv p hp; omega
      rw [st_succ]
      simp only
      omega
end Lw
end

section
set_option Elab.async false
set_option linter.all false
set_option maxRecDepth 100000
set_option maxHeartbeats 1000000
/-! K21: what goes on fits, all of it, as early as can be -/
namespace Lw
open PySem L2
theorem lev_at (p : Int × Int) (f : List Int) : LevOk p f (lev p f.reverse) := by
  have := lev_ok p f.reverse
  rw [List.reverse_reverse] at this
  exact this
theorem sum_drop_le {f : List Int} (h : ∀ x ∈ f, 0 ≤ x) (n : Nat) : (f.drop n).sum ≤ f.sum ∧ 0 ≤ (f.drop n).sum := by
  have e : f.sum = (f.take n).sum + (f.drop n).sum := by rw [← List.sum_append, List.take_append_drop]
  have := (take_le_sum h n).2
  have := (take_le_sum (t := f.drop n) (fun x hx => h x (List.mem_of_mem_drop hx)) (f.drop n).length).2
  rw [List.take_length] at this
  omega
theorem lev_zero {p : Int × Int} {f : List Int} (h : ∀ x ∈ f, 0 ≤ x) (hp : p.2 = 0) : lev p f.reverse = p.1 - f.sum := by
  obtain ⟨h1, m, hm, h2⟩ := lev_at p f
  have a := h1 f.length (Nat.le_refl _)
  have e : lastS f f.length = f.sum := by unfold lastS; rw [Nat.sub_self, List.drop_zero]
  rw [e, hp, Int.zero_mul] at a
  rw [hp, Int.zero_mul] at h2
  have := (sum_drop_le h (f.length - m)).1
  unfold lastS at h2
  omega
def Waits (c : Cv) (t : List Int) : Prop := ∃ p ∈ c, p.2 = 0 ∧ p.1 < t.sum
theorem stuck_waits {c : Cv} {t : List Int} (hs : Small c) (ht : ∀ x ∈ t, 0 ≤ x) {n : Nat} (h : stuck c (st c t n) = true) : Waits c t := by
  have ok := st_ok (c := c) hs ht n
  unfold stuck at h
  rw [Bool.and_eq_true, List.any_eq_true] at h
  obtain ⟨hw, p, hp, h⟩ := h
  simp only [Bool.and_eq_true, decide_eq_true_eq] at h hw
  refine ⟨p, hp, h.1, ?_⟩
  rw [lev_zero ok.pos h.1] at h
  have := ok.sum
  have := take_le_sum ht n
  omega
theorem done_sum {c : Cv} {t : List Int} (hs : Small c) (ht : ∀ x ∈ t, 0 ≤ x) {n : Nat} (h : condB c t n = false) : (st c t n).1.sum = t.sum ∧ t.length ≤ n := by
  have ok := st_ok (c := c) hs ht n
  unfold condB at h
  simp only [Bool.or_eq_false_iff, decide_eq_false_iff_not] at h
  have := ok.sum
  have := ok.w0
  rw [List.take_of_length_le (by omega)] at *
  omega
theorem done_not {c : Cv} {t : List Int} (hs : Small c) (ht : ∀ x ∈ t, 0 ≤ x) {n : Nat} (h : condB c t n = false) : ¬ Waits c t := by
  rintro ⟨p, hp, h1, h2⟩
  have ok := st_ok (c := c) hs ht n
  have := (done_sum hs ht h).1
  have f := ok.full p hp
  rw [lev_zero ok.pos h1] at f
  omega
/-! prefixes -/
theorem st_pre (c : Cv) (t : List Int) : ∀ n m, m ≤ n → (st c t n).1.take m = (st c t m).1
  | 0, m, h => by
    have : m = 0 := by omega
    subst this; simp [st]
  | n + 1, m, h => by
    rcases Nat.lt_or_ge n m with q | q
    · have : m = n + 1 := by omega
      subst this
      rw [List.take_of_length_le (by rw [st_len]; omega)]
    · rw [st_succ, List.take_append_of_le_length (by rw [st_len]; omega), st_pre c t n m q]
theorem st_at (c : Cv) (t : List Int) {n e : Nat} (h : e < n) : (st c t n).1[e]? = some (goes c (st c t e).1 ((st c t e).2 + at0 t e)) := by
  have h1 := st_pre c t n (e + 1) h
  have h2 : (st c t (e + 1)).1[e]? = some (goes c (st c t e).1 ((st c t e).2 + at0 t e)) := by
    rw [st_succ]
    simp only
    rw [List.getElem?_append_right (by rw [st_len]; omega), st_len]; simp
  rw [← h2, ← h1, List.getElem?_take]; simp
theorem letZ_le {c : Cv} {m : Int} (hm : 0 < m) {p : Int × Int} (hp : p ∈ c) : letZ c m ≤ p.1 + p.2 * m := by
  unfold letZ
  rw [if_pos hm]
  cases c with
  | nil => cases hp
  | cons q c =>
    have hm : p.1 + p.2 * m ∈ (q :: c).map fun p : Int × Int => p.1 + p.2 * m := List.mem_map.mpr ⟨p, hp, rfl⟩
    rw [List.map_cons] at hm ⊢
    exact (minL_mem _ _).2 _ hm
theorem letZ_mem {c : Cv} (hc : c ≠ []) {m : Int} (hm : 0 < m) : ∃ p ∈ c, letZ c m = p.1 + p.2 * m := by
  unfold letZ
  rw [if_pos hm]
  cases c with
  | nil => exact absurd rfl hc
  | cons q c =>
    have hm := (minL_mem (q.1 + q.2 * m) (c.map fun p => p.1 + p.2 * m)).1
    have hm2 : minL ((q.1 + q.2 * m) :: c.map fun p => p.1 + p.2 * m) ∈ (q :: c).map fun p : Int × Int => p.1 + p.2 * m := by rw [List.map_cons]; exact hm
    obtain ⟨p, hp, e⟩ := List.mem_map.mp hm2
    exact ⟨p, hp, e.symm⟩
theorem le_letZ {c : Cv} (hc : c ≠ []) {m x : Int} (hm : 0 < m) (h : ∀ p ∈ c, x ≤ p.1 + p.2 * m) : x ≤ letZ c m := by
  obtain ⟨p, hp, e⟩ := letZ_mem hc hm
  rw [e]; exact h p hp
theorem hits_nil {c : Cv} {t : List Int} : hits c t = [] ↔ ∀ i j : Nat, i + j < t.length → sumZ t i (j + 1) ≤ letZ c (1 + (j : Int)) := by
  constructor
  · intro h i j hij
    apply Int.not_lt.mp
    intro q
    have : ((i : Int), 1 + (j : Int)) ∈ hits c t := mem_hits.mpr ⟨i, j, hij, rfl, q⟩
    rw [h] at this; cases this
  · intro h
    apply List.eq_nil_iff_forall_not_mem.mpr
    intro p hp
    obtain ⟨i, j, hij, -, q⟩ := mem_hits.mp hp
    have := h i j hij
    omega
theorem sumZ_last {f : List Int} {i j : Nat} (h : i + j = f.length) : lastS f j = sumZ f i j := by
  unfold lastS sumZ
  rw [show f.length - j = i by omega, List.take_of_length_le (by simp; omega)]
theorem sumZ_take {f : List Int} {i j n : Nat} (h : i + j ≤ n) : sumZ (f.take n) i j = sumZ f i j := by
  unfold sumZ
  rw [List.drop_take, List.take_take, Nat.min_eq_left (by omega)]
/-- all that went on fits -/
theorem st_fits {c : Cv} (hc : c ≠ []) {t : List Int} (n m : Nat) : hits c ((st c t n).1.take m) = [] := by
  rw [hits_nil]
  intro i j hij
  rw [List.length_take, st_len] at hij
  rw [sumZ_take (by omega)]
  have hl : i + j < (st c t n).1.length := by rw [st_len]; omega
  rw [sumZ_succ hl]
  have hg := st_at c t (n := n) (e := i + j) (by omega)
  rw [List.getElem?_eq_getElem hl] at hg
  have hg := Option.some.inj hg
  rw [hg]
  refine le_letZ hc (by omega) fun p hp => ?_
  have h1 := goes_lev c (st c t (i + j)).1 ((st c t (i + j)).2 + at0 t (i + j)) hp
  have h2 := (lev_at p (st c t (i + j)).1).1 j (by rw [st_len]; omega)
  have h3 : lastS (st c t (i + j)).1 j = sumZ (st c t n).1 i j := by
    rw [sumZ_last (i := i) (by rw [st_len]), ← st_pre c t n (i + j) (by omega), sumZ_take (by omega)]
  rw [h3] at h2
  rw [show (1 : Int) + (j : Int) = (j : Int) + 1 by omega]
  omega
/-- what fits goes through as it comes -/
theorem st_same {c : Cv} {t : List Int} (ht : ∀ x ∈ t, 0 ≤ x) (h : hits c t = []) : ∀ n, n ≤ t.length → st c t n = (t.take n, 0)
  | 0, _ => by simp [st]
  | n + 1, hn => by
    have ih := st_same ht h n (by omega)
    have ln : (t.take n).length = n := by rw [List.length_take]; omega
    have hx : t[n]? = some t[n] := List.getElem?_eq_getElem (by omega)
    have ha : at0 t n = t[n] := by unfold at0; rw [List.getD_eq_getElem?_getD, hx]; rfl
    have hg : goes c (t.take n) (at0 t n) = at0 t n := by
      have h1 := goes_le c (t.take n) (at0 t n)
      rcases goes_cases c (t.take n) (at0 t n) with e | ⟨p, hp, e⟩
      · exact e
      · obtain ⟨-, m, hm, e2⟩ := lev_at p (t.take n)
        rw [ln] at hm
        have hf := hits_nil.mp h (n - m) m (by omega)
        have hl : n - m + m < t.length := by omega
        rw [sumZ_succ hl] at hf
        have h3 : lastS (t.take n) m = sumZ t (n - m) m := by
          rw [sumZ_last (i := n - m) (by rw [ln]; omega), sumZ_take (by omega)]
        have h4 := letZ_le (m := 1 + (m : Int)) (by omega) hp
        have h5 : t[n - m + m] = t[n] := by congr 1; omega
        rw [h3] at e2
        rw [h5, ← ha] at hf
        rw [show (1 : Int) + (m : Int) = (m : Int) + 1 by omega] at hf h4
        omega
    rw [st_succ, ih]
    simp only [Int.zero_add]
    rw [hg, List.take_succ, hx, ← ha]
    simp
end Lw
end

section
set_option Elab.async false
set_option linter.all false
set_option maxRecDepth 100000
set_option maxHeartbeats 1000000
/-! K22: told_let -/
namespace Lw
open PySem L2
theorem whlI_go {c : M Bool} {b : SE → SR} (I : Nat → SE → Prop) (Post : SR → Prop) (N : Nat) (step : ∀ i E, I i E → (∃ E1, c E = .ok false E1 ∧ Post (.nx E1)) ∨ (i < N ∧ ∃ E1, c E = .ok true E1 ∧ TurnOk (I (i + 1)) Post (b E1))) :
    ∀ (n i : Nat) (E : SE), i ≤ N → N < i + n → I i E → Post (whlI c b n E)
  | 0, i, E, hi0, hn, h => by omega
  | n + 1, i, E, hi0, hn, h => by
    rcases step i E h with ⟨E1, e1, p⟩ | ⟨hi, E1, e1, t⟩
    · rw [whlI, e1]; exact p
    · rw [whlI, e1]
      dsimp only
      cases eb : b E1 with
      | nx E2 => rw [eb] at t; exact whlI_go I Post N step n (i + 1) E2 (by omega) (by omega) t
      | ct E2 => rw [eb] at t; exact whlI_go I Post N step n (i + 1) E2 (by omega) (by omega) t
      | bk E2 => rw [eb] at t; exact t
      | rt s E2 => rw [eb] at t; exact t
      | exc C x E2 => rw [eb] at t; exact t.elim
      | bad => rw [eb] at t; exact t.elim
theorem whlI_ind {c : M Bool} {b : SE → SR} (I : Nat → SE → Prop) (Post : SR → Prop) (N : Nat) (hN : N ≤ 1000000) (step : ∀ i E, I i E → (∃ E1, c E = .ok false E1 ∧ Post (.nx E1)) ∨ (i < N ∧ ∃ E1, c E = .ok true E1 ∧ TurnOk (I (i + 1)) Post (b E1))) (E : SE) (h : I 0 E) : Post (whlI c b fuel E) :=
  whlI_go I Post N step fuel 0 E (Nat.zero_le _) (by unfold fuel; omega) h
theorem x_whl (Φ : Nat → M Sl) (C : Nat → D) (c : E) (a : List S) (E : SE) : ex Φ C (.whl c a) E = whlI (evT Φ C c) (exs Φ C a) fuel E := by rw [ex]
def intL (f : List Int) : D := .lst (f.map .int)
def bkD (c : Cv) : D := .lst ((c.map fun p => (p.1 + p.2, p.2)).map prD)
def fuD (c : Cv) (lv : Int × Int → Int) : D := .lst (c.map fun p => .int (lv p))
theorem zip28 (c : Cv) (lv : Int × Int → Int) : zipD ((c.map fun p => (p.1 + p.2, p.2)).map prD) (c.map fun p => D.int (lv p)) = c.map fun p => D.tup [prD (p.1 + p.2, p.2), .int (lv p)] := by
  unfold zipD
  rw [List.map_map, List.zip_map', List.map_map]
  rfl
theorem lc28a {c : Cv} {s0 s1 s3 s4 s5 s6 : Sl} (hc : c.length ≤ 8) : ev P28 CC (.lc (.fz 7) (.tup [(.nm 7), (.nm 8)]) (.fz 2) [] [7, 8]) [s0, s1, .own (bkD c), s3, s4, s5, s6, .no, .no, .no] = .ok (.own (fuD c fun p => lev p [])) [s0, s1, .val (bkD c), s3, s4, s5, s6, .no, .no, .no] := by
  generalize hE : ev P28 CC (.fz 7) = elt
  have w : wipeE [s0, s1, .val (bkD c), s3, s4, s5, s6, .no, .no, .no] [7, 8] = [s0, s1, .val (bkD c), s3, s4, s5, s6, .no, .no, .no] := by simp [wipeE]
  have lc := lcI_mapG (bt := bindT (.tup [.nm 7, .nm 8])) (tests := evTs P28 CC []) (elt := elt) (own := [7, 8]) (W := [s0, s1, .val (bkD c), s3, s4, s5, s6, .no, .no, .no]) (g := fun p => prD (p.1 + p.2, p.2)) (f := fun p => .int (lev p [])) w c [] (by rw [sizeLine_eq]; simp; omega) (fun p hp => by
    refine ⟨[s0, s1, .val (bkD c), s3, s4, s5, s6, .val (.int (p.1 + p.2)), .val (.int p.2), .no], [s0, s1, .val (bkD c), s3, s4, s5, s6, .val (.int (p.1 + p.2)), .val (.int p.2), .no], [s0, s1, .val (bkD c), s3, s4, s5, s6, .val (.int (p.1 + p.2)), .val (.int p.2), .no], .val (.int (p.1 + p.2)), by simp [bindT, bindTs, prD], by simp [evTs, lcI.allT], ?_, rfl, by simp [wipeE]⟩
    rw [← hE]
    simp [ev, fzS])
  have ei : evI P28 CC (.fz 2) [s0, s1, .own (bkD c), s3, s4, s5, s6, .no, .no, .no] = .ok (c.map fun p => prD (p.1 + p.2, p.2)) [s0, s1, .val (bkD c), s3, s4, s5, s6, .no, .no, .no] := by
    simp [evI, ev, fzS, itemsD, bkD, Sl.d, List.map_map, Function.comp_def]
  have no : notOwn [s0, s1, .val (bkD c), s3, s4, s5, s6, .no, .no, .no] [7, 8] = true := by simp [notOwn]
  rw [ev_lc, s_bind, ei, s_ok]
  simp only [hE, no, if_true, w, lc, List.nil_append]
  simp [backE, fuD]
def tg28 : Tgt := .tup [(.tup [(.nm 7), (.nm 8)]), (.nm 9)]
theorem ei28 {c : Cv} {lv : Int × Int → Int} {s0 s1 s3 s4 s5 s6 : Sl} (hs : s3 = .own (fuD c lv) ∨ s3 = .val (fuD c lv)) : evI P28 CC (.zip (.fz 2) (.fz 3)) [s0, s1, .val (bkD c), s3, s4, s5, s6, .no, .no, .no] = .ok (c.map fun p => D.tup [prD (p.1 + p.2, p.2), .int (lv p)]) [s0, s1, .val (bkD c), .val (fuD c lv), s4, s5, s6, .no, .no, .no] := by
  have z := zip28 c lv
  rw [List.map_map] at z
  simp only [Function.comp_def] at z
  rcases hs with rfl | rfl <;> simp [evI, ev, evC, fzS, bkD, fuD, Sl.d, Function.comp_def, z]
theorem lc28b {c : Cv} {lv : Int × Int → Int} {g : Int} {s0 s1 s3 s4 s5 : Sl} (hc : c.length ≤ 8) (hs : s3 = .own (fuD c lv) ∨ s3 = .val (fuD c lv)) :
    ev P28 CC (.lc (.bi .min [(.var 7), (.bop .Add (.bop .Sub (.var 9) (.var 6)) (.var 8))]) tg28 (.zip (.fz 2) (.fz 3)) [] [7, 8, 9]) [s0, s1, .val (bkD c), s3, s4, s5, .val (.int g), .no, .no, .no] =
      .ok (.own (fuD c fun p => min (p.1 + p.2) (lv p - g + p.2))) [s0, s1, .val (bkD c), .val (fuD c lv), s4, s5, .val (.int g), .no, .no, .no] := by
  generalize hE : ev P28 CC (.bi .min [(.var 7), (.bop .Add (.bop .Sub (.var 9) (.var 6)) (.var 8))]) = elt
  have w : wipeE [s0, s1, .val (bkD c), .val (fuD c lv), s4, s5, .val (.int g), .no, .no, .no] [7, 8, 9] = [s0, s1, .val (bkD c), .val (fuD c lv), s4, s5, .val (.int g), .no, .no, .no] := by simp [wipeE]
  have lc := lcI_mapG (bt := bindT tg28) (tests := evTs P28 CC []) (elt := elt) (own := [7, 8, 9]) (W := [s0, s1, .val (bkD c), .val (fuD c lv), s4, s5, .val (.int g), .no, .no, .no]) (g := fun p => D.tup [prD (p.1 + p.2, p.2), .int (lv p)]) (f := fun p => .int (min (p.1 + p.2) (lv p - g + p.2))) w c [] (by rw [sizeLine_eq]; simp; omega) (fun p hp => by
    refine ⟨[s0, s1, .val (bkD c), .val (fuD c lv), s4, s5, .val (.int g), .val (.int (p.1 + p.2)), .val (.int p.2), .val (.int (lv p))], [s0, s1, .val (bkD c), .val (fuD c lv), s4, s5, .val (.int g), .val (.int (p.1 + p.2)), .val (.int p.2), .val (.int (lv p))], [s0, s1, .val (bkD c), .val (fuD c lv), s4, s5, .val (.int g), .val (.int (p.1 + p.2)), .val (.int p.2), .val (.int (lv p))], .val (.int (min (p.1 + p.2) (lv p - g + p.2))), by simp [tg28, bindT, bindTs, prD], by simp [evTs, lcI.allT], ?_, rfl, by simp [wipeE]⟩
    have em : (if lv p - g + p.2 < p.1 + p.2 then lv p - g + p.2 else p.1 + p.2) = min (p.1 + p.2) (lv p - g + p.2) := by split <;> omega
    rw [← hE]
    simp only [ev, opds, opd, s_bind, s_evA1, s_evA2, s_evA0, s_slot, s_ok, s_some, s_pure, List.getElem?_cons_succ, List.getElem?_cons_zero, bopS, biS, vI, Sl.d, em])
  have no : notOwn [s0, s1, .val (bkD c), .val (fuD c lv), s4, s5, .val (.int g), .no, .no, .no] [7, 8, 9] = true := by simp [notOwn]
  rw [ev_lc, s_bind, ei28 hs, s_ok]
  simp only [hE, no, if_true, w, lc, List.nil_append]
  simp [backE, fuD]
theorem lc28c {c : Cv} {lv : Int × Int → Int} {s0 s1 s3 s4 s5 s6 : Sl} (hc : c.length ≤ 8) (hs : s3 = .own (fuD c lv) ∨ s3 = .val (fuD c lv)) :
    ev P28 CC (.bi .any [(.lc (.andV (.cmp .Eq (.var 8) (.int 0)) (.cmp .Eq (.var 9) (.int 0))) tg28 (.zip (.fz 2) (.fz 3)) [] [7, 8, 9])]) [s0, s1, .val (bkD c), s3, s4, s5, s6, .no, .no, .no] =
      .ok (.val (.bl (c.any fun p => decide (p.2 = 0) && decide (lv p = 0)))) [s0, s1, .val (bkD c), .val (fuD c lv), s4, s5, s6, .no, .no, .no] := by
  generalize hE : ev P28 CC (.andV (.cmp .Eq (.var 8) (.int 0)) (.cmp .Eq (.var 9) (.int 0))) = elt
  have w : wipeE [s0, s1, .val (bkD c), .val (fuD c lv), s4, s5, s6, .no, .no, .no] [7, 8, 9] = [s0, s1, .val (bkD c), .val (fuD c lv), s4, s5, s6, .no, .no, .no] := by simp [wipeE]
  have lc := lcI_mapG (bt := bindT tg28) (tests := evTs P28 CC []) (elt := elt) (own := [7, 8, 9]) (W := [s0, s1, .val (bkD c), .val (fuD c lv), s4, s5, s6, .no, .no, .no]) (g := fun p => D.tup [prD (p.1 + p.2, p.2), .int (lv p)]) (f := fun p => .bl (decide (p.2 = 0) && decide (lv p = 0))) w c [] (by rw [sizeLine_eq]; simp; omega) (fun p hp => by
    refine ⟨[s0, s1, .val (bkD c), .val (fuD c lv), s4, s5, s6, .val (.int (p.1 + p.2)), .val (.int p.2), .val (.int (lv p))], [s0, s1, .val (bkD c), .val (fuD c lv), s4, s5, s6, .val (.int (p.1 + p.2)), .val (.int p.2), .val (.int (lv p))], [s0, s1, .val (bkD c), .val (fuD c lv), s4, s5, s6, .val (.int (p.1 + p.2)), .val (.int p.2), .val (.int (lv p))], .val (.bl (decide (p.2 = 0) && decide (lv p = 0))), by simp [tg28, bindT, bindTs, prD], by simp [evTs, lcI.allT], ?_, rfl, by simp [wipeE]⟩
    have eb : ∀ a : Int, (a == 0) = decide (a = 0) := fun a => by by_cases h : a = 0 <;> simp [h]
    rw [← hE]
    by_cases h : p.2 = 0 <;> simp [ev, opd, cmpS, eqD_int, vI, vB, Sl.d, eb, h])
  have no : notOwn [s0, s1, .val (bkD c), .val (fuD c lv), s4, s5, s6, .no, .no, .no] [7, 8, 9] = true := by simp [notOwn]
  have el : ev P28 CC (.lc (.andV (.cmp .Eq (.var 8) (.int 0)) (.cmp .Eq (.var 9) (.int 0))) tg28 (.zip (.fz 2) (.fz 3)) [] [7, 8, 9]) [s0, s1, .val (bkD c), s3, s4, s5, s6, .no, .no, .no] = .ok (.own (.lst (c.map fun p => .bl (decide (p.2 = 0) && decide (lv p = 0))))) [s0, s1, .val (bkD c), .val (fuD c lv), s4, s5, s6, .no, .no, .no] := by
    rw [ev_lc, s_bind, ei28 hs, s_ok]
    simp only [hE, no, if_true, w, lc, List.nil_append]
    simp [backE]
  have bt : blsOf (c.map fun p => D.bl (decide (p.2 = 0) && decide (lv p = 0))) = some (c.map fun p => (decide (p.2 = 0) && decide (lv p = 0))) := by
    rw [← blsOf_map, List.map_map]; rfl
  rw [ev, s_bind, opds1, opd_lc, s_evA2, el, s_ok]
  simp only [opds, s_evA0, s_ok, Sl.d, biS, bt, Option.map_some, s_some, s_pure, vB, List.any_map, Function.comp_def, id]
end Lw
end

section
set_option Elab.async false
set_option linter.all false
set_option maxRecDepth 100000
set_option maxHeartbeats 1000000
/-! K23: told_let, a turn and the whole -/
namespace Lw
open PySem L2
def a28 : S := .aug 5 .Add (.ite (.cmp .Lt (.bi .len [(.var 4)]) (.bi .len [(.var 1)])) (.idx (.var 1) (.bi .len [(.var 4)])) (.int 0))
def m28 : S := .set 6 (.bi .min [(.lst [(.fz 5), (.star (.fz 3))])])
def r28 : S := .set 3 (.lc (.bi .min [(.var 7), (.bop .Add (.bop .Sub (.var 9) (.var 6)) (.var 8))]) tg28 (.zip (.fz 2) (.fz 3)) [] [7, 8, 9])
def any28 : E := .bi .any [(.lc (.andV (.cmp .Eq (.var 8) (.int 0)) (.cmp .Eq (.var 9) (.int 0))) tg28 (.zip (.fz 2) (.fz 3)) [] [7, 8, 9])]
def n28 : S := .ite (.andV (.cmp .Gt (.var 5) (.int 0)) any28) [.ret .non] []
def k28 : S := .ite (.cmp .Gt (.bi .len [(.var 4)]) (.cst 8)) [.nev] []
def body28 : List S := [a28, m28, .app 4 (.fz 6), .aug 5 .Sub (.fz 6), r28, n28, k28]
def c28 : E := .orV (.cmp .Lt (.bi .len [(.var 4)]) (.bi .len [(.var 1)])) (.cmp .Gt (.var 5) (.int 0))
theorem b28 : B28 = [.set 2 (.call 27 [(.var 0)]), .par [3, 4, 5] [(.lc (.fz 7) (.tup [(.nm 7), (.nm 8)]) (.fz 2) [] [7, 8]), (.lst []), (.int 0)], .whl c28 body28, .ret (.ty .tuple [(.var 4)])] := rfl
def s28 (c : Cv) (t : List Int) (s3 : Sl) (f : List Int) (w : Int) (s6 : Sl) : SE := [.val (curveD c), .val (trafD t), .val (bkD c), s3, .own (intL f), .val (.int w), s6, .no, .no, .no]
theorem a28_ok {c : Cv} {t f : List Int} {w : Int} {s3 s6 : Sl} : ex P28 CC a28 (s28 c t s3 f w s6) = .nx (s28 c t s3 f (w + at0 t f.length) s6) := by
  unfold a28 s28
  by_cases h : f.length < t.length
  · have hx : atI (t.map D.int) (f.length : Int) = some (.int t[f.length]) := by
      rw [atI_nat (by simp; omega)]; simp
    have ha : at0 t f.length = t[f.length] := by unfold at0; rw [List.getD_eq_getElem?_getD, List.getElem?_eq_getElem h]; rfl
    rw [ha]
    simp [ex, ev, evT, opds, opd, biS, lenD, trafD, intL, cmpS, truthD, ixS, hx, h, augO, putS, vI, vB, Sl.d, SR.of]
  · have ha : at0 t f.length = 0 := by unfold at0; rw [List.getD_eq_getElem?_getD, List.getElem?_eq_none (by omega)]; rfl
    rw [ha]
    simp [ex, ev, evT, opds, opd, biS, lenD, trafD, intL, cmpS, truthD, h, augO, putS, vI, vB, Sl.d, SR.of]
theorem m28_ok {c : Cv} {t f : List Int} {w : Int} {lv : Int × Int → Int} {s3 s6 : Sl} (hc : c.length ≤ 8) (hs : s3 = .own (fuD c lv) ∨ s3 = .val (fuD c lv)) : ex P28 CC m28 (s28 c t s3 f w s6) = .nx (s28 c t (.val (fuD c lv)) f w (.val (.int (minL (w :: c.map lv))))) := by
  have ei : intsOf (.int w :: c.map fun p => D.int (lv p)) = some (w :: c.map lv) := by
    have := intsOf_ints (w :: c.map lv)
    simpa [Function.comp_def] using this
  have hz : c.length + 1 ≤ 16777216 := by omega
  unfold m28 s28
  rcases hs with rfl | rfl <;> simp [ex, ev, evD, opds, opd, fzS, biS, fuD, ei, hz, putS, vI, Sl.d, sizeLine_eq, SR.of]
theorem app28_ok {c : Cv} {t f : List Int} {w g : Int} {s3 : Sl} (hf : f.length ≤ 100000) : ex P28 CC (.app 4 (.fz 6)) (s28 c t s3 f w (.val (.int g))) = .nx (s28 c t s3 (f ++ [g]) w (.val (.int g))) := by
  have hz : f.length < 16777216 := by omega
  unfold s28
  simp [ex, ev, fzS, isOwnL, updS, appD, intL, hz, Sl.d, sizeLine_eq, SR.of]
theorem sub28_ok {c : Cv} {t f : List Int} {w g : Int} {s3 : Sl} : ex P28 CC (.aug 5 .Sub (.fz 6)) (s28 c t s3 f w (.val (.int g))) = .nx (s28 c t s3 f (w - g) (.val (.int g))) := by
  unfold s28
  simp [ex, ev, fzS, augO, putS, vI, Sl.d, SR.of]
theorem r28_ok {c : Cv} {t f : List Int} {w g : Int} {lv : Int × Int → Int} {s3 : Sl} (hc : c.length ≤ 8) (hs : s3 = .own (fuD c lv) ∨ s3 = .val (fuD c lv)) : ex P28 CC r28 (s28 c t s3 f w (.val (.int g))) = .nx (s28 c t (.own (fuD c fun p => min (p.1 + p.2) (lv p - g + p.2))) f w (.val (.int g))) := by
  unfold r28 s28
  rw [x_set, lc28b hc hs]
  simp [SR.of, putS]
theorem n28_ok {c : Cv} {t f : List Int} {w : Int} {lv : Int × Int → Int} {s6 : Sl} (hc : c.length ≤ 8) : ∃ s3, (s3 = .own (fuD c lv) ∨ s3 = .val (fuD c lv)) ∧ ex P28 CC n28 (s28 c t (.own (fuD c lv)) f w s6) =
    if (decide (0 < w) && (c.any fun p => decide (p.2 = 0) && decide (lv p = 0))) = true then .rt (.val .non) (s28 c t s3 f w s6) else .nx (s28 c t s3 f w s6) := by
  by_cases h : 0 < w
  · refine ⟨.val (fuD c lv), .inr rfl, ?_⟩
    have e1 : evT P28 CC (.cmp .Gt (.var 5) (.int 0)) (s28 c t (.own (fuD c lv)) f w s6) = .ok true (s28 c t (.own (fuD c lv)) f w s6) := by
      unfold s28
      simp [evT, ev, opd, cmpS, truthD, vI, vB, Sl.d, h]
    have e2 : evT P28 CC any28 (s28 c t (.own (fuD c lv)) f w s6) = .ok (c.any fun p => decide (p.2 = 0) && decide (lv p = 0)) (s28 c t (.val (fuD c lv)) f w s6) := by
      have e := lc28c (lv := lv) (s0 := .val (curveD c)) (s1 := .val (trafD t)) (s4 := .own (intL f)) (s5 := .val (.int w)) (s6 := s6) hc (.inl rfl)
      unfold any28
      rw [evT, opd_bi, s_bind, s_evA2]
      · unfold s28
        rw [e]
        simp [truthD, Sl.d]
      all_goals (intros; rename_i z; cases z)
    unfold n28
    rw [x_ite, evT_and, s_bind, e1, s_ok]
    simp only [if_true]
    rw [e2]
    simp only [SR.of, decide_eq_true h, Bool.true_and]
    cases (c.any fun p => decide (p.2 = 0) && decide (lv p = 0)) <;> simp [exs, ex, ev, SR.of, SR.then]
  · refine ⟨.own (fuD c lv), .inl rfl, ?_⟩
    have e1 : evT P28 CC (.cmp .Gt (.var 5) (.int 0)) (s28 c t (.own (fuD c lv)) f w s6) = .ok false (s28 c t (.own (fuD c lv)) f w s6) := by
      unfold s28
      simp [evT, ev, opd, cmpS, truthD, vI, vB, Sl.d, h]
    unfold n28
    rw [x_ite, evT_and, s_bind, e1, s_ok]
    simp only [Bool.false_eq_true, if_false, s_pure, SR.of, x_exs0, decide_eq_false h, Bool.false_and]
theorem k28_ok {c : Cv} {t f : List Int} {w : Int} {s3 s6 : Sl} (hf : f.length ≤ 2000) : ex P28 CC k28 (s28 c t s3 f w s6) = .nx (s28 c t s3 f w s6) := by
  have h : ¬ ((2000 : Int) < (f.length : Int)) := by omega
  unfold k28 s28
  simp [ex, exs, ev, evT, opds, opd, biS, lenD, intL, cmpS, truthD, CC, h, vI, vB, Sl.d, SR.of]
def full3 (c : Cv) (f : List Int) (s3 : Sl) : Prop := s3 = .own (fuD c fun p => lev p f.reverse) ∨ s3 = .val (fuD c fun p => lev p f.reverse)
theorem turn28 {c : Cv} {t f : List Int} {w : Int} {s3 s6 : Sl} (hc : c.length ≤ 8) (hf : f.length + 1 ≤ 2000) (hs : full3 c f s3) :
    ∃ s3' s6', full3 c (f ++ [goes c f (w + at0 t f.length)]) s3' ∧ exs P28 CC body28 (s28 c t s3 f w s6) =
      if stuck c (stp c t (f, w)) = true then .rt (.val .non) (s28 c t s3' (stp c t (f, w)).1 (stp c t (f, w)).2 s6') else .nx (s28 c t s3' (stp c t (f, w)).1 (stp c t (f, w)).2 s6') := by
  have em := m28_ok (t := t) (f := f) (w := w + at0 t f.length) (s6 := s6) hc hs
  have eg : minL ((w + at0 t f.length) :: c.map fun p => lev p f.reverse) = goes c f (w + at0 t f.length) := rfl
  rw [eg] at em
  have er := r28_ok (c := c) (t := t) (f := f ++ [goes c f (w + at0 t f.length)]) (w := w + at0 t f.length - goes c f (w + at0 t f.length)) (g := goes c f (w + at0 t f.length)) (lv := fun p => lev p f.reverse) hc (.inr rfl)
  have el : (fun p : Int × Int => min (p.1 + p.2) (lev p f.reverse - goes c f (w + at0 t f.length) + p.2)) = fun p => lev p (f ++ [goes c f (w + at0 t f.length)]).reverse := by
    funext p; rw [List.reverse_append]; rfl
  rw [el] at er
  obtain ⟨s3', hs', en⟩ := n28_ok (c := c) (t := t) (f := f ++ [goes c f (w + at0 t f.length)]) (w := w + at0 t f.length - goes c f (w + at0 t f.length)) (lv := fun p => lev p (f ++ [goes c f (w + at0 t f.length)]).reverse) (s6 := .val (.int (goes c f (w + at0 t f.length)))) hc
  refine ⟨s3', .val (.int (goes c f (w + at0 t f.length))), hs', ?_⟩
  unfold body28
  rw [x_exs1, a28_ok, s_nx, x_exs1, em, s_nx, x_exs1, app28_ok (by omega), s_nx, x_exs1, sub28_ok, s_nx, x_exs1, er, s_nx, x_exs1, en]
  have ek := k28_ok (c := c) (t := t) (f := f ++ [goes c f (w + at0 t f.length)]) (w := w + at0 t f.length - goes c f (w + at0 t f.length)) (s3 := s3') (s6 := .val (.int (goes c f (w + at0 t f.length)))) (by simp; omega)
  show (if stuck c (stp c t (f, w)) = true then _ else _ : SR).then _ = _
  cases hq : stuck c (stp c t (f, w)) with
  | true => rfl
  | false =>
    simp only [Bool.false_eq_true, if_false, s_nx]
    rw [x_exs1, ek, s_nx, x_exs0]
    rfl
theorem c28_ok {c : Cv} {t f : List Int} {w : Int} {s3 s6 : Sl} : evT P28 CC c28 (s28 c t s3 f w s6) = .ok (decide (f.length < t.length) || decide (0 < w)) (s28 c t s3 f w s6) := by
  unfold c28 s28
  by_cases h : f.length < t.length <;> simp [ev, evT, opds, opd, biS, lenD, intL, trafD, cmpS, truthD, h, vI, vB, Sl.d]
/-- how the loops end -/
def End (c : Cv) (t : List Int) (n : Nat) : Prop := condB c t n = false ∧ ∀ i, i < n → condB c t i = true
theorem loop28 {c : Cv} {t : List Int} {s3 s6 : Sl} (hc : Curve c) (ht : ∀ x ∈ t, 0 ≤ x) (hb : t.length + t.sum ≤ 1900) (hs : full3 c [] s3) :
    ∃ s3' s6' f w, (Waits c t ∧ whlI (evT P28 CC c28) (exs P28 CC body28) fuel (s28 c t s3 [] 0 s6) = .rt (.val .non) (s28 c t s3' f w s6')) ∨
      (∃ n, n ≤ 1900 ∧ End c t n ∧ f = (st c t n).1 ∧ whlI (evT P28 CC c28) (exs P28 CC body28) fuel (s28 c t s3 [] 0 s6) = .nx (s28 c t s3' f w s6')) := by
  refine whlI_ind (fun i E => ∃ s3 s6, full3 c (st c t i).1 s3 ∧ E = s28 c t s3 (st c t i).1 (st c t i).2 s6 ∧ ∀ j, j < i → condB c t j = true ∧ stuck c (st c t (j + 1)) = false)
    (fun R => ∃ s3' s6' f w, (Waits c t ∧ R = .rt (.val .non) (s28 c t s3' f w s6')) ∨ (∃ n, n ≤ 1900 ∧ End c t n ∧ f = (st c t n).1 ∧ R = .nx (s28 c t s3' f w s6'))) 1900 (by omega) ?_ _ ⟨s3, s6, hs, rfl, fun j hj => by omega⟩
  rintro i E ⟨s3, s6, hs, rfl, hj⟩
  have ok := st_ok (c := c) hc.small ht i
  have hsum : 0 ≤ t.sum := by have := take_le_sum ht 0; simp at this; omega
  have bd : i < 1900 ∨ condB c t i = false := by
    cases hq : condB c t i with
    | false => exact .inr rfl
    | true =>
      left
      rcases Nat.lt_or_ge i t.length with q | q
      · omega
      · have b := st_bound hc.small ht i hj q
        unfold condB at hq
        rw [decide_eq_false (by omega), Bool.false_or] at hq
        have := of_decide_eq_true hq
        omega
  have bd2 : i ≤ 1900 := by
    rcases Nat.lt_or_ge i t.length with q | q
    · omega
    · have b := st_bound hc.small ht i hj q
      have := ok.w0
      omega
  have ec := c28_ok (c := c) (t := t) (f := (st c t i).1) (w := (st c t i).2) (s3 := s3) (s6 := s6)
  have e1 : (decide ((st c t i).1.length < t.length) || decide (0 < (st c t i).2)) = condB c t i := by rw [st_len]; rfl
  rw [e1] at ec
  cases hq : condB c t i with
  | false =>
    rw [hq] at ec
    exact .inl ⟨_, ec, s3, s6, _, _, .inr ⟨i, bd2, ⟨hq, fun j h => (hj j h).1⟩, rfl, rfl⟩⟩
  | true =>
    rw [hq] at ec
    have hi : i < 1900 := by
      rcases bd with h | h
      · exact h
      · rw [hq] at h; cases h
    refine .inr ⟨hi, _, ec, ?_⟩
    obtain ⟨s3', s6', hs', et⟩ := turn28 (c := c) (t := t) (w := (st c t i).2) (s6 := s6) hc.len (by rw [st_len]; omega) hs
    have est : stp c t ((st c t i).1, (st c t i).2) = st c t (i + 1) := rfl
    rw [est] at et
    rw [et]
    cases hk : stuck c (st c t (i + 1)) with
    | true =>
      simp only [if_true]
      exact ⟨s3', s6', _, _, .inl ⟨stuck_waits hc.small ht hk, rfl⟩⟩
    | false =>
      simp only [Bool.false_eq_true, if_false]
      refine ⟨s3', s6', hs', rfl, fun j h => ?_⟩
      rcases Nat.lt_or_ge j i with q | q
      · exact hj j q
      · have : j = i := by omega
        subst this
        exact ⟨hq, hk⟩
theorem told_let_ok {c : Cv} {t : List Int} (hc : Curve c) (ht : ∀ x ∈ t, 0 ≤ x) (hb : t.length + t.sum ≤ 1900) :
    (Waits c t ∧ F28 [.val (curveD c), .val (trafD t)] = .ok (.val .non) [.val (curveD c), .val (trafD t)]) ∨
    ∃ n, n ≤ 1900 ∧ End c t n ∧ F28 [.val (curveD c), .val (trafD t)] = .ok (.val (trafD (st c t n).1)) [.val (curveD c), .val (trafD t)] := by
  have q27 : P28 27 = F27 := rfl
  have e27 := buckets_ok hc
  have e1 : ex P28 CC (.set 2 (.call 27 [(.var 0)])) [.val (curveD c), .val (trafD t), .no, .no, .no, .no, .no, .no, .no, .no] = .nx [.val (curveD c), .val (trafD t), .own (bkD c), .no, .no, .no, .no, .no, .no, .no] := by
    simp [ex, ev, args, callS, evC, popS, q27, e27, putBack, putS, bkD]
  have ela := lc28a (c := c) (s0 := .val (curveD c)) (s1 := .val (trafD t)) (s3 := .no) (s4 := .no) (s5 := .no) (s6 := .no) hc.len
  have e2 : ex P28 CC (.par [3, 4, 5] [(.lc (.fz 7) (.tup [(.nm 7), (.nm 8)]) (.fz 2) [] [7, 8]), (.lst []), (.int 0)]) [.val (curveD c), .val (trafD t), .own (bkD c), .no, .no, .no, .no, .no, .no, .no] = .nx (s28 c t (.own (fuD c fun p => lev p [])) [] 0 .no) := by
    have ea : ∀ (elt : E) (tg : Tgt) (it : E) (ifs : List E) (own : List Nat) (r : List E), args P28 CC (.lc elt tg it ifs own :: r) = .ex (ev P28 CC (.lc elt tg it ifs own)) :: args P28 CC r := fun elt tg it ifs own r => by simp only [args]
    rw [ex, ea]
    simp only [evC, s_bind2, ela, s_ok]
    simp [ev, evD, args, evC, putAll, putS, vI, SR.of, SR.then, s28, intL, sizeLine_eq]
  obtain ⟨s3', s6', f, w, h⟩ := loop28 (s3 := .own (fuD c fun p => lev p [])) (s6 := .no) hc ht hb (.inl rfl)
  have eB : exs P28 CC B28 [.val (curveD c), .val (trafD t), .no, .no, .no, .no, .no, .no, .no, .no] = (whlI (evT P28 CC c28) (exs P28 CC body28) fuel (s28 c t (.own (fuD c fun p => lev p [])) [] 0 .no)).then (exs P28 CC [.ret (.ty .tuple [(.var 4)])]) := by
    rw [b28, x_exs1, e1, s_nx, x_exs1, e2, s_nx, x_exs1, x_whl]
  have eF : F28 [.val (curveD c), .val (trafD t)] = (match exs P28 CC B28 [.val (curveD c), .val (trafD t), .no, .no, .no, .no, .no, .no, .no, .no] with
    | .rt s E => .ok s ((wipeE E []).take 2)
    | .nx E => .ok (.val .non) ((wipeE E []).take 2)
    | .exc c x E => .exc c x ((wipeE E []).take 2)
    | _ => .bad) := rfl
  rcases h with ⟨hw, e⟩ | ⟨n, hn, he, rfl, e⟩
  · left
    refine ⟨hw, ?_⟩
    rw [eF, eB, e]
    rfl
  · right
    refine ⟨n, hn, he, ?_⟩
    rw [eF, eB, e]
    simp [SR.then, exs, ex, ev, opds, opd, tyS, s28, intL, trafD, Sl.d, SR.of, wipeE]
end Lw
end

section
set_option Elab.async false
set_option linter.all false
set_option maxRecDepth 100000
set_option maxHeartbeats 1000000
/-! K24: shaped, the law's own way -/
namespace Lw
open PySem L2
theorem shaped_ok {c : Cv} {t : List Int} {d : D} (hc : Curve c) (ht : Traf t) (h : F28 [.val (curveD c), .val (trafD t)] = .ok (.val d) [.val (curveD c), .val (trafD t)]) : F29 [.val (curveD c), .val (trafD t)] = .ok (.val d) [.val (curveD c), .val (trafD t)] := by
  have q7 : P29 7 = F7 := rfl
  have q13 : P29 13 = F13 := rfl
  have q28 : P29 28 = F28 := rfl
  unfold F29 B29
  simp [fnS, exs, ex, ev, args, callS, evC, popS, q7, q13, q28, look_curve_ok hc, look_traffic_ok ht, h, putBack, wipeE, SR.then]
/-! waits for ever -/
theorem waits_ok {c : Cv} {t : List Int} (hc : Curve c) : ∃ b : Bool, (b = true ↔ Waits c t) ∧ F30 [.val (curveD c), .val (trafD t)] = .ok (vB b) [.val (curveD c), .val (trafD t)] := by
  have w : ∀ s2 s3, wipeE [.val (curveD c), .val (trafD t), s2, s3] [2, 3] = [.val (curveD c), .val (trafD t), .no, .no] := fun s2 s3 => by simp [wipeE]
  have no : notOwn [.val (curveD c), .val (trafD t), .no, .no] [2, 3] = true := by simp [notOwn]
  have ei : evI P30 CC (.fz 0) [.val (curveD c), .val (trafD t), .no, .no] = .ok (c.map prD) [.val (curveD c), .val (trafD t), .no, .no] := by
    simp [evI, ev, fzS, itemsD, curveD, Sl.d]
  have hlen := hc.len
  have e1 : ev P30 CC (.lc (.fz 3) (.tup [(.nm 2), (.nm 3)]) (.fz 0) [] [2, 3]) [.val (curveD c), .val (trafD t), .no, .no] = .ok (.own (.lst ((c.map (·.2)).map .int))) [.val (curveD c), .val (trafD t), .no, .no] := by
    generalize hE : ev P30 CC (.fz 3) = elt
    have lc := lcI_mapG (bt := bindT (.tup [.nm 2, .nm 3])) (tests := evTs P30 CC []) (elt := elt) (own := [2, 3]) (W := [.val (curveD c), .val (trafD t), .no, .no]) (g := prD) (f := fun p => .int p.2) (w _ _) c [] (by rw [sizeLine_eq]; simp; omega) (fun p hp => by
      refine ⟨[.val (curveD c), .val (trafD t), .val (.int p.1), .val (.int p.2)], [.val (curveD c), .val (trafD t), .val (.int p.1), .val (.int p.2)], [.val (curveD c), .val (trafD t), .val (.int p.1), .val (.int p.2)], .val (.int p.2), by simp [bindT, bindTs, prD], by simp [evTs, lcI.allT], ?_, rfl, w _ _⟩
      rw [← hE]
      simp [ev, fzS])
    rw [ev_lc, s_bind, ei, s_ok]
    simp only [hE, no, if_true, w, lc, List.nil_append]
    simp [backE, Function.comp_def]
  have e2 : ev P30 CC (.lc (.fz 2) (.tup [(.nm 2), (.nm 3)]) (.fz 0) [(.cmp .Eq (.var 3) (.int 0))] [2, 3]) [.val (curveD c), .val (trafD t), .no, .no] = .ok (.own (.lst (((c.filter fun p => decide (p.2 = 0)).map (·.1)).map .int))) [.val (curveD c), .val (trafD t), .no, .no] := by
    generalize hE : ev P30 CC (.fz 2) = elt
    generalize hT : evTs P30 CC [(.cmp .Eq (.var 3) (.int 0))] = tests
    obtain ⟨acc, E', el, h1, h2⟩ := lcI_ind (bt := bindT (.tup [.nm 2, .nm 3])) (tests := tests) (elt := elt) (own := [2, 3])
      (fun i acc E => acc = (((c.take i).filter fun p => decide (p.2 = 0)).map (·.1)).map .int ∧ E = [.val (curveD c), .val (trafD t), .no, .no]) (c.map prD)
      (fun i acc E d hd ⟨h1, h2⟩ => by
        subst h2
        rw [List.getElem?_map] at hd
        cases hp : c[i]? with
        | none => rw [hp] at hd; cases hd
        | some p =>
          rw [hp] at hd
          cases hd
          have hi : i < c.length := by
            rcases Nat.lt_or_ge i c.length with q | q
            · exact q
            · rw [List.getElem?_eq_none q] at hp; cases hp
          have etk : c.take (i + 1) = c.take i ++ [p] := by rw [List.take_succ, hp]; rfl
          refine ⟨[.val (curveD c), .val (trafD t), .val (.int p.1), .val (.int p.2)], [.val (curveD c), .val (trafD t), .val (.int p.1), .val (.int p.2)], decide (p.2 = 0), by simp [bindT, bindTs, prD, wipeE], ?_, fun hb => ⟨.val (.int p.1), [.val (curveD c), .val (trafD t), .val (.int p.1), .val (.int p.2)], ?_, ?_, ?_, w _ _⟩, fun hb => ⟨?_, w _ _⟩⟩
          · rw [← hT]
            have eb : (p.2 == 0) = decide (p.2 = 0) := by by_cases h : p.2 = 0 <;> simp [h]
            by_cases h : p.2 = 0 <;> simp [evTs, lcI.allT, evT, ev, opd, cmpS, eqD_int, truthD, vB, vI, Sl.d, h]
          · rw [← hE]; simp [ev, fzS]
          · rw [h1, sizeLine_eq]
            simp only [List.length_map]
            have := List.length_filter_le (fun p : Int × Int => decide (p.2 = 0)) (c.take i)
            rw [List.length_take] at this
            omega
          · rw [etk, List.filter_append, h1]
            have : p.2 = 0 := of_decide_eq_true hb
            simp [this, Sl.d]
          · rw [etk, List.filter_append, h1]
            have : ¬ p.2 = 0 := of_decide_eq_false hb
            simp [this]) [] [.val (curveD c), .val (trafD t), .no, .no] ⟨by simp, rfl⟩
    rw [List.length_map, List.take_length] at h1
    subst h1 h2
    rw [ev_lc, s_bind, ei, s_ok]
    simp only [hE, hT, no, if_true, w, el, List.nil_append]
    simp [backE]
  have ne := hc.ne
  obtain ⟨q, c', hcq⟩ : ∃ q c', c = q :: c' := by
    cases c with
    | nil => exact absurd rfl ne
    | cons q c' => exact ⟨q, c', rfl⟩
  have i1 : ∃ a r, c.map (·.2) = a :: r := by rw [hcq]; exact ⟨_, _, rfl⟩
  obtain ⟨a, r, har⟩ := i1
  rw [har] at e1
  have em : ev P30 CC (.bi .min [(.lc (.fz 3) (.tup [(.nm 2), (.nm 3)]) (.fz 0) [] [2, 3])]) [.val (curveD c), .val (trafD t), .no, .no] = .ok (vI (minL (a :: r))) [.val (curveD c), .val (trafD t), .no, .no] := by
    rw [ev, s_bind, opds1, opd_lc, s_evA2, e1, s_ok]
    simp only [opds, s_evA0, s_ok, Sl.d, biS, intsOf_ints, s_some, s_pure]
  have ea : ev P30 CC (.cmp .Eq (.bi .min [(.lc (.fz 3) (.tup [(.nm 2), (.nm 3)]) (.fz 0) [] [2, 3])]) (.int 0)) [.val (curveD c), .val (trafD t), .no, .no] = .ok (.val (.bl (minL (a :: r) == 0))) [.val (curveD c), .val (trafD t), .no, .no] := by
    rw [ev_cmp, opd_bi, s_bind, s_evA2, em, s_ok]
    simp [opd, ev, Sl.d, vI, cmpS, eqD_int, vB]
  have mm : minL (a :: r) ∈ c.map (·.2) ∧ ∀ y ∈ c.map (·.2), minL (a :: r) ≤ y := by rw [har]; exact minL_mem a r
  have eA : ∀ a b : E, ev P30 CC (.andV a b) = M.bind (ev P30 CC a) fun s => match s with | .val (.bl true) => ev P30 CC b | .val (.bl false) => M.pure (vB false) | _ => M.bad := fun a b => by rw [ev] <;> rfl
  have eF : ∀ b, ev P30 CC (.andV (.cmp .Eq (.bi .min [(.lc (.fz 3) (.tup [(.nm 2), (.nm 3)]) (.fz 0) [] [2, 3])]) (.int 0)) (.cmp .Gt (.bi .sum [(.var 1)]) (.bi .min [(.lc (.fz 2) (.tup [(.nm 2), (.nm 3)]) (.fz 0) [(.cmp .Eq (.var 3) (.int 0))] [2, 3])]))) [.val (curveD c), .val (trafD t), .no, .no] = .ok (vB b) [.val (curveD c), .val (trafD t), .no, .no] → F30 [.val (curveD c), .val (trafD t)] = .ok (vB b) [.val (curveD c), .val (trafD t)] := fun b h => by
    unfold F30 B30
    simp only [fnS, List.length_cons, List.length_nil, List.replicate, List.append, List.cons_append, List.nil_append, x_exs1, x_exs0, x_ret, h, SR.of, SR.then]
    simp [wipeE]
  by_cases h0 : minL (a :: r) = 0
  · rw [h0] at ea mm
    obtain ⟨p0, hp0, hz0⟩ := List.mem_map.mp mm.1
    have i2 : ∃ a2 r2, (c.filter fun p => decide (p.2 = 0)).map (·.1) = a2 :: r2 := by
      have : p0 ∈ c.filter fun p => decide (p.2 = 0) := List.mem_filter.mpr ⟨hp0, decide_eq_true hz0⟩
      cases hf : c.filter fun p => decide (p.2 = 0) with
      | nil => rw [hf] at this; cases this
      | cons x y => exact ⟨_, _, rfl⟩
    obtain ⟨a2, r2, har2⟩ := i2
    have m2 : minL (a2 :: r2) ∈ (c.filter fun p => decide (p.2 = 0)).map (·.1) ∧ ∀ y ∈ (c.filter fun p => decide (p.2 = 0)).map (·.1), minL (a2 :: r2) ≤ y := by rw [har2]; exact minL_mem a2 r2
    rw [har2] at e2
    refine ⟨decide (minL (a2 :: r2) < t.sum), ?_, eF _ ?_⟩
    · rw [decide_eq_true_eq]
      constructor
      · intro h
        obtain ⟨p, hp, e⟩ := List.mem_map.mp m2.1
        have hf := List.mem_filter.mp hp
        exact ⟨p, hf.1, of_decide_eq_true hf.2, by have e : p.1 = minL (a2 :: r2) := e; omega⟩
      · rintro ⟨p, hp, h1, h2⟩
        have := m2.2 p.1 (List.mem_map.mpr ⟨p, List.mem_filter.mpr ⟨hp, decide_eq_true h1⟩, rfl⟩)
        omega
    · have e3 : ev P30 CC (.bi .min [(.lc (.fz 2) (.tup [(.nm 2), (.nm 3)]) (.fz 0) [(.cmp .Eq (.var 3) (.int 0))] [2, 3])]) [.val (curveD c), .val (trafD t), .no, .no] = .ok (vI (minL (a2 :: r2))) [.val (curveD c), .val (trafD t), .no, .no] := by
        rw [ev, s_bind, opds1, opd_lc, s_evA2, e2, s_ok]
        simp only [opds, s_evA0, s_ok, Sl.d, biS, intsOf_ints, s_some, s_pure]
      have e4 : ev P30 CC (.bi .sum [(.var 1)]) [.val (curveD c), .val (trafD t), .no, .no] = .ok (vI t.sum) [.val (curveD c), .val (trafD t), .no, .no] := by
        simp [ev, opds, opd, trafD, biS, intsOf_ints, vI, Sl.d]
      rw [eA, s_bind, ea, s_ok]
      show ev P30 CC _ _ = _
      rw [ev_cmp, opd_bi, opd_bi, s_bind, s_evA2, e4, s_ok, s_evA2, e3, s_ok]
      simp [cmpS, vI, vB, Sl.d]
  · refine ⟨false, ⟨(fun h => by cases h), ?_⟩, eF _ ?_⟩
    · rintro ⟨p, hp, h1, h2⟩
      exfalso
      have h3 := mm.2 p.2 (List.mem_map.mpr ⟨p, hp, rfl⟩)
      obtain ⟨p0, hp0, hz0⟩ := List.mem_map.mp mm.1
      have h4 := hc.small p0 hp0
      have hz0 : p0.2 = minL (a :: r) := hz0
      omega
    · have : (minL (a :: r) == 0) = false := by simpa using h0
      rw [this] at ea
      rw [eA, s_bind, ea, s_ok]
      rfl
end Lw
end

section
set_option Elab.async false
set_option linter.all false
set_option maxRecDepth 100000
set_option maxHeartbeats 1000000
/-! K25: the law's own way of letting go on -/
namespace Lw
open PySem L2
def rst (c : Cv) (f : List Int) (m : Nat) : Int := letZ c (1 + (m : Int)) - lastS f m
theorem goes_eq {c : Cv} (hc : c ≠ []) (f : List Int) (w : Int) : minL (w :: (List.range (f.length + 1)).map (rst c f)) = goes c f w := by
  have m1 := minL_mem w ((List.range (f.length + 1)).map (rst c f))
  have m2 := minL_mem w (c.map fun p => lev p f.reverse)
  apply Int.le_antisymm
  · rcases goes_cases c f w with e | ⟨p, hp, e⟩
    · rw [e]; exact m1.2 w List.mem_cons_self
    · obtain ⟨-, m, hm, e2⟩ := lev_at p f
      have h1 := m1.2 (rst c f m) (List.mem_cons_of_mem _ (List.mem_map.mpr ⟨m, List.mem_range.mpr (by omega), rfl⟩))
      have h2 := letZ_le (m := 1 + (m : Int)) (by omega) hp
      have h3 : rst c f m = letZ c (1 + (m : Int)) - lastS f m := rfl
      rw [show (1 : Int) + (m : Int) = (m : Int) + 1 by omega] at h2 h3
      omega
  · rcases List.mem_cons.mp m1.1 with e | e
    · rw [e]; exact goes_le c f w
    · obtain ⟨m, hm, e⟩ := List.mem_map.mp e
      have hm := List.mem_range.mp hm
      obtain ⟨p, hp, e3⟩ := letZ_mem (m := 1 + (m : Int)) hc (by omega)
      have h1 := goes_lev c f w hp
      have h2 := (lev_at p f).1 m (by omega)
      have h3 : rst c f m = letZ c (1 + (m : Int)) - lastS f m := rfl
      rw [show (1 : Int) + (m : Int) = (m : Int) + 1 by omega] at e3 h3
      omega
theorem x_app (Φ : Nat → M Sl) (C : Nat → D) (i : Nat) (e : E) (E : SE) : ex Φ C (.app i e) E = if isOwnL E i then .of (ev Φ C e E) fun s => updS i (appD s) else .bad := by rw [ex]
theorem cut_from {α : Type} {xs : List α} {i : Nat} (h : i ≤ xs.length) : cutD xs (some (i : Int)) none = xs.drop i := by
  unfold cutD
  have e1 : HT.sIx xs.length 0 (some (i : Int)) = i := by rw [HT.sIx_nat]; omega
  have e2 : HT.sIx xs.length xs.length none = xs.length := rfl
  rw [e1, e2, List.take_of_length_le (by simp)]
def a31 : S := .set 4 (.bop .Add (.var 4) (.ite (.cmp .Lt (.bi .len [(.var 3)]) (.bi .len [(.var 1)])) (.idx (.var 1) (.bi .len [(.var 3)])) (.int 0)))
def in31 : List S := [.app 5 (.bop .Sub (.call 0 [(.var 0), (.var 6)]) (.bi .sum [(.slc (.var 3) (.bop .Sub (.bop .Add (.bi .len [(.var 3)]) (.int 1)) (.var 6)) .non)]))]
def rg31 : E := .rng2 (.int 1) (.bop .Add (.bi .len [(.var 3)]) (.int 2))
def p31 : S := .app 3 (.bi .min [(.var 5)])
def w31 : S := .set 4 (.bop .Sub (.var 4) (.idx (.var 3) (.neg (.int 1))))
def k31 : S := .ite (.cmp .Gt (.bi .len [(.var 3)]) (.bop .Add (.bi .len [(.var 1)]) (.var 2))) [.ret .non] []
def body31 : List S := [a31, .set 5 (.lst [(.fz 4)]), .for_ (.nm 6) rg31 in31, p31, w31, k31]
def c31 : E := .orV (.cmp .Lt (.bi .len [(.var 3)]) (.bi .len [(.var 1)])) (.cmp .Gt (.var 4) (.int 0))
theorem b31 : B31 = [.par [3, 4] [(.lst []), (.int 0)], .whl c31 body31, .ret (.ty .tuple [(.var 3)])] := rfl
def s31 (c : Cv) (t : List Int) (f : List Int) (w : Int) (s5 s6 : Sl) : SE := [.val (curveD c), .val (trafD t), .val (.int 400), .own (intL f), .val (.int w), s5, s6]
theorem a31_ok {c : Cv} {t f : List Int} {w : Int} {s5 s6 : Sl} : ex P31 CC a31 (s31 c t f w s5 s6) = .nx (s31 c t f (w + at0 t f.length) s5 s6) := by
  unfold a31 s31
  by_cases h : f.length < t.length
  · have hx : atI (t.map D.int) (f.length : Int) = some (.int t[f.length]) := by
      rw [atI_nat (by simp; omega)]; simp
    have ha : at0 t f.length = t[f.length] := by unfold at0; rw [List.getD_eq_getElem?_getD, List.getElem?_eq_getElem h]; rfl
    rw [ha]
    simp [ex, ev, evT, opds, opd, biS, lenD, trafD, intL, cmpS, truthD, ixS, hx, h, bopS, putS, vI, vB, Sl.d, SR.of]
  · have ha : at0 t f.length = 0 := by unfold at0; rw [List.getD_eq_getElem?_getD, List.getElem?_eq_none (by omega)]; rfl
    rw [ha]
    simp [ex, ev, evT, opds, opd, biS, lenD, trafD, intL, cmpS, truthD, h, bopS, putS, vI, vB, Sl.d, SR.of]
theorem in31_ok {c : Cv} {t f : List Int} {w : Int} {m : Nat} {xs : List Int} (hc : Curve c) (hm : m ≤ f.length) (hf : f.length ≤ 100000) (hx : xs.length ≤ 200000) :
    exs P31 CC in31 (s31 c t f w (.own (intL xs)) (.val (.int (1 + (m : Int))))) = .nx (s31 c t f w (.own (intL (xs ++ [rst c f m]))) (.val (.int (1 + (m : Int))))) := by
  have q0 : P31 0 = F0 := rfl
  have lo := let_ok (t := 1 + (m : Int)) hc (by omega)
  have cut : cutD (f.map D.int) (some ((f.length : Int) + 1 - (1 + (m : Int)))) none = (f.drop (f.length - m)).map D.int := by
    rw [show (f.length : Int) + 1 - (1 + (m : Int)) = ((f.length - m : Nat) : Int) by omega, cut_from (by simp), List.map_drop]
  have es := intsOf_ints (f.drop (f.length - m))
  have hz : xs.length < 16777216 := by omega
  have ev1 : ev P31 CC (.bop .Sub (.call 0 [(.var 0), (.var 6)]) (.bi .sum [(.slc (.var 3) (.bop .Sub (.bop .Add (.bi .len [(.var 3)]) (.int 1)) (.var 6)) .non)])) (s31 c t f w (.own (intL xs)) (.val (.int (1 + (m : Int))))) = .ok (vI (rst c f m)) (s31 c t f w (.own (intL xs)) (.val (.int (1 + (m : Int))))) := by
    have e1 : ev P31 CC (.call 0 [(.var 0), (.var 6)]) (s31 c t f w (.own (intL xs)) (.val (.int (1 + (m : Int))))) = .ok (vI (letZ c (1 + (m : Int)))) (s31 c t f w (.own (intL xs)) (.val (.int (1 + (m : Int))))) := by
      simp [ev, args, callS, evC, popS, s31, q0, lo, putBack]
    have e2 : ev P31 CC (.slc (.var 3) (.bop .Sub (.bop .Add (.bi .len [(.var 3)]) (.int 1)) (.var 6)) .non) (s31 c t f w (.own (intL xs)) (.val (.int (1 + (m : Int))))) = .ok (.own (.lst ((f.drop (f.length - m)).map D.int))) (s31 c t f w (.own (intL xs)) (.val (.int (1 + (m : Int))))) := by
      rw [← cut]
      simp [ev, opds, opd, biS, lenD, intL, s31, slP, partO, isNonE, partD, slS, bopS, vI, Sl.d]
    have o1 : opd P31 CC (.call 0 [(.var 0), (.var 6)]) = .ex (ev P31 CC (.call 0 [(.var 0), (.var 6)])) := by simp only [opd]
    have o2 : opds P31 CC [(.slc (.var 3) (.bop .Sub (.bop .Add (.bi .len [(.var 3)]) (.int 1)) (.var 6)) .non)] = [.ex (ev P31 CC (.slc (.var 3) (.bop .Sub (.bop .Add (.bi .len [(.var 3)]) (.int 1)) (.var 6)) .non))] := by simp only [opds, opd]
    have e3 : ev P31 CC (.bi .sum [(.slc (.var 3) (.bop .Sub (.bop .Add (.bi .len [(.var 3)]) (.int 1)) (.var 6)) .non)]) (s31 c t f w (.own (intL xs)) (.val (.int (1 + (m : Int))))) = .ok (vI (lastS f m)) (s31 c t f w (.own (intL xs)) (.val (.int (1 + (m : Int))))) := by
      rw [ev, s_bind, o2, s_evA2, e2, s_ok]
      simp only [s_evA0, s_ok, Sl.d, biS, es, Option.map_some, s_some, s_pure]
      rfl
    rw [ev_bop, s_bind, o1, opd_bi, s_evA2, e1, s_ok, s_evA2, e3, s_ok]
    simp only [s_evA0, s_ok, Sl.d, vI, bopS, s_some, s_pure]
    rfl
  have ow : isOwnL (s31 c t f w (.own (intL xs)) (.val (.int (1 + (m : Int))))) 5 = true := rfl
  unfold in31
  rw [x_exs1, x_app, ow]
  simp only [if_true, ev1]
  simp [SR.of, updS, appD, s31, intL, hz, vI, Sl.d, sizeLine_eq, SR.then, exs]
theorem for31_ok {c : Cv} {t f : List Int} {w : Int} {s6 : Sl} (hc : Curve c) (hf : f.length ≤ 100000) :
    ∃ s6', ex P31 CC (.for_ (.nm 6) rg31 in31) (s31 c t f w (.own (intL [w])) s6) = .nx (s31 c t f w (.own (intL (w :: (List.range (f.length + 1)).map (rst c f)))) s6') := by
  have rl : (rngD 1 ((f.length : Int) + 2)).length = f.length + 1 := by rw [rng_len2]; omega
  have il := forI_ind (bt := bindT (.nm 6)) (b := exs P31 CC in31) (fun j E => ∃ s6, E = s31 c t f w (.own (intL (w :: (List.range j).map (rst c f)))) s6)
    (fun R => ∃ s6, R = .nx (s31 c t f w (.own (intL (w :: (List.range (f.length + 1)).map (rst c f)))) s6)) (rngD 1 ((f.length : Int) + 2))
    (fun j E d hd ⟨s6, eE⟩ => by
      subst eE
      obtain ⟨rfl, hj⟩ := rng2_get hd
      refine ⟨s31 c t f w (.own (intL (w :: (List.range j).map (rst c f)))) (.val (.int (1 + j))), by simp [bindT, s31], ?_⟩
      rw [in31_ok hc (by omega) hf (by simp; omega)]
      exact ⟨.val (.int (1 + j)), by rw [List.range_succ]; simp⟩)
    (fun E ⟨s6, eE⟩ => by
      subst eE
      rw [rl]
      exact ⟨s6, rfl⟩)
    (s31 c t f w (.own (intL [w])) s6) ⟨s6, by simp⟩
  obtain ⟨s6', el⟩ := il
  refine ⟨s6', ?_⟩
  have hm : (if (-(2 : Int) ^ 62 ≤ 1 ∧ (1 : Int) < 2 ^ 62) ∧ (-(2 : Int) ^ 62 ≤ (f.length : Int) + 2 ∧ (f.length : Int) + 2 < 2 ^ 62) then M.pure (rngD 1 ((f.length : Int) + 2)) else M.bad) = M.pure (rngD 1 ((f.length : Int) + 2)) := if_pos (by omega)
  have er : evI P31 CC rg31 (s31 c t f w (.own (intL [w])) s6) = .ok (rngD 1 ((f.length : Int) + 2)) (s31 c t f w (.own (intL [w])) s6) := by
    have e1 : evA [opd P31 CC (.int 1), opd P31 CC (.bop .Add (.bi .len [(.var 3)]) (.int 2))] (s31 c t f w (.own (intL [w])) s6) = .ok [.int 1, .int ((f.length : Int) + 2)] (s31 c t f w (.own (intL [w])) s6) := by
      unfold s31
      simp [ev, opds, opd, biS, lenD, intL, bopS, vI, Sl.d]
    unfold rg31
    rw [evI, s_bind, e1, s_ok]
    dsimp only
    rw [hm, s_pure]
  rw [x_for, er]
  simp only [SR.of, el]
theorem turn31 {c : Cv} {t f : List Int} {w : Int} {s5 s6 : Sl} (hc : Curve c) (hf : f.length ≤ 10000) :
    ∃ s5' s6', exs P31 CC body31 (s31 c t f w s5 s6) = if t.length + 400 < f.length + 1 then .rt (.val .non) (s31 c t (stp c t (f, w)).1 (stp c t (f, w)).2 s5' s6') else .nx (s31 c t (stp c t (f, w)).1 (stp c t (f, w)).2 s5' s6') := by
  obtain ⟨s6', e3⟩ := for31_ok (t := t) (f := f) (w := w + at0 t f.length) (s6 := s6) hc (by omega)
  have e2 : ex P31 CC (.set 5 (.lst [(.fz 4)])) (s31 c t f (w + at0 t f.length) s5 s6) = .nx (s31 c t f (w + at0 t f.length) (.own (intL [w + at0 t f.length])) s6) := by
    simp [ex, ev, evD, fzS, s31, intL, putS, Sl.d, sizeLine_eq, SR.of]
  have hz : f.length < 16777216 := by omega
  have ei := intsOf_ints ((w + at0 t f.length) :: (List.range (f.length + 1)).map (rst c f))
  have eg := goes_eq hc.ne f (w + at0 t f.length)
  have emin : ev P31 CC (.bi .min [(.var 5)]) (s31 c t f (w + at0 t f.length) (.own (intL ((w + at0 t f.length) :: (List.range (f.length + 1)).map (rst c f)))) s6') = .ok (vI (goes c f (w + at0 t f.length))) (s31 c t f (w + at0 t f.length) (.own (intL ((w + at0 t f.length) :: (List.range (f.length + 1)).map (rst c f)))) s6') := by
    rw [← eg]
    generalize (List.range (f.length + 1)).map (rst c f) = ys at ei
    rw [ev, s_bind, opds1, opd_varK, s_evA1]
    simp only [opds, s31, s_slot, List.getElem?_cons_succ, List.getElem?_cons_zero, s_ok, s_evA0, biS, intL, ei, s_some, s_pure]
  obtain ⟨s5', hs5⟩ : ∃ s, s = Sl.own (intL ((w + at0 t f.length) :: (List.range (f.length + 1)).map (rst c f))) := ⟨_, rfl⟩
  rw [← hs5] at emin e3
  have e4 : ex P31 CC p31 (s31 c t f (w + at0 t f.length) s5' s6') = .nx (s31 c t (f ++ [goes c f (w + at0 t f.length)]) (w + at0 t f.length) s5' s6') := by
    have ow : isOwnL (s31 c t f (w + at0 t f.length) s5' s6') 3 = true := rfl
    unfold p31
    rw [x_app, ow]
    simp only [if_true, emin]
    simp [SR.of, updS, appD, s31, intL, hz, vI, Sl.d, sizeLine_eq]
  generalize hg : goes c f (w + at0 t f.length) = g at *
  have e5 : ex P31 CC w31 (s31 c t (f ++ [g]) (w + at0 t f.length) s5' s6') = .nx (s31 c t (f ++ [g]) (w + at0 t f.length - g) s5' s6') := by
    have ea : atI ((f ++ [g]).map D.int) (-1) = some (.int g) := by
      have : atI ((f ++ [g]).map D.int) (-1) = ((f ++ [g]).map D.int)[f.length]? := by
        unfold atI ixN
        simp
        rw [if_pos (by omega)]
        simp only [Option.bind_some]
        rw [show (-1 + ((f.length : Int) + 1)).toNat = f.length by omega]
        rw [List.getElem?_append_right (by simp)]
        simp
      rw [this]; simp
    have ea2 : atI (f.map D.int ++ [.int g]) (-1) = some (.int g) := by rw [← ea]; simp
    unfold w31 s31
    simp [ex, ev, opd, intL, ixS, negS, ea2, bopS, putS, vI, Sl.d, SR.of]
  have eS : stp c t (f, w) = (f ++ [g], w + at0 t f.length - g) := by unfold stp; rw [← hg]
  have e6 : ex P31 CC k31 (s31 c t (f ++ [g]) (w + at0 t f.length - g) s5' s6') = if t.length + 400 < f.length + 1 then .rt (.val .non) (s31 c t (f ++ [g]) (w + at0 t f.length - g) s5' s6') else .nx (s31 c t (f ++ [g]) (w + at0 t f.length - g) s5' s6') := by
    unfold k31 s31
    by_cases h : t.length + 400 < f.length + 1
    · have h2 : (t.length : Int) + 400 < (f.length : Int) + 1 := by omega
      simp [ex, exs, ev, evT, opds, opd, biS, lenD, intL, trafD, bopS, cmpS, truthD, h, h2, vI, vB, Sl.d, SR.of, SR.then]
    · have h2 : ¬ ((t.length : Int) + 400 < (f.length : Int) + 1) := by omega
      simp [ex, exs, ev, evT, opds, opd, biS, lenD, intL, trafD, bopS, cmpS, truthD, h, h2, vI, vB, Sl.d, SR.of, SR.then]
  refine ⟨s5', s6', ?_⟩
  rw [eS]
  unfold body31
  rw [x_exs1, a31_ok, s_nx, x_exs1, e2, s_nx, x_exs1, e3, s_nx, x_exs1, e4, s_nx, x_exs1, e5, s_nx, x_exs1, e6]
  split <;> simp [SR.then, exs]
theorem c31_ok {c : Cv} {t f : List Int} {w : Int} {s5 s6 : Sl} : evT P31 CC c31 (s31 c t f w s5 s6) = .ok (decide (f.length < t.length) || decide (0 < w)) (s31 c t f w s5 s6) := by
  unfold c31 s31
  by_cases h : f.length < t.length <;> simp [ev, evT, opds, opd, biS, lenD, intL, trafD, cmpS, truthD, h, vI, vB, Sl.d]
theorem loop31 {c : Cv} {t : List Int} {n : Nat} (hc : Curve c) (hn : n ≤ 1900) (he : End c t n) :
    ∃ f w s5 s6, (whlI (evT P31 CC c31) (exs P31 CC body31) fuel (s31 c t [] 0 .no .no) = .rt (.val .non) (s31 c t f w s5 s6)) ∨
      (n ≤ t.length + 400 ∧ f = (st c t n).1 ∧ whlI (evT P31 CC c31) (exs P31 CC body31) fuel (s31 c t [] 0 .no .no) = .nx (s31 c t f w s5 s6)) := by
  refine whlI_ind (fun i E => i ≤ n ∧ i ≤ t.length + 400 ∧ ∃ s5 s6, E = s31 c t (st c t i).1 (st c t i).2 s5 s6)
    (fun R => ∃ f w s5 s6, (R = .rt (.val .non) (s31 c t f w s5 s6)) ∨ (n ≤ t.length + 400 ∧ f = (st c t n).1 ∧ R = .nx (s31 c t f w s5 s6))) 1900 (by omega) ?_ _ ⟨by omega, by omega, .no, .no, rfl⟩
  rintro i E ⟨h1, h2, s5, s6, rfl⟩
  have ec := c31_ok (c := c) (t := t) (f := (st c t i).1) (w := (st c t i).2) (s5 := s5) (s6 := s6)
  have e1 : (decide ((st c t i).1.length < t.length) || decide (0 < (st c t i).2)) = condB c t i := by rw [st_len]; rfl
  rw [e1] at ec
  rcases Nat.lt_or_ge i n with q | q
  · rw [he.2 i q] at ec
    refine .inr ⟨by omega, _, ec, ?_⟩
    obtain ⟨s5', s6', et⟩ := turn31 (t := t) (f := (st c t i).1) (w := (st c t i).2) (s5 := s5) (s6 := s6) hc (by rw [st_len]; omega)
    have est : stp c t ((st c t i).1, (st c t i).2) = st c t (i + 1) := rfl
    rw [est, st_len] at et
    rw [et]
    split
    · exact ⟨_, _, s5', s6', .inl rfl⟩
    · exact ⟨by omega, by omega, s5', s6', rfl⟩
  · have : i = n := by omega
    subst this
    rw [he.1] at ec
    exact .inl ⟨_, ec, _, _, s5, s6, .inr ⟨h2, rfl, rfl⟩⟩
theorem law_shaped_ok {c : Cv} {t : List Int} {n : Nat} (hc : Curve c) (hn : n ≤ 1900) (he : End c t n) :
    F31 [.val (curveD c), .val (trafD t), .val (.int 400)] = .ok (.val .non) [.val (curveD c), .val (trafD t), .val (.int 400)] ∨
    (n ≤ t.length + 400 ∧ F31 [.val (curveD c), .val (trafD t), .val (.int 400)] = .ok (.val (trafD (st c t n).1)) [.val (curveD c), .val (trafD t), .val (.int 400)]) := by
  have e1 : ex P31 CC (.par [3, 4] [(.lst []), (.int 0)]) [.val (curveD c), .val (trafD t), .val (.int 400), .no, .no, .no, .no] = .nx (s31 c t [] 0 .no .no) := by
    simp [ex, ev, evD, args, evC, putAll, putS, vI, SR.of, SR.then, s31, intL, sizeLine_eq]
  have eB : exs P31 CC B31 [.val (curveD c), .val (trafD t), .val (.int 400), .no, .no, .no, .no] = (whlI (evT P31 CC c31) (exs P31 CC body31) fuel (s31 c t [] 0 .no .no)).then (exs P31 CC [.ret (.ty .tuple [(.var 3)])]) := by
    rw [b31, x_exs1, e1, s_nx, x_exs1, x_whl]
  have eF : F31 [.val (curveD c), .val (trafD t), .val (.int 400)] = (match exs P31 CC B31 [.val (curveD c), .val (trafD t), .val (.int 400), .no, .no, .no, .no] with
    | .rt s E => .ok s ((wipeE E []).take 3)
    | .nx E => .ok (.val .non) ((wipeE E []).take 3)
    | .exc c x E => .exc c x ((wipeE E []).take 3)
    | _ => .bad) := rfl
  obtain ⟨f, w, s5, s6, h | ⟨h1, rfl, h⟩⟩ := loop31 hc hn he
  · left
    rw [eF, eB, h]; rfl
  · right
    refine ⟨h1, ?_⟩
    rw [eF, eB, h]
    simp [SR.then, exs, ex, ev, opds, opd, tyS, s31, intL, trafD, Sl.d, SR.of, wipeE]
end Lw
end

section
set_option Elab.async false
set_option linter.all false
set_option maxRecDepth 100000
set_option maxHeartbeats 1000000
/-! K26: texts of tuples -/
namespace Lw
open PySem L2 PyProof.Rows
/-- what is shown without ado -/
structure Shw (p : PyData) : Prop where
  show1 : p.showable = true
  dict : p.hasDict = false
  depth : p.depth ≤ 20
  short : p.leavesShort 13 = true
  weight : p.weight ≤ 100
  ok : PyData.strOk p.shown = true
theorem shw_int {i : Int} (h : i.natAbs < 10 ^ 12) : Shw (.int i) := by
  have h1 : i.natAbs.log2 < 1920 := Nat.lt_of_lt_of_le (log_lt (k := 40) (by decide) (Nat.lt_trans h (by decide))) (by decide)
  have h2 := PyData.shown_int_le h
  have h40 : i.natAbs.log2 < 40 := log_lt (k := 40) (by decide) (Nat.lt_trans h (by decide))
  exact ⟨by simp [PyData.showable, h1], by simp [PyData.hasDict], by simp [PyData.depth], by simp only [PyData.leavesShort]; exact decide_eq_true h2, by simp only [PyData.weight]; split <;> omega, by simp only [PyData.shown]; exact strOk_int i⟩
theorem pds_map {α : Type} {f : α → D} {g : α → PyData} (h : ∀ x, (f x).pd = some (g x)) : ∀ xs : List α, D.pds (xs.map f) = some (xs.map g)
  | [] => by simp [D.pds]
  | x :: xs => by simp [D.pds, h x, pds_map h xs]
theorem shw_all : ∀ ps : List PyData, (∀ p ∈ ps, Shw p) → PyData.showableAll ps = true ∧ PyData.hasDictAll ps = false ∧ PyData.depthAll ps ≤ 20 ∧ PyData.leavesShortAll 13 ps = true ∧ PyData.weightAll ps ≤ 101 * ps.length + 1 ∧ ∀ x ∈ PyData.shownAll ps, PyData.strOk x = true
  | [], _ => by simp [PyData.showableAll, PyData.hasDictAll, PyData.depthAll, PyData.leavesShortAll, PyData.weightAll, PyData.shownAll]
  | p :: ps, h => by
    have h1 := h p List.mem_cons_self
    obtain ⟨a1, a2, a3, a4, a5, a6⟩ := shw_all ps fun q hq => h q (List.mem_cons_of_mem _ hq)
    have := h1.depth
    have := h1.weight
    refine ⟨by simp [PyData.showableAll, h1.show1, a1], by simp [PyData.hasDictAll, h1.dict, a2], by simp [PyData.depthAll]; omega, by simp [PyData.leavesShortAll, h1.short, a4], by simp [PyData.weightAll]; omega, ?_⟩
    intro x hx
    simp only [PyData.shownAll, List.mem_cons] at hx
    rcases hx with rfl | hx
    · exact h1.ok
    · exact a6 x hx
theorem repr_tup {α : Type} {f : α → D} {g : α → PyData} {xs : List α} (h : ∀ x, (f x).pd = some (g x)) (hs : ∀ x ∈ xs, Shw (g x)) (hl : xs.length ≤ 10000) : ∃ x, reprD (.tup (xs.map f)) = some x ∧ PyData.strOk x = true := by
  obtain ⟨a1, a2, a3, a4, a5, a6⟩ := shw_all (xs.map g) (fun p hp => by obtain ⟨x, hx, rfl⟩ := List.mem_map.mp hp; exact hs x hx)
  rw [List.length_map] at a5
  have w : (PyData.tuple (xs.map g)).weight ≤ 2 ^ 20 := by simp only [PyData.weight]; omega
  have sh : (PyData.tuple (xs.map g)).leavesShort 13 = true := by simp only [PyData.leavesShort]; exact a4
  have len := PyData.shown_fits (B := 13) (by omega) (by omega) sh w
  refine ⟨(PyData.tuple (xs.map g)).shown, ?_, ?_⟩
  · have e1 : (PyData.tuple (xs.map g)).showable = true := by simp only [PyData.showable]; exact a1
    have e2 : (PyData.tuple (xs.map g)).hasDict = false := by simp only [PyData.hasDict]; exact a2
    have e3 : (PyData.tuple (xs.map g)).depth ≤ 60 := by simp only [PyData.depth]; omega
    simp [reprD, D.pd, pds_map h xs, e1, e2, e3, len]
  · simp only [PyData.shown]
    exact strOk_tupT a6
theorem repr_traf {f : List Int} (h : ∀ x ∈ f, x.natAbs < 10 ^ 12) (hl : f.length ≤ 10000) : ∃ x, reprD (trafD f) = some x ∧ PyData.strOk x = true := repr_tup (f := D.int) (g := PyData.int) (fun x => by simp [D.pd]) (fun x hx => shw_int (h x hx)) hl
theorem shw_pr {p : Int × Int} (h1 : p.1.natAbs < 10 ^ 12) (h2 : p.2.natAbs < 10 ^ 12) : Shw (prP p) := by
  have l1 : p.1.natAbs.log2 < 40 := log_lt (k := 40) (by decide) (Nat.lt_trans h1 (by decide))
  have l2 : p.2.natAbs.log2 < 40 := log_lt (k := 40) (by decide) (Nat.lt_trans h2 (by decide))
  obtain ⟨a1, a2, a3, a4, a5, a6⟩ := shw_all [.int p.1, .int p.2] (fun q hq => by
    simp only [List.mem_cons, List.not_mem_nil, or_false] at hq
    rcases hq with rfl | rfl
    · exact shw_int h1
    · exact shw_int h2)
  refine ⟨by simp only [prP, PyData.showable]; exact a1, by simp only [prP, PyData.hasDict]; exact a2, by simp [prP, PyData.depth, PyData.depthAll], by simp only [prP, PyData.leavesShort]; exact a4, by simp only [prP, PyData.weight, PyData.weightAll]; split <;> split <;> omega, ?_⟩
  simp only [prP, PyData.shown]
  exact strOk_tupT a6
theorem repr_curve {c : Cv} (h : ∀ p ∈ c, p.1.natAbs < 10 ^ 12 ∧ p.2.natAbs < 10 ^ 12) (hl : c.length ≤ 10000) : ∃ x, reprD (curveD c) = some x ∧ PyData.strOk x = true := repr_tup (f := prD) (g := prP) (fun p => by simp [prD, D.pd, D.pds, prP]) (fun p hp => shw_pr (h p hp).1 (h p hp).2) hl
theorem cut_to {α : Type} (xs : List α) (n : Nat) : cutD xs none (some (n : Int)) = xs.take n := by
  unfold cutD
  have e1 : HT.sIx xs.length 0 none = 0 := rfl
  rw [e1, HT.sIx_nat, List.drop_zero, Nat.sub_zero]
  rw [List.take_eq_take_iff]; omega
end Lw
end

section
set_option Elab.async false
set_option linter.all false
set_option maxRecDepth 100000
set_option maxHeartbeats 1000000
/-! K27: _law_is_shaped_right -/
namespace Lw
open PySem L2
theorem end_uniq {c : Cv} {t : List Int} {n m : Nat} (h1 : End c t n) (h2 : condB c t m = false) : n ≤ m := by
  rcases Nat.lt_or_ge m n with q | q
  · have := h1.2 m q
    rw [h2] at this; cases this
  · exact q
theorem end_same {c : Cv} {t : List Int} {n : Nat} (ht : ∀ x ∈ t, 0 ≤ x) (hs : Small c) (he : End c t n) (h : hits c t = []) : (st c t n).1 = t := by
  have e := st_same ht h t.length (Nat.le_refl _)
  have c0 : condB c t t.length = false := by
    unfold condB
    rw [e]
    simp
  have h1 := end_uniq he c0
  have h2 := (done_sum hs ht he.1).2
  have : n = t.length := by omega
  rw [this, e, List.take_length]
def q1_32 : E := .andV (.bi .isinstance [(.var 2), (.tyc "tuple")]) (.andV (.cmp .Eq (.call 11 [(.var 0), (.slc (.var 2) .non (.int 30))]) (.lst [])) (.cmp .Eq (.bi .sum [(.var 2)]) (.bi .sum [(.var 1)])))
def q2_32 : E := .orV (.cmp .NotEq (.bi .repr [(.var 2)]) (.bi .repr [(.var 3)])) (.cmp .NotEq (.call 16 [(.var 0), (.slc (.var 2) .non (.int 400))]) (.tup [(.str "fits")]))
def q3_32 : E := .orV (.cmp .NotEq (.call 16 [(.var 0), (.var 1)]) (.tup [(.str "fits")])) (.cmp .Eq (.var 2) (.var 1))
theorem b32 : B32 = [.set 2 (.call 29 [(.var 0), (.var 1)]), .ite (.call 30 [(.var 0), (.var 1)]) [.ret (.cmp .Is (.var 2) .non)] [], .set 3 (.call 31 [(.var 0), (.var 1), (.int 400)]), .ite (.cmp .Is (.var 3) .non) [.ret q1_32] [], .ite q2_32 [.ret (.bl false)] [], .ret q3_32] := rfl
theorem shaped_right_ok {c : Cv} {t : List Int} (hc : Curve c) (htr : Traf t) (hb : t.length + t.sum ≤ 1000) : ∃ s2 s3, exs P32 CC B32 [.val (curveD c), .val (trafD t), .no, .no] = .rt (vB true) [.val (curveD c), .val (trafD t), s2, s3] := by
  have q29 : P32 29 = F29 := rfl
  have q30 : P32 30 = F30 := rfl
  have q31 : P32 31 = F31 := rfl
  have q16 : P32 16 = F16 := rfl
  have q11 : P32 11 = F11 := rfl
  have ht : ∀ x ∈ t, 0 ≤ x := fun x hx => (htr.small x hx).1
  obtain ⟨b, hbw, e30⟩ := waits_ok (t := t) hc
  have f16 := fits_ok hc htr
  rcases told_let_ok hc ht (by omega) with ⟨hw, e28⟩ | ⟨n, hn, he, e28⟩
  · have e29 := shaped_ok hc htr e28
    have b1 : b = true := hbw.mpr hw
    subst b1
    refine ⟨.val .non, .no, ?_⟩
    rw [b32]
    simp [exs, ex, ev, evT, opds, opd, args, callS, evC, popS, q29, q30, e29, e30, putBack, putS, truthD, cmpS, isNonD, vB, Sl.d, SR.of, SR.then]
  · have e29 := shaped_ok hc htr e28
    have b0 : b = false := by
      cases b with
      | false => rfl
      | true => exact absurd (hbw.mp rfl) (done_not hc.small ht he.1)
    subst b0
    have ok := st_ok (c := c) hc.small ht n
    have hsum := (done_sum hc.small ht he.1).1
    have small : ∀ x ∈ (st c t n).1, 0 ≤ x ∧ x ≤ 1000 := by
      intro x hx
      have h0 := ok.pos x hx
      have : x ≤ (st c t n).1.sum := by
        obtain ⟨i, hi, e⟩ := List.mem_iff_getElem.mp hx
        have h1 := take_le_sum ok.pos (i + 1)
        have h2 := take_le_sum ok.pos i
        rw [take_sum] at h1
        have : at0 (st c t n).1 i = x := by unfold at0; rw [List.getD_eq_getElem?_getD, List.getElem?_eq_getElem hi, ← e]; rfl
        omega
      omega
    have htl : t.length ≤ 1000 := by have := take_le_sum ht 0; simp at this; omega
    have step1 : exs P32 CC B32 [.val (curveD c), .val (trafD t), .no, .no] = exs P32 CC [.set 3 (.call 31 [(.var 0), (.var 1), (.int 400)]), .ite (.cmp .Is (.var 3) .non) [.ret q1_32] [], .ite q2_32 [.ret (.bl false)] [], .ret q3_32] [.val (curveD c), .val (trafD t), .val (trafD (st c t n).1), .no] := by
      have e1 : ex P32 CC (.set 2 (.call 29 [(.var 0), (.var 1)])) [.val (curveD c), .val (trafD t), .no, .no] = .nx [.val (curveD c), .val (trafD t), .val (trafD (st c t n).1), .no] := by
        simp [ex, ev, args, callS, evC, popS, q29, e29, putBack, putS, SR.of]
      have e2 : ex P32 CC (.ite (.call 30 [(.var 0), (.var 1)]) [.ret (.cmp .Is (.var 2) .non)] []) [.val (curveD c), .val (trafD t), .val (trafD (st c t n).1), .no] = .nx [.val (curveD c), .val (trafD t), .val (trafD (st c t n).1), .no] := by
        simp [ex, exs, ev, evT, opd, args, callS, evC, popS, q30, e30, putBack, truthD, vB, Sl.d, SR.of]
      rw [b32, x_exs1, e1, s_nx, x_exs1, e2, s_nx]
    rcases law_shaped_ok hc hn he with e31 | ⟨hn2, e31⟩
    · refine ⟨.val (trafD (st c t n).1), .val .non, ?_⟩
      have e3 : ex P32 CC (.set 3 (.call 31 [(.var 0), (.var 1), (.int 400)])) [.val (curveD c), .val (trafD t), .val (trafD (st c t n).1), .no] = .nx [.val (curveD c), .val (trafD t), .val (trafD (st c t n).1), .val .non] := by
        simp [ex, ev, args, callS, evC, popS, q31, e31, putBack, putBack_ex, putS, vI, SR.of]
      have cut : cutD ((st c t n).1.map D.int) none (some 30) = ((st c t n).1.take 30).map D.int := by
        rw [show (30 : Int) = ((30 : Nat) : Int) by rfl, cut_to, List.map_take]
      have e11 := law_too_much_ok hc.cv0 (t := (st c t n).1.take 30) (by rw [List.length_take]; omega)
      rw [st_fits hc.ne] at e11
      have e0 : eqD (.lst []) (.lst []) = some true := by have := eq_prs_nil []; simpa using this
      have i1 := intsOf_ints (st c t n).1
      have i2 := intsOf_ints t
      have eq1 : ev P32 CC q1_32 [.val (curveD c), .val (trafD t), .val (trafD (st c t n).1), .val .non] = .ok (vB true) [.val (curveD c), .val (trafD t), .val (trafD (st c t n).1), .val .non] := by
        unfold q1_32
        simp only [trafD] at e11 cut i1 i2 ⊢
        simp [ev, evD, opds, opd, args, callS, evC, popS, biS, isiT, slP, partO, isNonE, partD, slS, cut, q11, -List.map_take, e11, putBack, putBack_ex, cmpS, e0, i1, i2, hsum, eqD_int, vI, vB, Sl.d, sizeLine_eq]
      rw [step1, x_exs1, e3, s_nx, x_exs1, x_ite]
      have et : evT P32 CC (.cmp .Is (.var 3) .non) [.val (curveD c), .val (trafD t), .val (trafD (st c t n).1), .val .non] = .ok true [.val (curveD c), .val (trafD t), .val (trafD (st c t n).1), .val .non] := by
        simp [evT, ev, opd, cmpS, isNonD, truthD, vB, Sl.d]
      rw [et]
      simp only [SR.of, if_true]
      rw [x_exs1, x_ret, eq1]
      rfl
    · refine ⟨.val (trafD (st c t n).1), .val (trafD (st c t n).1), ?_⟩
      have e3 : ex P32 CC (.set 3 (.call 31 [(.var 0), (.var 1), (.int 400)])) [.val (curveD c), .val (trafD t), .val (trafD (st c t n).1), .no] = .nx [.val (curveD c), .val (trafD t), .val (trafD (st c t n).1), .val (trafD (st c t n).1)] := by
        simp [ex, ev, args, callS, evC, popS, q31, e31, putBack, putBack_ex, putS, vI, SR.of]
      have cut : cutD ((st c t n).1.map D.int) none (some 400) = ((st c t n).1.take 400).map D.int := by
        rw [show (400 : Int) = ((400 : Nat) : Int) by rfl, cut_to, List.map_take]
      have tr4 : Traf ((st c t n).1.take 400) := ⟨by rw [List.length_take]; omega, fun x hx => small x (List.mem_of_mem_take hx)⟩
      have f4 := fits_ok hc tr4
      rw [st_fits hc.ne] at f4
      obtain ⟨x, hx, sx⟩ := repr_traf (f := (st c t n).1) (fun x hx => by have := small x hx; omega) (by rw [st_len]; omega)
      have exx : eqD (.str x) (.str x) = some true := by rw [eqD_str sx sx]; simp
      have eff := eq_fits_fits
      have et : evT P32 CC (.cmp .Is (.var 3) .non) [.val (curveD c), .val (trafD t), .val (trafD (st c t n).1), .val (trafD (st c t n).1)] = .ok false [.val (curveD c), .val (trafD t), .val (trafD (st c t n).1), .val (trafD (st c t n).1)] := by
        simp [evT, ev, opd, trafD, cmpS, isNonD, truthD, vB, Sl.d]
      have eq2 : evT P32 CC q2_32 [.val (curveD c), .val (trafD t), .val (trafD (st c t n).1), .val (trafD (st c t n).1)] = .ok false [.val (curveD c), .val (trafD t), .val (trafD (st c t n).1), .val (trafD (st c t n).1)] := by
        unfold q2_32
        simp only [trafD, fitD, fitsD] at f4 cut hx eff ⊢
        simp [evT, ev, evD, opds, opd, args, callS, evC, popS, biS, slP, partO, isNonE, partD, slS, cut, q16, -List.map_take, f4, putBack, putBack_ex, hx, exx, cmpS, eff, truthD, vI, vB, Sl.d, sizeLine_eq]
      have eq3 : ev P32 CC q3_32 [.val (curveD c), .val (trafD t), .val (trafD (st c t n).1), .val (trafD (st c t n).1)] = .ok (vB true) [.val (curveD c), .val (trafD t), .val (trafD (st c t n).1), .val (trafD (st c t n).1)] := by
        unfold q3_32
        cases hh : hits c t with
        | nil =>
          rw [hh] at f16
          have es := end_same ht hc.small he hh
          have et := eq_traf t t
          rw [es]
          simp only [fitD, fitsD] at f16 eff
          simp [ev, evD, opds, opd, args, callS, evC, popS, q16, f16, putBack, cmpS, eff, et, vB, Sl.d, sizeLine_eq]
        | cons p r =>
          rw [hh] at f16
          have ef := eq_more_fits p
          simp only [fitsD] at ef
          simp [ev, evD, opds, opd, args, callS, evC, popS, q16, f16, fitD, putBack, cmpS, ef, vB, Sl.d, sizeLine_eq]
      rw [step1, x_exs1, e3, s_nx, x_exs1, x_ite, et]
      simp only [SR.of, Bool.false_eq_true, if_false, x_exs0, s_nx]
      rw [x_exs1, x_ite, eq2]
      simp only [SR.of, Bool.false_eq_true, if_false, x_exs0, s_nx]
      rw [x_exs1, x_ret, eq3]
      rfl
theorem shaped_all_ok {c : Cv} {t : List Int} (hc : Curve c) (htr : Traf t) (hb : t.length + t.sum ≤ 1000) : F32 [.val (curveD c), .val (trafD t)] = .ok (vB true) [.val (curveD c), .val (trafD t)] := by
  obtain ⟨s2, s3, e⟩ := shaped_right_ok hc htr hb
  have e' : exs P32 CC B32 ([.val (curveD c), .val (trafD t)] ++ List.replicate (4 - [Sl.val (curveD c), .val (trafD t)].length) Sl.no) = _ := e
  unfold F32 fnS
  rw [e']
  rfl
end Lw
end

section
set_option Elab.async false
set_option linter.all false
set_option maxRecDepth 100000
set_option maxHeartbeats 1000000
/-! K28: the least burst -/
namespace Lw
open PySem L2
def win (t : List Int) (r : Int) (s k : Nat) : Int := sumZ t s k - r * (k : Int)
def kad (t : List Int) (r : Int) : Nat → Int × Int
  | 0 => (0, 0)
  | i + 1 => (max (kad t r i).1 (max 0 (kad t r i).2 + at0 t i - r), max 0 (kad t r i).2 + at0 t i - r)
theorem at0_get {t : List Int} {i : Nat} (h : i < t.length) : at0 t i = t[i] := by
  unfold at0; rw [List.getD_eq_getElem?_getD, List.getElem?_eq_getElem h]; rfl
theorem win_succ {t : List Int} {r : Int} {s k : Nat} (h : s + k < t.length) : win t r s (k + 1) = win t r s k + at0 t (s + k) - r := by
  unfold win
  rw [sumZ_succ h, at0_get h, show ((k + 1 : Nat) : Int) = (k : Int) + 1 by omega, Int.mul_add, Int.mul_one]
  omega
theorem win_zero (t : List Int) (r : Int) (s : Nat) : win t r s 0 = 0 := by simp [win, sumZ]
structure KadOk (t : List Int) (r : Int) (i : Nat) (x : Int × Int) : Prop where
  up : ∀ s k : Nat, s + (k + 1) = i → win t r s (k + 1) ≤ x.2
  at1 : (i = 0 ∧ x.2 = 0) ∨ ∃ s k : Nat, s + (k + 1) = i ∧ x.2 = win t r s (k + 1)
  b0 : 0 ≤ x.1
  bup : ∀ s k : Nat, s + (k + 1) ≤ i → win t r s (k + 1) ≤ x.1
  bat : x.1 = 0 ∨ ∃ s k : Nat, s + (k + 1) ≤ i ∧ x.1 = win t r s (k + 1)
theorem kad_ok (t : List Int) (r : Int) : ∀ i, i ≤ t.length → KadOk t r i (kad t r i)
  | 0, _ => ⟨fun s k h => by omega, .inl ⟨rfl, rfl⟩, by simp [kad], fun s k h => by omega, .inl rfl⟩
  | i + 1, hi => by
    have ih := kad_ok t r i (by omega)
    have e : kad t r (i + 1) = (max (kad t r i).1 (max 0 (kad t r i).2 + at0 t i - r), max 0 (kad t r i).2 + at0 t i - r) := rfl
    have up : ∀ s k : Nat, s + (k + 1) = i + 1 → win t r s (k + 1) ≤ max 0 (kad t r i).2 + at0 t i - r := by
      intro s k h
      rw [win_succ (by omega), show s + k = i by omega]
      cases k with
      | zero => rw [win_zero]; omega
      | succ k =>
        have := ih.up s k (by omega)
        omega
    have at1 : ∃ s k : Nat, s + (k + 1) = i + 1 ∧ max 0 (kad t r i).2 + at0 t i - r = win t r s (k + 1) := by
      rcases (by omega : (kad t r i).2 ≤ 0 ∨ 0 < (kad t r i).2) with q | q
      · refine ⟨i, 0, by omega, ?_⟩
        rw [win_succ (by omega), win_zero, Nat.add_zero]
        omega
      · rcases ih.at1 with ⟨-, z⟩ | ⟨s, k, h, z⟩
        · omega
        · refine ⟨s, k + 1, by omega, ?_⟩
          rw [win_succ (k := k + 1) (by omega), show s + (k + 1) = i by omega, ← z]
          omega
    rw [e]
    refine ⟨up, .inr at1, ?_, ?_, ?_⟩
    · have := ih.b0
      simp only; omega
    · intro s k h
      simp only
      rcases Nat.lt_or_ge i (s + (k + 1)) with q | q
      · have := up s k (by omega); omega
      · have := ih.bup s k q; omega
    · simp only
      rcases Int.le_total (max 0 (kad t r i).2 + at0 t i - r) (kad t r i).1 with q | q
      · rw [Int.max_eq_left q]
        rcases ih.bat with z | ⟨s, k, h, z⟩
        · exact .inl z
        · exact .inr ⟨s, k, by omega, z⟩
      · rw [Int.max_eq_right q]
        obtain ⟨s, k, h, z⟩ := at1
        exact .inr ⟨s, k, by omega, z⟩
/-- all windows, as the law goes through them -/
def burTo (t : List Int) (r : Int) (i : Nat) : List Int := 0 :: (List.range i).flatMap fun s => (List.range (t.length - s)).map fun k => win t r s (k + 1)
theorem bur_max (t : List Int) (r : Int) : maxL (burTo t r t.length) = (kad t r t.length).1 := by
  have ok := kad_ok t r t.length (Nat.le_refl _)
  obtain ⟨m1, m2⟩ := maxL_mem 0 ((List.range t.length).flatMap fun s => (List.range (t.length - s)).map fun k => win t r s (k + 1))
  apply Int.le_antisymm
  · rcases List.mem_cons.mp m1 with e | e
    · show maxL (0 :: _) ≤ _
      rw [e]; exact ok.b0
    · obtain ⟨s, hs, e⟩ := List.mem_flatMap.mp e
      obtain ⟨k, hk, e⟩ := List.mem_map.mp e
      have hs := List.mem_range.mp hs
      have hk := List.mem_range.mp hk
      show maxL (0 :: _) ≤ _
      rw [← e]
      exact ok.bup s k (by omega)
  · rcases ok.bat with e | ⟨s, k, h, e⟩
    · rw [e]; exact m2 0 List.mem_cons_self
    · rw [e]
      exact m2 _ (List.mem_cons_of_mem _ (List.mem_flatMap.mpr ⟨s, List.mem_range.mpr (by omega), List.mem_map.mpr ⟨k, List.mem_range.mpr (by omega), rfl⟩⟩))
def body33 : List S := [.set 3 (.bop .Sub (.bop .Add (.bi .max [(.int 0), (.var 3)]) (.var 4)) (.var 1)), .set 2 (.bi .max [(.var 2), (.var 3)])]
theorem b33 : B33 = [.ex (.call 13 [(.var 0)]), .ite (.notV (.call 5 [(.var 1), (.int 0), (.cst 1)])) [.nev] [], .setT (.tup [(.nm 2), (.nm 3)]) (.tup [(.int 0), (.int 0)]), .for_ (.nm 4) (.fz 0) body33, .ret (.mv 2)] := rfl
theorem least_ok {t : List Int} {r : Int} (ht : Traf t) (hr : 0 ≤ r ∧ r ≤ 100) : F33 [.val (trafD t), .val (.int r)] = .ok (vI (kad t r t.length).1) [.val (trafD t), .val (.int r)] := by
  have q13 : P33 13 = F13 := rfl
  have q5 : P33 5 = F5 := rfl
  have e5 : F5 [.val (.int r), .val (.int 0), .val (.int 100)] = .ok (.val (.bl true)) [.val (.int r), .val (.int 0), .val (.int 100)] := by
    have := is_int_gen P5 r 0 100
    rw [decide_eq_true hr.1, decide_eq_true hr.2] at this; exact this
  have e1 : ex P33 CC (.ex (.call 13 [(.var 0)])) [.val (trafD t), .val (.int r), .no, .no, .no] = .nx [.val (trafD t), .val (.int r), .no, .no, .no] := by
    simp [ex, ev, args, callS, evC, popS, q13, look_traffic_ok ht, putBack, SR.of]
  have e2 : ex P33 CC (.ite (.notV (.call 5 [(.var 1), (.int 0), (.cst 1)])) [.nev] []) [.val (trafD t), .val (.int r), .no, .no, .no] = .nx [.val (trafD t), .val (.int r), .no, .no, .no] := by
    simp [ex, exs, ev, evT, opd, args, callS, evC, popS, q5, e5, CC, putBack, putBack_ex, truthD, vI, Sl.d, SR.of]
  have e3 : ex P33 CC (.setT (.tup [(.nm 2), (.nm 3)]) (.tup [(.int 0), (.int 0)])) [.val (trafD t), .val (.int r), .no, .no, .no] = .nx [.val (trafD t), .val (.int r), .val (.int 0), .val (.int 0), .no] := by
    simp [ex, ev, evD, bindT, bindTs, vI, Sl.d, sizeLine_eq, SR.of]
  have e4 : evI P33 CC (.fz 0) [.val (trafD t), .val (.int r), .val (.int 0), .val (.int 0), .no] = .ok (t.map .int) [.val (trafD t), .val (.int r), .val (.int 0), .val (.int 0), .no] := by
    simp [evI, ev, fzS, itemsD, trafD, Sl.d]
  obtain ⟨s4, el⟩ := forI_ind (bt := bindT (.nm 4)) (b := exs P33 CC body33) (fun i E => ∃ s4, E = [.val (trafD t), .val (.int r), .val (.int (kad t r i).1), .val (.int (kad t r i).2), s4])
    (fun R => ∃ s4, R = .nx [.val (trafD t), .val (.int r), .val (.int (kad t r t.length).1), .val (.int (kad t r t.length).2), s4]) (t.map .int)
    (fun i E d hd ⟨s4, eE⟩ => by
      subst eE
      rw [List.getElem?_map] at hd
      cases hx : t[i]? with
      | none => rw [hx] at hd; cases hd
      | some x =>
        rw [hx] at hd
        cases hd
        have ha : at0 t i = x := by unfold at0; rw [List.getD_eq_getElem?_getD, hx]; rfl
        refine ⟨[.val (trafD t), .val (.int r), .val (.int (kad t r i).1), .val (.int (kad t r i).2), .val (.int x)], by simp [bindT], ?_⟩
        have k1 : (if 0 < (kad t r i).2 then (kad t r i).2 else 0) + x - r = (kad t r (i + 1)).2 := by
          show _ = max 0 (kad t r i).2 + at0 t i - r
          rw [ha]; split <;> omega
        have k2 : (if (kad t r i).1 < (kad t r (i + 1)).2 then (kad t r (i + 1)).2 else (kad t r i).1) = (kad t r (i + 1)).1 := by
          show _ = max (kad t r i).1 (kad t r (i + 1)).2
          split <;> omega
        have eb : exs P33 CC body33 [.val (trafD t), .val (.int r), .val (.int (kad t r i).1), .val (.int (kad t r i).2), .val (.int x)] = .nx [.val (trafD t), .val (.int r), .val (.int (kad t r (i + 1)).1), .val (.int (kad t r (i + 1)).2), .val (.int x)] := by
          have b1 : ex P33 CC (.set 3 (.bop .Sub (.bop .Add (.bi .max [(.int 0), (.var 3)]) (.var 4)) (.var 1))) [.val (trafD t), .val (.int r), .val (.int (kad t r i).1), .val (.int (kad t r i).2), .val (.int x)] = .nx [.val (trafD t), .val (.int r), .val (.int (kad t r i).1), .val (.int (kad t r (i + 1)).2), .val (.int x)] := by
            simp [ex, ev, opds, opd, biS, bopS, k1, putS, vI, Sl.d, SR.of]
          have b2 : ex P33 CC (.set 2 (.bi .max [(.var 2), (.var 3)])) [.val (trafD t), .val (.int r), .val (.int (kad t r i).1), .val (.int (kad t r (i + 1)).2), .val (.int x)] = .nx [.val (trafD t), .val (.int r), .val (.int (kad t r (i + 1)).1), .val (.int (kad t r (i + 1)).2), .val (.int x)] := by
            simp [ex, ev, opds, opd, biS, k2, putS, vI, Sl.d, SR.of]
          unfold body33
          rw [x_exs1, b1, s_nx, x_exs1, b2, s_nx, x_exs0]
        rw [eb]
        exact ⟨_, rfl⟩)
    (fun E ⟨s4, eE⟩ => by
      subst eE
      rw [List.length_map]
      exact ⟨_, rfl⟩)
    [.val (trafD t), .val (.int r), .val (.int 0), .val (.int 0), .no] ⟨.no, rfl⟩
  have eB : exs P33 CC B33 ([.val (trafD t), .val (.int r)] ++ List.replicate (5 - [Sl.val (trafD t), .val (.int r)].length) Sl.no) = .rt (vI (kad t r t.length).1) [.val (trafD t), .val (.int r), .val (.int (kad t r t.length).1), .val (.int (kad t r t.length).2), s4] := by
    show exs P33 CC B33 [.val (trafD t), .val (.int r), .no, .no, .no] = _
    rw [b33, x_exs1, e1, s_nx, x_exs1, e2, s_nx, x_exs1, e3, s_nx, x_exs1, x_for, e4]
    simp only [SR.of, el, s_nx]
    simp [exs, ex, ev, popS, vI, SR.of, SR.then]
  unfold F33 fnS
  rw [eB]
  rfl
end Lw
end

section
set_option Elab.async false
set_option linter.all false
set_option maxRecDepth 100000
set_option maxHeartbeats 1000000
/-! K29: the least pairs -/
namespace Lw
open PySem L2 PyProof.Rows
def leP (p q : Int × Int) : Bool := !ltP q p
theorem leD_pr (p q : Int × Int) : leD (prD p, prP p) (prD q, prP q) = leP p q := by
  have e : ∀ a b : Int, itemLt (.inl a) (.inl b) = decide (a < b) := fun a b => rfl
  unfold leD PySem.W.dataLe PySem.W.sortLe leP ltP
  simp only [prP, PySem.W.keyToks, PySem.W.keyToksAll, cond_false, List.cons_append, List.nil_append]
  congr 1
  show PyProof.Rows.lexLt _ _ _ = _
  simp only [PyProof.Rows.lexLt]
  show (itemLt _ _ || _) = _
  by_cases h1 : q.1 < p.1
  · simp [e, h1]
  · by_cases h2 : p.1 < q.1
    · simp [e, h1, h2]; omega
    · have : q.1 = p.1 := by omega
      by_cases h3 : q.2 < p.2 <;> simp [e, h1, h2, h3, this]
def sortC (c : Cv) : Cv := c.mergeSort leP
theorem sort_prs {c : Cv} : sortD (c.map prD) = some ((sortC c).map prD) := by
  have e1 := pys_map pr_py c
  have e2 : sortableB (c.map prP) = true := by
    unfold sortableB
    rw [Bool.or_eq_true]; left
    rw [List.all_eq_true]
    intro p hp
    obtain ⟨x, hx, rfl⟩ := List.mem_map.mp hp
    rfl
  have e3 : alikeB (c.map prP) = true := by
    unfold alikeB
    rw [List.all_eq_true]
    intro p hp
    rw [List.all_eq_true]
    intro q hq
    obtain ⟨x, hx, rfl⟩ := List.mem_map.mp hp
    obtain ⟨y, hy, rfl⟩ := List.mem_map.mp hq
    simp [prP, PySem.W.alike, PySem.W.alikeAll]
  have e4 : (c.map prP).all (fun p => decide (p.depth ≤ 60)) = true := by
    rw [List.all_eq_true]
    intro p hp
    obtain ⟨x, hx, rfl⟩ := List.mem_map.mp hp
    exact decide_eq_true (prP_lay x).2
  unfold sortD
  rw [e1]
  simp only [e2, e3, e4, Bool.and_self, if_true]
  congr 1
  rw [List.zip_map', ← List.map_mergeSort (r := leP) (fun a _ b _ => (leD_pr a b).symm), List.map_map]
  rfl
theorem leP_trans (a b c : Int × Int) (h1 : leP a b = true) (h2 : leP b c = true) : leP a c = true := by
  unfold leP at *
  rw [Bool.not_eq_true'] at *
  have k : ∀ x y : Int × Int, ltP x y = false ↔ ¬ (x.1 < y.1 ∨ (x.1 = y.1 ∧ x.2 < y.2)) := fun x y => by rw [← ltP_iff]; simp
  rw [k] at *
  omega
theorem leP_total (a b : Int × Int) : (leP a b || leP b a) = true := by
  unfold leP
  cases h1 : ltP b a with
  | false => rfl
  | true =>
    cases h2 : ltP a b with
    | false => rfl
    | true => rw [ltP_iff] at *; omega
theorem leP_iff {a b : Int × Int} : leP a b = true ↔ a.1 < b.1 ∨ (a.1 = b.1 ∧ a.2 ≤ b.2) := by
  unfold leP
  rw [Bool.not_eq_true', ← Bool.not_eq_true, ltP_iff]
  omega
theorem sortC_pw (c : Cv) : (sortC c).Pairwise fun a b => leP a b = true := List.pairwise_mergeSort leP_trans leP_total c
theorem sortC_mem {c : Cv} {p : Int × Int} : p ∈ sortC c ↔ p ∈ c := (List.mergeSort_perm c leP).mem_iff
theorem sortC_len (c : Cv) : (sortC c).length = c.length := (List.mergeSort_perm c leP).length_eq
/-- least: none other is as small -/
def Least (c : Cv) (p : Int × Int) : Prop := p ∈ c ∧ ∀ q ∈ c, q ≠ p → ¬ (q.1 ≤ p.1 ∧ q.2 ≤ p.2)
def kp (k : Cv) (p : Int × Int) : Cv := match k.getLast? with
  | none => [p]
  | some q => if p.2 < q.2 ∧ q.1 < p.1 then k ++ [p] else k
def keepTo (s : Cv) (i : Nat) : Cv := (s.take i).foldl kp []
theorem keep_succ {s : Cv} {i : Nat} {p : Int × Int} (h : s[i]? = some p) : keepTo s (i + 1) = kp (keepTo s i) p := by
  unfold keepTo
  rw [List.take_succ, h, List.foldl_append]; rfl
structure KeepOk (c s : Cv) (i : Nat) (k : Cv) : Prop where
  down : Down k
  sub : ∀ p ∈ k, Least c p ∧ p ∈ s.take i
  dom : ∀ x ∈ s.take i, ∃ p ∈ k, p.1 ≤ x.1 ∧ p.2 ≤ x.2
theorem down_last {k : Cv} (h : Down k) {q : Int × Int} (hq : k.getLast? = some q) : ∀ p ∈ k, p.1 ≤ q.1 ∧ q.2 ≤ p.2 := by
  intro p hp
  obtain ⟨l, rfl⟩ := List.getLast?_eq_some_iff.mp hq
  rcases List.mem_append.mp hp with hp | hp
  · have := (List.pairwise_append.mp h).2.2 p hp q (by simp)
    omega
  · simp only [List.mem_singleton] at hp
    subst hp; omega
theorem keep_ok {c s : Cv} (hs : s.Pairwise fun a b => leP a b = true) (hm : ∀ p, p ∈ s ↔ p ∈ c) : ∀ i, i ≤ s.length → KeepOk c s i (keepTo s i)
  | 0, _ => ⟨by simp [keepTo, Down], by simp [keepTo], by simp⟩
  | i + 1, hi => by
    have ih := keep_ok hs hm i (by omega)
    obtain ⟨x, hx⟩ : ∃ x, s[i]? = some x := ⟨s[i], List.getElem?_eq_getElem (by omega)⟩
    have etk : s.take (i + 1) = s.take i ++ [x] := by rw [List.take_succ, hx]; rfl
    have xs : x ∈ s := List.mem_of_getElem? hx
    have before : ∀ y ∈ s.take i, leP y x = true := by
      have : (s.take (i + 1)).Pairwise fun a b => leP a b = true := hs.sublist (List.take_sublist _ _)
      rw [etk] at this
      exact fun y hy => (List.pairwise_append.mp this).2.2 y hy x (by simp)
    have after : ∀ q ∈ s, leP q x = true → q ≠ x → q ∈ s.take i := by
      intro q hq hl hne
      have e : s = s.take (i + 1) ++ s.drop (i + 1) := (List.take_append_drop _ _).symm
      rw [e] at hq
      rcases List.mem_append.mp hq with hq | hq
      · rw [etk] at hq
        rcases List.mem_append.mp hq with hq | hq
        · exact hq
        · simp only [List.mem_singleton] at hq
          exact absurd hq hne
      · exfalso
        rw [e] at hs
        have := (List.pairwise_append.mp hs).2.2 x (by rw [etk]; simp) q hq
        rw [leP_iff] at this hl
        apply hne
        obtain ⟨q1, q2⟩ := q
        obtain ⟨x1, x2⟩ := x
        simp only at this hl
        simp only [Prod.mk.injEq]; omega
    rw [keep_succ hx]
    unfold kp
    cases hk : (keepTo s i).getLast? with
    | none =>
      have k0 : keepTo s i = [] := by simpa using hk
      have t0 : s.take i = [] := by
        cases ht : s.take i with
        | nil => rfl
        | cons y r =>
          obtain ⟨p, hp, -⟩ := ih.dom y (by rw [ht]; exact List.mem_cons_self)
          rw [k0] at hp; cases hp
      refine ⟨by simp [Down], ?_, ?_⟩
      · intro p hp
        simp only [List.mem_singleton] at hp
        subst hp
        refine ⟨⟨(hm p).mp xs, fun q hq hne hle => ?_⟩, by rw [etk]; simp⟩
        have := after q ((hm q).mpr hq) (by rw [leP_iff]; omega) hne
        rw [t0] at this; cases this
      · intro y hy
        rw [etk, t0] at hy
        simp only [List.nil_append, List.mem_singleton] at hy
        subst hy
        exact ⟨y, by simp, by omega, by omega⟩
    | some q =>
      have lastq := down_last ih.down hk
      have qk : q ∈ keepTo s i := List.mem_of_getLast? hk
      dsimp only
      by_cases hc : x.2 < q.2 ∧ q.1 < x.1
      · rw [if_pos hc]
        refine ⟨?_, ?_, ?_⟩
        · refine List.pairwise_append.mpr ⟨ih.down, by simp, fun p hp y hy => ?_⟩
          simp only [List.mem_singleton] at hy
          subst hy
          have := lastq p hp
          omega
        · intro p hp
          rcases List.mem_append.mp hp with hp | hp
          · exact ⟨(ih.sub p hp).1, by rw [etk]; exact List.mem_append_left _ (ih.sub p hp).2⟩
          · simp only [List.mem_singleton] at hp
            subst hp
            refine ⟨⟨(hm p).mp xs, fun y hy hne hle => ?_⟩, by rw [etk]; simp⟩
            have h1 := after y ((hm y).mpr hy) (by rw [leP_iff]; omega) hne
            obtain ⟨z, hz, hz1⟩ := ih.dom y h1
            have := lastq z hz
            omega
        · intro y hy
          rw [etk] at hy
          rcases List.mem_append.mp hy with hy | hy
          · obtain ⟨p, hp, h⟩ := ih.dom y hy
            exact ⟨p, List.mem_append_left _ hp, h⟩
          · simp only [List.mem_singleton] at hy
            subst hy
            exact ⟨y, by simp, by omega, by omega⟩
      · rw [if_neg hc]
        refine ⟨ih.down, fun p hp => ⟨(ih.sub p hp).1, by rw [etk]; exact List.mem_append_left _ (ih.sub p hp).2⟩, ?_⟩
        intro y hy
        rw [etk] at hy
        rcases List.mem_append.mp hy with hy | hy
        · exact ih.dom y hy
        · simp only [List.mem_singleton] at hy
          subst hy
          have hb := before q (ih.sub q qk).2
          rw [leP_iff] at hb
          exact ⟨q, qk, by omega, by omega⟩
def leastOf (c : Cv) : Cv := keepTo (sortC c) (sortC c).length
theorem least_all (c : Cv) : Down (leastOf c) ∧ (∀ p, p ∈ leastOf c ↔ Least c p) ∧ ∀ x ∈ c, ∃ p ∈ leastOf c, p.1 ≤ x.1 ∧ p.2 ≤ x.2 := by
  have ok := keep_ok (c := c) (sortC_pw c) (fun p => sortC_mem) _ (Nat.le_refl _)
  have tl : (sortC c).take (sortC c).length = sortC c := List.take_length
  refine ⟨ok.down, fun p => ⟨fun h => (ok.sub p h).1, fun h => ?_⟩, fun x hx => ok.dom x (by rw [tl]; exact sortC_mem.mpr hx)⟩
  obtain ⟨q, hq, h1, h2⟩ := ok.dom p (by rw [tl]; exact sortC_mem.mpr h.1)
  by_cases e : q = p
  · rw [← e]; exact hq
  · exact absurd ⟨h1, h2⟩ (h.2 q (ok.sub q hq).1.1 e)
theorem pw_eq : ∀ {a b : Cv}, a.Pairwise LtP → b.Pairwise LtP → (∀ p, p ∈ a ↔ p ∈ b) → a = b
  | [], [], _, _, _ => rfl
  | [], y :: b, _, _, h => absurd ((h y).mpr List.mem_cons_self) (by simp)
  | x :: a, [], _, _, h => absurd ((h x).mp List.mem_cons_self) (by simp)
  | x :: a, y :: b, ha, hb, h => by
    have ha' := List.pairwise_cons.mp ha
    have hb' := List.pairwise_cons.mp hb
    have xy : x = y := by
      rcases List.mem_cons.mp ((h x).mp List.mem_cons_self) with e | e
      · exact e
      · rcases List.mem_cons.mp ((h y).mpr List.mem_cons_self) with e2 | e2
        · exact e2.symm
        · exact absurd (ltP_trans (hb'.1 x e) (ha'.1 y e2)) ltP_irr
    subst xy
    congr 1
    refine pw_eq ha'.2 hb'.2 fun p => ⟨fun hp => ?_, fun hp => ?_⟩
    · rcases List.mem_cons.mp ((h p).mp (List.mem_cons_of_mem _ hp)) with e | e
      · subst e; exact absurd (ha'.1 _ hp) ltP_irr
      · exact e
    · rcases List.mem_cons.mp ((h p).mpr (List.mem_cons_of_mem _ hp)) with e | e
      · subst e; exact absurd (hb'.1 _ hp) ltP_irr
      · exact e
def smaller (c : Cv) (p : Int × Int) : Cv := c.filter fun q => decide (q ≠ p) && (decide (q.1 ≤ p.1) && decide (q.2 ≤ p.2))
theorem least_filter (c : Cv) : (sortP c).filter (fun p => (smaller c p).isEmpty) = leastOf c := by
  obtain ⟨h1, h2, -⟩ := least_all c
  refine pw_eq (sorted_sortP.sublist List.filter_sublist) (h1.imp fun h => by rw [LtP, ltP_iff]; omega) fun p => ?_
  rw [h2, List.mem_filter, mem_sortP]
  unfold Least smaller
  refine and_congr_right fun _ => ?_
  rw [List.isEmpty_iff, List.filter_eq_nil_iff]
  simp
theorem letZ_least {c : Cv} (hc : c ≠ []) {m : Int} (hm : 0 < m) : letZ (leastOf c) m = letZ c m := by
  obtain ⟨h1, h2, h3⟩ := least_all c
  have ne : leastOf c ≠ [] := by
    cases c with
    | nil => exact absurd rfl hc
    | cons x r =>
      obtain ⟨p, hp, -⟩ := h3 x List.mem_cons_self
      intro e; rw [e] at hp; cases hp
  apply Int.le_antisymm
  · refine le_letZ hc hm fun x hx => ?_
    obtain ⟨p, hp, q1, q2⟩ := h3 x hx
    have := letZ_le hm hp
    have := Int.mul_le_mul_of_nonneg_right q2 (Int.le_of_lt hm)
    omega
  · exact le_letZ ne hm fun p hp => letZ_le hm ((h2 p).mp hp).1
theorem hits_congr {a b : Cv} (t : List Int) (h : ∀ m : Nat, letZ a (1 + (m : Int)) = letZ b (1 + (m : Int))) : hits a t = hits b t := by
  unfold hits hitsTo rowTo hit
  simp only [h]
theorem hits_least {c : Cv} (hc : c ≠ []) (t : List Int) : hits (leastOf c) t = hits c t := hits_congr t fun m => letZ_least hc (by omega)
end Lw
end

section
set_option Elab.async false
set_option linter.all false
set_option maxRecDepth 100000
set_option maxHeartbeats 1000000
/-! K30: both_let -/
namespace Lw
open PySem L2
theorem atI_last {k : Cv} {q : Int × Int} (h : k.getLast? = some q) : atI (k.map prD) (-1) = some (prD q) := by
  obtain ⟨l, rfl⟩ := List.getLast?_eq_some_iff.mp h
  have : atI ((l ++ [q]).map prD) (-1) = ((l ++ [q]).map prD)[l.length]? := by
    unfold atI ixN
    simp
    rw [if_pos (by omega)]
    simp only [Option.bind_some]
    rw [show (-1 + ((l.length : Int) + 1)).toNat = l.length by omega]
    rw [List.getElem?_append_right (by simp)]
    simp
  rw [this]; simp
def body8 : List S := [.ite (.orV (.cmp .Eq (.var 1) (.lst [])) (.andV (.cmp .Lt (.idx (.var 2) (.int 1)) (.idx (.idx (.var 1) (.neg (.int 1))) (.int 1))) (.cmp .Gt (.idx (.var 2) (.int 0)) (.idx (.idx (.var 1) (.neg (.int 1))) (.int 0))))) [.app 1 (.fz 2)] []]
theorem b8 : B8 = [.set 1 (.lst []), .for_ (.nm 2) (.bi .sorted [(.var 0)]) body8, .ret (.ty .tuple [(.var 1)])] := rfl
theorem pr_idx (p : Int × Int) : atI [D.int p.1, D.int p.2] 0 = some (.int p.1) ∧ atI [D.int p.1, D.int p.2] 1 = some (.int p.2) := ⟨rfl, rfl⟩
theorem body8_ok {s0 : Sl} {k : Cv} {p : Int × Int} (hk : k.length ≤ 10000) : exs P8 CC body8 [s0, .own (.lst (k.map prD)), .val (prD p)] = .nx [s0, .own (.lst ((kp k p).map prD)), .val (prD p)] := by
  have en := eq_prs_nil k
  have hz : k.length < 16777216 := by omega
  unfold body8 kp
  cases h : k.getLast? with
  | none =>
    have k0 : k = [] := by simpa using h
    subst k0
    simp only [List.map_nil, List.isEmpty_nil] at en
    simp [exs, ex, ev, evT, evD, opd, fzS, cmpS, en, truthD, isOwnL, updS, appD, vB, Sl.d, sizeLine_eq, SR.of, SR.then]
  | some q =>
    have ne : k.isEmpty = false := by
      cases k with
      | nil => cases h
      | cons a r => rfl
    rw [ne] at en
    have al := atI_last h
    have e1 : evT P8 CC (.cmp .Eq (.var 1) (.lst [])) [s0, .own (.lst (k.map prD)), .val (prD p)] = .ok false [s0, .own (.lst (k.map prD)), .val (prD p)] := by
      simp [evT, ev, evD, opd, cmpS, en, truthD, vB, Sl.d]
    have e2 : evT P8 CC (.cmp .Lt (.idx (.var 2) (.int 1)) (.idx (.idx (.var 1) (.neg (.int 1))) (.int 1))) [s0, .own (.lst (k.map prD)), .val (prD p)] = .ok (decide (p.2 < q.2)) [s0, .own (.lst (k.map prD)), .val (prD p)] := by
      simp only [prD] at al ⊢
      simp [evT, ev, opd, ixS, negS, al, (pr_idx p).2, (pr_idx q).2, cmpS, truthD, vI, vB, Sl.d]
    have e3 : evT P8 CC (.cmp .Gt (.idx (.var 2) (.int 0)) (.idx (.idx (.var 1) (.neg (.int 1))) (.int 0))) [s0, .own (.lst (k.map prD)), .val (prD p)] = .ok (decide (q.1 < p.1)) [s0, .own (.lst (k.map prD)), .val (prD p)] := by
      simp only [prD] at al ⊢
      simp [evT, ev, opd, ixS, negS, al, (pr_idx p).1, (pr_idx q).1, cmpS, truthD, vI, vB, Sl.d]
    rw [x_exs1, x_ite, evT_or, s_bind, e1, s_ok]
    simp only [Bool.false_eq_true, if_false]
    rw [evT_and, s_bind, e2, s_ok]
    by_cases h1 : p.2 < q.2
    · simp only [decide_eq_true h1, if_true, e3, SR.of]
      by_cases h2 : q.1 < p.1
      · rw [if_pos (decide_eq_true h2), if_pos ⟨h1, h2⟩]
        simp [exs, ex, ev, fzS, isOwnL, updS, appD, hz, Sl.d, sizeLine_eq, SR.of, SR.then]
      · rw [if_neg (by simpa using h2), if_neg (fun z => h2 z.2)]
        simp [exs, SR.then]
    · simp only [decide_eq_false h1, Bool.false_eq_true, if_false, s_pure, SR.of, h1, false_and]
      simp [exs, SR.then]
theorem keep_len (s : Cv) : ∀ i, i ≤ s.length → (keepTo s i).length ≤ i
  | 0, _ => by simp [keepTo]
  | i + 1, h => by
    have ih := keep_len s i (by omega)
    have hx : s[i]? = some s[i] := List.getElem?_eq_getElem (by omega)
    rw [keep_succ hx]
    unfold kp
    split
    · simp
    · split
      · simp; omega
      · omega
theorem least_len (c : Cv) : (leastOf c).length ≤ c.length := by
  have := keep_len (sortC c) (sortC c).length (Nat.le_refl _)
  rw [sortC_len] at this
  unfold leastOf
  rw [sortC_len]; exact this
theorem told_least_ok {c : Cv} (hc : c.length ≤ 1000) : F8 [.own (.lst (c.map prD))] = .ok (.val (curveD (leastOf c))) [.own (.lst (c.map prD))] := by
  have es := sort_prs (c := c)
  have e1 : ex P8 CC (.set 1 (.lst [])) [.own (.lst (c.map prD)), .no, .no] = .nx [.own (.lst (c.map prD)), .own (.lst []), .no] := by
    simp [ex, ev, evD, putS, SR.of]
  have e2 : evI P8 CC (.bi .sorted [(.var 0)]) [.own (.lst (c.map prD)), .own (.lst []), .no] = .ok ((sortC c).map prD) [.own (.lst (c.map prD)), .own (.lst []), .no] := by
    simp [evI, ev, opds, opd, biS, es, itemsD, Sl.d]
  obtain ⟨s2, el⟩ := forI_ind (bt := bindT (.nm 2)) (b := exs P8 CC body8) (fun i E => ∃ s2, E = [.own (.lst (c.map prD)), .own (.lst ((keepTo (sortC c) i).map prD)), s2])
    (fun R => ∃ s2, R = .nx [.own (.lst (c.map prD)), .own (.lst ((leastOf c).map prD)), s2]) ((sortC c).map prD)
    (fun i E d hd ⟨s2, eE⟩ => by
      subst eE
      rw [List.getElem?_map] at hd
      cases hx : (sortC c)[i]? with
      | none => rw [hx] at hd; cases hd
      | some p =>
        rw [hx] at hd
        cases hd
        have hi : i < (sortC c).length := by
          rcases Nat.lt_or_ge i (sortC c).length with q | q
          · exact q
          · rw [List.getElem?_eq_none q] at hx; cases hx
        have kl := keep_len (sortC c) i (by omega)
        rw [sortC_len] at hi
        refine ⟨[.own (.lst (c.map prD)), .own (.lst ((keepTo (sortC c) i).map prD)), .val (prD p)], by simp [bindT], ?_⟩
        rw [body8_ok (by omega), keep_succ hx]
        exact ⟨_, rfl⟩)
    (fun E ⟨s2, eE⟩ => by
      subst eE
      rw [List.length_map]
      exact ⟨_, rfl⟩)
    [.own (.lst (c.map prD)), .own (.lst []), .no] ⟨.no, rfl⟩
  have eB : exs P8 CC B8 ([.own (.lst (c.map prD))] ++ List.replicate (3 - [Sl.own (.lst (c.map prD))].length) Sl.no) = .rt (.val (curveD (leastOf c))) [.own (.lst (c.map prD)), .own (.lst ((leastOf c).map prD)), s2] := by
    show exs P8 CC B8 [.own (.lst (c.map prD)), .no, .no] = _
    rw [b8, x_exs1, e1, s_nx, x_exs1, x_for, e2]
    simp only [SR.of, el, s_nx]
    simp [exs, ex, ev, opds, opd, tyS, curveD, Sl.d, SR.of, SR.then]
  unfold F8 fnS
  rw [eB]
  rfl
theorem both_ok {a b : Cv} (ha : Curve a) (hb : Curve b) (hl : a.length + b.length ≤ 8) : F9 [.val (curveD a), .val (curveD b)] = .ok (.val (curveD (leastOf (a ++ b)))) [.val (curveD a), .val (curveD b)] := by
  have q7 : P9 7 = F7 := rfl
  have q8 : P9 8 = F8 := rfl
  have f8 := told_least_ok (c := a ++ b) (by simp; omega)
  have len := least_len (a ++ b)
  rw [List.length_append] at len
  have hz : a.length + b.length ≤ 16777216 := by omega
  have ng : ¬ ((8 : Int) < ((leastOf (a ++ b)).length : Int)) := by omega
  rw [List.map_append] at f8
  unfold F9 B9
  simp only [curveD] at *
  have l1 := look_curve_ok ha
  have l2 := look_curve_ok hb
  simp only [curveD] at l1 l2
  simp [fnS, exs, ex, ev, evT, evD, opds, opd, args, callS, evC, popS, fzS, q7, q8, l1, l2, f8, biS, lenD, hz, ng, cmpS, truthD, CC, putBack, putS, vI, vB, Sl.d, sizeLine_eq, wipeE, SR.of, SR.then]
theorem both_curve {a b : Cv} (ha : Curve a) (hb : Curve b) (hl : a.length + b.length ≤ 8) : Curve (leastOf (a ++ b)) := by
  obtain ⟨h1, h2, h3⟩ := least_all (a ++ b)
  refine ⟨?_, ?_, ?_, h1⟩
  · intro e
    have ne := ha.ne
    cases a with
    | nil => exact ne rfl
    | cons x r =>
      obtain ⟨p, hp, -⟩ := h3 x (by simp)
      rw [e] at hp; cases hp
  · have := least_len (a ++ b)
    rw [List.length_append] at this
    omega
  · intro p hp
    rcases List.mem_append.mp ((h2 p).mp hp).1 with h | h
    · exact ha.small p h
    · exact hb.small p h
end Lw
end

section
set_option Elab.async false
set_option linter.all false
set_option maxRecDepth 100000
set_option maxHeartbeats 1000000
/-! K31: the bursts of all ticks -/
namespace Lw
open PySem L2
def lc17 : E := .lc (.bop .Sub (.bi .sum [(.slc (.var 3) (.var 8) (.var 17))]) (.bop .Mult (.var 6) (.bop .Sub (.var 17) (.var 8)))) (.nm 17) (.fz 14) [] [17]
def bodyB : List S := [.set 14 (.lr2 (.bop .Add (.var 8) (.int 1)) (.bop .Add (.bi .len [(.var 3)]) (.int 1))), .ext 7 lc17]
def elt17 : E := (.bop .Sub (.bi .sum [(.slc (.var 3) (.var 8) (.var 17))]) (.bop .Mult (.var 6) (.bop .Sub (.var 17) (.var 8))))
theorem elt17_ok {t : List Int} {r : Int} {s k : Nat} {s0 s1 s2 s4 s5 s7 s9 s10 s11 s12 s13 s14 s15 s16 : Sl} (ht : t.length ≤ 500) (hr : 0 ≤ r ∧ r ≤ 100) (h : s + (k + 1) ≤ t.length) :
    ev P36 CC elt17 [s0, s1, s2, .val (trafD t), s4, s5, .val (.int r), s7, .val (.int s), s9, s10, s11, s12, s13, s14, s15, s16, .val (.int ((s : Int) + 1 + (k : Int)))] = .ok (vI (win t r s (k + 1))) [s0, s1, s2, .val (trafD t), s4, s5, .val (.int r), s7, .val (.int s), s9, s10, s11, s12, s13, s14, s15, s16, .val (.int ((s : Int) + 1 + (k : Int)))] := by
  have cut : cutD (t.map D.int) (some (s : Int)) (some ((s : Int) + 1 + (k : Int))) = ((t.drop s).take (k + 1)).map D.int := by
    have := cut_nat (xs := t.map D.int) (s := s) (m := k + 1) (by simp; omega)
    rw [show (s : Int) + 1 + (k : Int) = (s : Int) + ((k + 1 : Nat) : Int) by omega, this]
    simp
  have ei := intsOf_ints ((t.drop s).take (k + 1))
  have m : mulOk r ((s : Int) + 1 + (k : Int) - (s : Int)) = true := mulOk_of (a := 10) (b := 20) (by decide) (by decide) (by omega) (by omega) (by decide)
  have ew : win t r s (k + 1) = ((t.drop s).take (k + 1)).sum - r * ((s : Int) + 1 + (k : Int) - (s : Int)) := by
    unfold win sumZ
    rw [show (s : Int) + 1 + (k : Int) - (s : Int) = ((k + 1 : Nat) : Int) by omega]
  have e1 : ev P36 CC (.bi .sum [(.slc (.var 3) (.var 8) (.var 17))]) [s0, s1, s2, .val (trafD t), s4, s5, .val (.int r), s7, .val (.int s), s9, s10, s11, s12, s13, s14, s15, s16, .val (.int ((s : Int) + 1 + (k : Int)))] = .ok (vI ((t.drop s).take (k + 1)).sum) [s0, s1, s2, .val (trafD t), s4, s5, .val (.int r), s7, .val (.int s), s9, s10, s11, s12, s13, s14, s15, s16, .val (.int ((s : Int) + 1 + (k : Int)))] := by
    simp [ev, opds, opd, slP, partO, isNonE, partD, slS, trafD, cut, biS, ei, vI, Sl.d, -List.map_take, -List.map_drop]
  have e2 : ev P36 CC (.bop .Mult (.var 6) (.bop .Sub (.var 17) (.var 8))) [s0, s1, s2, .val (trafD t), s4, s5, .val (.int r), s7, .val (.int s), s9, s10, s11, s12, s13, s14, s15, s16, .val (.int ((s : Int) + 1 + (k : Int)))] = .ok (vI (r * ((s : Int) + 1 + (k : Int) - (s : Int)))) [s0, s1, s2, .val (trafD t), s4, s5, .val (.int r), s7, .val (.int s), s9, s10, s11, s12, s13, s14, s15, s16, .val (.int ((s : Int) + 1 + (k : Int)))] := by
    simp [ev, opds, opd, bopS, m, vI, Sl.d]
  unfold elt17
  rw [ev_bop, s_bind, opd_bi, opd_bop, s_evA2, e1, s_ok, s_evA2, e2, s_ok, s_evA0, s_ok, s_ok, s_ok, ew]
  simp [bopS, vI, Sl.d]
theorem lc17_ok {t : List Int} {r : Int} {s : Nat} {s0 s1 s2 s4 s5 s7 s9 s10 s11 s12 s13 s15 s16 : Sl} (ht : t.length ≤ 500) (hr : 0 ≤ r ∧ r ≤ 100) (h : s < t.length) :
    ∃ s14', ev P36 CC lc17 [s0, s1, s2, .val (trafD t), s4, s5, .val (.int r), s7, .val (.int s), s9, s10, s11, s12, s13, .own (.lst (rngD ((s : Int) + 1) ((t.length : Int) + 1))), s15, s16, .no] =
      .ok (.own (.lst (((List.range (t.length - s)).map fun k => win t r s (k + 1)).map .int))) [s0, s1, s2, .val (trafD t), s4, s5, .val (.int r), s7, .val (.int s), s9, s10, s11, s12, s13, s14', s15, s16, .no] := by
  have er : rngD ((s : Int) + 1) ((t.length : Int) + 1) = (List.range (t.length - s)).map fun (k : Nat) => .int ((s : Int) + 1 + (k : Int)) := by
    unfold rngD
    rw [show ((t.length : Int) + 1 - ((s : Int) + 1)).toNat = t.length - s by omega]
  refine ⟨.val (.lst (rngD ((s : Int) + 1) ((t.length : Int) + 1))), ?_⟩
  generalize hE : ev P36 CC elt17 = elt
  have w : ∀ x, wipeE [s0, s1, s2, .val (trafD t), s4, s5, .val (.int r), s7, .val (.int s), s9, s10, s11, s12, s13, .val (.lst (rngD ((s : Int) + 1) ((t.length : Int) + 1))), s15, s16, x] [17] = [s0, s1, s2, .val (trafD t), s4, s5, .val (.int r), s7, .val (.int s), s9, s10, s11, s12, s13, .val (.lst (rngD ((s : Int) + 1) ((t.length : Int) + 1))), s15, s16, .no] := fun x => by simp [wipeE]
  have lc := lcI_mapG (bt := bindT (.nm 17)) (tests := evTs P36 CC []) (elt := elt) (own := [17]) (W := [s0, s1, s2, .val (trafD t), s4, s5, .val (.int r), s7, .val (.int s), s9, s10, s11, s12, s13, .val (.lst (rngD ((s : Int) + 1) ((t.length : Int) + 1))), s15, s16, .no])
    (g := fun (k : Nat) => .int ((s : Int) + 1 + (k : Int))) (f := fun k => .int (win t r s (k + 1))) (w _) (List.range (t.length - s)) [] (by rw [sizeLine_eq]; simp; omega) (fun k hk => by
      have hk := List.mem_range.mp hk
      refine ⟨[s0, s1, s2, .val (trafD t), s4, s5, .val (.int r), s7, .val (.int s), s9, s10, s11, s12, s13, .val (.lst (rngD ((s : Int) + 1) ((t.length : Int) + 1))), s15, s16, .val (.int ((s : Int) + 1 + (k : Int)))], [s0, s1, s2, .val (trafD t), s4, s5, .val (.int r), s7, .val (.int s), s9, s10, s11, s12, s13, .val (.lst (rngD ((s : Int) + 1) ((t.length : Int) + 1))), s15, s16, .val (.int ((s : Int) + 1 + (k : Int)))], [s0, s1, s2, .val (trafD t), s4, s5, .val (.int r), s7, .val (.int s), s9, s10, s11, s12, s13, .val (.lst (rngD ((s : Int) + 1) ((t.length : Int) + 1))), s15, s16, .val (.int ((s : Int) + 1 + (k : Int)))], vI (win t r s (k + 1)), by simp [bindT], by simp [evTs, lcI.allT], ?_, rfl, w _⟩
      rw [← hE]
      exact elt17_ok ht hr (by omega))
  rw [← er] at lc
  have ei : evI P36 CC (.fz 14) [s0, s1, s2, .val (trafD t), s4, s5, .val (.int r), s7, .val (.int s), s9, s10, s11, s12, s13, .own (.lst (rngD ((s : Int) + 1) ((t.length : Int) + 1))), s15, s16, .no] = .ok (rngD ((s : Int) + 1) ((t.length : Int) + 1)) [s0, s1, s2, .val (trafD t), s4, s5, .val (.int r), s7, .val (.int s), s9, s10, s11, s12, s13, .val (.lst (rngD ((s : Int) + 1) ((t.length : Int) + 1))), s15, s16, .no] := by
    simp [evI, ev, fzS, itemsD, Sl.d]
  have no : notOwn [s0, s1, s2, .val (trafD t), s4, s5, .val (.int r), s7, .val (.int s), s9, s10, s11, s12, s13, .val (.lst (rngD ((s : Int) + 1) ((t.length : Int) + 1))), s15, s16, .no] [17] = true := by simp [notOwn]
  have hl : lc17 = .lc elt17 (.nm 17) (.fz 14) [] [17] := rfl
  rw [hl, ev_lc, s_bind, ei, s_ok]
  simp only [hE, no, if_true, w, lc, List.nil_append]
  simp [backE, Function.comp_def]
theorem bur_succ (t : List Int) (r : Int) (i : Nat) : burTo t r (i + 1) = burTo t r i ++ (List.range (t.length - i)).map fun k => win t r i (k + 1) := by
  unfold burTo
  rw [List.range_succ, List.flatMap_append]
  simp
theorem bur_len (t : List Int) (r : Int) : ∀ i, (burTo t r i).length ≤ 1 + i * t.length
  | 0 => by simp [burTo]
  | i + 1 => by
    have := bur_len t r i
    rw [bur_succ, List.length_append, List.length_map, List.length_range, Nat.succ_mul]
    omega
theorem lr_okK {i n : Nat} (hn : n ≤ 500) (h : i < n) : lr2S (.int ((i : Int) + 1)) (.int ((n : Int) + 1)) = some (.own (.lst (rngD ((i : Int) + 1) ((n : Int) + 1)))) := by
  show lrS _ _ = _
  unfold lrS
  rw [if_pos]
  omega
theorem turnB1 {t : List Int} {i : Nat} {s0 s1 s2 s4 s5 s6 s7 s9 s10 s11 s12 s13 s14 s15 s16 : Sl} (ht : t.length ≤ 500) (h : i < t.length) : ex P36 CC (.set 14 (.lr2 (.bop .Add (.var 8) (.int 1)) (.bop .Add (.bi .len [(.var 3)]) (.int 1)))) [s0, s1, s2, .val (trafD t), s4, s5, s6, s7, .val (.int i), s9, s10, s11, s12, s13, s14, s15, s16, .no] = .nx [s0, s1, s2, .val (trafD t), s4, s5, s6, s7, .val (.int i), s9, s10, s11, s12, s13, .own (.lst (rngD ((i : Int) + 1) ((t.length : Int) + 1))), s15, s16, .no] := by
  have lr := lr_okK ht h
  have e1 : evA [opd P36 CC (.bop .Add (.var 8) (.int 1)), opd P36 CC (.bop .Add (.bi .len [(.var 3)]) (.int 1))] [s0, s1, s2, .val (trafD t), s4, s5, s6, s7, .val (.int i), s9, s10, s11, s12, s13, s14, s15, s16, .no] = .ok [.int ((i : Int) + 1), .int ((t.length : Int) + 1)] [s0, s1, s2, .val (trafD t), s4, s5, s6, s7, .val (.int i), s9, s10, s11, s12, s13, s14, s15, s16, .no] := by
    simp [ev, opds, opd, biS, lenD, trafD, bopS, vI, Sl.d]
  rw [x_set, ev, s_bind, e1, s_ok]
  dsimp only
  rw [lr, s_some, s_pure]
  simp [SR.of, putS]
theorem bur_small {t : List Int} {r : Int} {i : Nat} (ht : t.length ≤ 500) (h : i < t.length) : ((burTo t r i).map D.int).length + (((List.range (t.length - i)).map fun k => win t r i (k + 1)).map D.int).length ≤ 300000 := by
  have bl := bur_len t r i
  have hm : i * t.length ≤ 500 * 500 := Nat.mul_le_mul (by omega) ht
  have h4 : (500 : Nat) * 500 = 250000 := by decide
  rw [List.length_map, List.length_map, List.length_map, List.length_range]
  omega
theorem ext_gen {Φ : Nat → M Sl} {i : Nat} {e : E} {E E1 : SE} {xs ys : List Int} {s : List Sl} (ho : isOwnL E i = true) (he : ev Φ CC e E = .ok (.own (.lst (ys.map .int))) E1) (h1 : E1[i]? = some (.own (intL xs))) (hz : (xs.map D.int).length + (ys.map D.int).length ≤ 300000) : ex Φ CC (.ext i e) E = .nx (E1.set i (.own (intL (xs ++ ys)))) := by
  have hz2 : (xs.map D.int).length + (ys.map D.int).length ≤ sizeLine := by rw [sizeLine_eq]; omega
  rw [ex]
  dsimp only
  rw [if_pos ho, he]
  simp only [SR.of, updS, h1, extD, Sl.d, intL]
  rw [if_pos hz2]
  simp
theorem turnB {t : List Int} {r : Int} {i : Nat} {s0 s1 s2 s4 s5 s9 s10 s11 s12 s13 s14 s15 s16 : Sl} (ht : t.length ≤ 500) (hr : 0 ≤ r ∧ r ≤ 100) (h : i < t.length) :
    ∃ s14', exs P36 CC bodyB [s0, s1, s2, .val (trafD t), s4, s5, .val (.int r), .own (intL (burTo t r i)), .val (.int i), s9, s10, s11, s12, s13, s14, s15, s16, .no] = .nx [s0, s1, s2, .val (trafD t), s4, s5, .val (.int r), .own (intL (burTo t r (i + 1))), .val (.int i), s9, s10, s11, s12, s13, s14', s15, s16, .no] := by
  obtain ⟨s14', el⟩ := lc17_ok (s0 := s0) (s1 := s1) (s2 := s2) (s4 := s4) (s5 := s5) (s7 := .own (intL (burTo t r i))) (s9 := s9) (s10 := s10) (s11 := s11) (s12 := s12) (s13 := s13) (s15 := s15) (s16 := s16) ht hr h
  refine ⟨s14', ?_⟩
  have e2 := ext_gen (Φ := P36) (i := 7) (s := []) rfl el rfl (bur_small ht h)
  rw [← bur_succ] at e2
  unfold bodyB
  rw [x_exs1, turnB1 ht h, s_nx, x_exs1, e2, s_nx, x_exs0]
  rfl
theorem rng36 {t : List Int} {E : SE} {i : Nat} (ht : t.length ≤ 500) (he : E[i]? = some (.val (trafD t))) : evI P36 CC (.rng1 (.bi .len [(.var i)])) E = .ok (rngD 0 t.length) E := by
  have hm' : (if -(2 : Int) ^ 62 ≤ (t.length : Int) ∧ (t.length : Int) < 2 ^ 62 then M.pure (rngD 0 (t.length : Int)) else M.bad) = M.pure (rngD 0 (t.length : Int)) := if_pos (by constructor <;> omega)
  have e1 : ev P36 CC (.bi .len [(.var i)]) E = .ok (.val (.int t.length)) E := by
    simp [ev, opds, opd, he, biS, lenD, trafD, vI]
  rw [evI, s_bind, e1, s_ok]
  dsimp only
  rw [hm', s_pure]
theorem loopB {t : List Int} {r : Int} {s0 s1 s2 s4 s5 s8 s9 s10 s11 s12 s13 s14 s15 s16 : Sl} (ht : t.length ≤ 500) (hr : 0 ≤ r ∧ r ≤ 100) :
    ∃ s8' s14', ex P36 CC (.for_ (.nm 8) (.rng1 (.bi .len [(.var 3)])) bodyB) [s0, s1, s2, .val (trafD t), s4, s5, .val (.int r), .own (intL [0]), s8, s9, s10, s11, s12, s13, s14, s15, s16, .no] = .nx [s0, s1, s2, .val (trafD t), s4, s5, .val (.int r), .own (intL (burTo t r t.length)), s8', s9, s10, s11, s12, s13, s14', s15, s16, .no] := by
  obtain ⟨s8', s14', el⟩ := forI_ind (bt := bindT (.nm 8)) (b := exs P36 CC bodyB) (fun i E => ∃ s8 s14, E = [s0, s1, s2, .val (trafD t), s4, s5, .val (.int r), .own (intL (burTo t r i)), s8, s9, s10, s11, s12, s13, s14, s15, s16, .no])
    (fun R => ∃ s8 s14, R = .nx [s0, s1, s2, .val (trafD t), s4, s5, .val (.int r), .own (intL (burTo t r t.length)), s8, s9, s10, s11, s12, s13, s14, s15, s16, .no]) (rngD 0 t.length)
    (fun i E d hd ⟨s8, s14, eE⟩ => by
      subst eE
      obtain ⟨rfl, hi⟩ := rng2_get hd
      refine ⟨[s0, s1, s2, .val (trafD t), s4, s5, .val (.int r), .own (intL (burTo t r i)), .val (.int i), s9, s10, s11, s12, s13, s14, s15, s16, .no], by simp [bindT], ?_⟩
      obtain ⟨s14', et⟩ := turnB (s0 := s0) (s1 := s1) (s2 := s2) (s4 := s4) (s5 := s5) (s9 := s9) (s10 := s10) (s11 := s11) (s12 := s12) (s13 := s13) (s14 := s14) (s15 := s15) (s16 := s16) ht hr (show i < t.length by omega)
      rw [et]
      exact ⟨_, _, rfl⟩)
    (fun E ⟨s8, s14, eE⟩ => by
      subst eE
      have e : (rngD 0 (t.length : Int)).length = t.length := by rw [rng_len2]; omega
      rw [e]
      exact ⟨_, _, rfl⟩)
    [s0, s1, s2, .val (trafD t), s4, s5, .val (.int r), .own (intL [0]), s8, s9, s10, s11, s12, s13, s14, s15, s16, .no] ⟨_, _, rfl⟩
  refine ⟨s8', s14', ?_⟩
  rw [x_for, rng36 ht rfl]
  simp only [SR.of, el]
theorem max36 {t : List Int} {r : Int} {E : SE} (he : E[7]? = some (.own (intL (burTo t r t.length)))) : ev P36 CC (.bi .max [(.var 7)]) E = .ok (vI (kad t r t.length).1) E := by
  have ei := intsOf_ints (burTo t r t.length)
  rw [← bur_max]
  have hc : ∃ a b, burTo t r t.length = a :: b := ⟨_, _, rfl⟩
  obtain ⟨a, b, e⟩ := hc
  rw [e] at ei he ⊢
  rw [ev, s_bind, opds1, opd_varK, s_evA1]
  simp only [opds, s_slot, he, s_ok, s_evA0, biS, intL, ei, s_some, s_pure]
end Lw
end

section
set_option Elab.async false
set_option linter.all false
set_option maxRecDepth 100000
set_option maxHeartbeats 1000000
/-! K32: the law's own least pairs -/
namespace Lw
open PySem L2
theorem eq_pr (p q : Int × Int) : eqD (prD p) (prD q) = some (decide (p = q)) := by
  have h : ∀ p : Int × Int, okD (prD p) = some (prP p) := fun p => by
    have := prP_lay p
    have e : SeqAt.shaped (prP p) = true := by simp [SeqAt.shaped, this.1]; omega
    simp [okD, pr_py, e]
  unfold eqD
  rw [h, h]
  simp only [prP, PyData.eqv, PyData.eqvAll, Bool.and_true]
  obtain ⟨a, b⟩ := p
  obtain ⟨c, d⟩ := q
  by_cases h1 : a = c <;> by_cases h2 : b = d <;> simp [h1, h2]
def t16 : E := .andV (.cmp .NotEq (.var 16) (.var 13)) (.andV (.cmp .LtE (.idx (.var 16) (.int 0)) (.idx (.var 13) (.int 0))) (.cmp .LtE (.idx (.var 16) (.int 1)) (.idx (.var 13) (.int 1))))
def lc16 : E := .lc (.fz 16) (.nm 16) (.fz 11) [t16] [16]
def smD (p q : Int × Int) : Bool := decide (q ≠ p) && (decide (q.1 ≤ p.1) && decide (q.2 ≤ p.2))
theorem t16_ok {p q : Int × Int} {s0 s1 s2 s3 s4 s5 s6 s7 s8 s9 s10 s11 s12 s14 s15 s17 : Sl} : evT P36 CC t16 [s0, s1, s2, s3, s4, s5, s6, s7, s8, s9, s10, s11, s12, .val (prD p), s14, s15, .val (prD q), s17] = .ok (smD p q) [s0, s1, s2, s3, s4, s5, s6, s7, s8, s9, s10, s11, s12, .val (prD p), s14, s15, .val (prD q), s17] := by
  have e1 : evT P36 CC (.cmp .NotEq (.var 16) (.var 13)) [s0, s1, s2, s3, s4, s5, s6, s7, s8, s9, s10, s11, s12, .val (prD p), s14, s15, .val (prD q), s17] = .ok (decide (q ≠ p)) [s0, s1, s2, s3, s4, s5, s6, s7, s8, s9, s10, s11, s12, .val (prD p), s14, s15, .val (prD q), s17] := by
    simp [evT, ev, opd, cmpS, eq_pr, truthD, vB, Sl.d]
  have e2 : evT P36 CC (.cmp .LtE (.idx (.var 16) (.int 0)) (.idx (.var 13) (.int 0))) [s0, s1, s2, s3, s4, s5, s6, s7, s8, s9, s10, s11, s12, .val (prD p), s14, s15, .val (prD q), s17] = .ok (decide (q.1 ≤ p.1)) [s0, s1, s2, s3, s4, s5, s6, s7, s8, s9, s10, s11, s12, .val (prD p), s14, s15, .val (prD q), s17] := by
    simp [evT, ev, opd, ixS, prD, (pr_idx p).1, (pr_idx q).1, cmpS, truthD, vI, vB, Sl.d]
  have e3 : evT P36 CC (.cmp .LtE (.idx (.var 16) (.int 1)) (.idx (.var 13) (.int 1))) [s0, s1, s2, s3, s4, s5, s6, s7, s8, s9, s10, s11, s12, .val (prD p), s14, s15, .val (prD q), s17] = .ok (decide (q.2 ≤ p.2)) [s0, s1, s2, s3, s4, s5, s6, s7, s8, s9, s10, s11, s12, .val (prD p), s14, s15, .val (prD q), s17] := by
    simp [evT, ev, opd, ixS, prD, (pr_idx p).2, (pr_idx q).2, cmpS, truthD, vI, vB, Sl.d]
  unfold t16 smD
  rw [evT_and, s_bind, e1, s_ok]
  by_cases h1 : q ≠ p
  · simp only [decide_eq_true h1, if_true, Bool.true_and]
    rw [evT_and, s_bind, e2, s_ok]
    by_cases h2 : q.1 ≤ p.1
    · simp only [decide_eq_true h2, if_true, Bool.true_and]
      exact e3
    · simp only [decide_eq_false h2, Bool.false_eq_true, if_false, Bool.false_and, s_pure]
  · simp only [decide_eq_false h1, Bool.false_eq_true, if_false, Bool.false_and, s_pure]
theorem lc16_ok {A : Cv} {p : Int × Int} {s0 s1 s2 s3 s4 s5 s6 s7 s8 s9 s10 s11 s12 s14 s15 : Sl} (hA : A.length ≤ 1000) (hs : s11 = .own (.lst (A.map prD)) ∨ s11 = .val (.lst (A.map prD))) :
    ev P36 CC lc16 [s0, s1, s2, s3, s4, s5, s6, s7, s8, s9, s10, s11, s12, .val (prD p), s14, s15, .no, .no] = .ok (.own (.lst ((smaller A p).map prD))) [s0, s1, s2, s3, s4, s5, s6, s7, s8, s9, s10, .val (.lst (A.map prD)), s12, .val (prD p), s14, s15, .no, .no] := by
  have w : ∀ x, wipeE [s0, s1, s2, s3, s4, s5, s6, s7, s8, s9, s10, .val (.lst (A.map prD)), s12, .val (prD p), s14, s15, x, .no] [16] = [s0, s1, s2, s3, s4, s5, s6, s7, s8, s9, s10, .val (.lst (A.map prD)), s12, .val (prD p), s14, s15, .no, .no] := fun x => by simp [wipeE]
  have no : notOwn [s0, s1, s2, s3, s4, s5, s6, s7, s8, s9, s10, .val (.lst (A.map prD)), s12, .val (prD p), s14, s15, .no, .no] [16] = true := by simp [notOwn]
  have ei : evI P36 CC (.fz 11) [s0, s1, s2, s3, s4, s5, s6, s7, s8, s9, s10, s11, s12, .val (prD p), s14, s15, .no, .no] = .ok (A.map prD) [s0, s1, s2, s3, s4, s5, s6, s7, s8, s9, s10, .val (.lst (A.map prD)), s12, .val (prD p), s14, s15, .no, .no] := by
    rcases hs with rfl | rfl <;> simp [evI, ev, fzS, itemsD, Sl.d]
  generalize hE : ev P36 CC (.fz 16) = elt
  have se : ∀ l : Cv, smaller l p = l.filter (smD p) := fun _ => rfl
  have hT : evTs P36 CC [t16] = [evT P36 CC t16] := by simp only [evTs]
  obtain ⟨acc, E', el, h1, h2⟩ := lcI_ind (bt := bindT (.nm 16)) (tests := evTs P36 CC [t16]) (elt := elt) (own := [16])
    (fun i acc E => acc = (smaller (A.take i) p).map prD ∧ E = [s0, s1, s2, s3, s4, s5, s6, s7, s8, s9, s10, .val (.lst (A.map prD)), s12, .val (prD p), s14, s15, .no, .no]) (A.map prD)
    (fun i acc E d hd ⟨h1, h2⟩ => by
      subst h2
      rw [List.getElem?_map] at hd
      cases hq : A[i]? with
      | none => rw [hq] at hd; cases hd
      | some q =>
        rw [hq] at hd
        cases hd
        have hi : i < A.length := by
          rcases Nat.lt_or_ge i A.length with z | z
          · exact z
          · rw [List.getElem?_eq_none z] at hq; cases hq
        have etk : A.take (i + 1) = A.take i ++ [q] := by rw [List.take_succ, hq]; rfl
        refine ⟨[s0, s1, s2, s3, s4, s5, s6, s7, s8, s9, s10, .val (.lst (A.map prD)), s12, .val (prD p), s14, s15, .val (prD q), .no], [s0, s1, s2, s3, s4, s5, s6, s7, s8, s9, s10, .val (.lst (A.map prD)), s12, .val (prD p), s14, s15, .val (prD q), .no], smD p q, by simp [bindT, wipeE], ?_, fun hb => ⟨.val (prD q), [s0, s1, s2, s3, s4, s5, s6, s7, s8, s9, s10, .val (.lst (A.map prD)), s12, .val (prD p), s14, s15, .val (prD q), .no], ?_, ?_, ?_, w _⟩, fun hb => ⟨?_, w _⟩⟩
        · rw [hT]
          simp only [lcI.allT, s_bind, t16_ok, s_ok]
          cases smD p q <;> rfl
        · rw [← hE]; simp [ev, fzS]
        · rw [h1, sizeLine_eq, List.length_map]
          have := List.length_filter_le (fun q : Int × Int => decide (q ≠ p) && (decide (q.1 ≤ p.1) && decide (q.2 ≤ p.2))) (A.take i)
          rw [List.length_take] at this
          unfold smaller
          omega
        · rw [etk, h1, se, se, List.filter_append, List.filter_cons_of_pos hb, List.filter_nil, List.map_append]
          rfl
        · rw [etk, h1, se, se, List.filter_append, List.filter_cons_of_neg (by rw [hb]; decide), List.filter_nil, List.append_nil]) [] _ ⟨by simp [smaller], rfl⟩
  rw [List.length_map, List.take_length] at h1
  subst h1 h2
  have hl : lc16 = .lc (.fz 16) (.nm 16) (.fz 11) [t16] [16] := rfl
  rw [hl, ev_lc, s_bind, ei, s_ok]
  simp only [hE, no, if_true, w, el, List.nil_append]
  simp [backE]
def bodyL : List S := [.set 15 lc16, .set 12 (.bop .Add (.var 12) (.bop .Mult (.lst [(.fz 13)]) (.ty .int [(.cmp .Eq (.var 15) (.lst []))])))]
def fltTo (A : Cv) (i : Nat) : Cv := ((sortP A).take i).filter fun p => (smaller A p).isEmpty
theorem turnL {A : Cv} {i : Nat} {p : Int × Int} {s0 s1 s2 s3 s4 s5 s6 s7 s8 s9 s10 s11 s14 s15 : Sl} (hA : A.length ≤ 1000) (hi : (fltTo A i).length ≤ 10000) (hp : (sortP A)[i]? = some p) (hs : s11 = .own (.lst (A.map prD)) ∨ s11 = .val (.lst (A.map prD))) :
    ∃ s15', exs P36 CC bodyL [s0, s1, s2, s3, s4, s5, s6, s7, s8, s9, s10, s11, .own (.lst ((fltTo A i).map prD)), .val (prD p), s14, s15, .no, .no] = .nx [s0, s1, s2, s3, s4, s5, s6, s7, s8, s9, s10, .val (.lst (A.map prD)), .own (.lst ((fltTo A (i + 1)).map prD)), .val (prD p), s14, s15', .no, .no] := by
  refine ⟨.own (.lst ((smaller A p).map prD)), ?_⟩
  have e1 : ex P36 CC (.set 15 lc16) [s0, s1, s2, s3, s4, s5, s6, s7, s8, s9, s10, s11, .own (.lst ((fltTo A i).map prD)), .val (prD p), s14, s15, .no, .no] = .nx [s0, s1, s2, s3, s4, s5, s6, s7, s8, s9, s10, .val (.lst (A.map prD)), .own (.lst ((fltTo A i).map prD)), .val (prD p), s14, .own (.lst ((smaller A p).map prD)), .no, .no] := by
    rw [x_set, lc16_ok hA hs]
    simp [SR.of, putS]
  have en := eq_prs_nil (smaller A p)
  have etk : (sortP A).take (i + 1) = (sortP A).take i ++ [p] := by rw [List.take_succ, hp]; rfl
  have ef : fltTo A (i + 1) = fltTo A i ++ if (smaller A p).isEmpty then [p] else [] := by
    unfold fltTo
    rw [etk, List.filter_append]
    cases h : (smaller A p).isEmpty <;> simp [h]
  have hz1 : (fltTo A i).length + 1 ≤ 16777216 := by omega
  have hz0 : (fltTo A i).length ≤ 16777216 := by omega
  unfold bodyL
  rw [x_exs1, e1, s_nx, ef]
  cases h : (smaller A p).isEmpty with
  | true =>
    rw [h] at en
    simp [exs, ex, ev, evD, opds, opd, fzS, cmpS, en, tyS, bopS, hz1, putS, vI, vB, Sl.d, sizeLine_eq, SR.of, SR.then]
  | false =>
    rw [h] at en
    simp [exs, ex, ev, evD, opds, opd, fzS, cmpS, en, tyS, bopS, hz0, putS, vI, vB, Sl.d, sizeLine_eq, SR.of, SR.then]
theorem prs_of {A : Cv} (h : ∀ p ∈ A, (0 ≤ p.1 ∧ p.1 < 2 ^ 31) ∧ (0 ≤ p.2 ∧ p.2 < 2 ^ 31)) : prsOf (A.map prD) = some A := by
  induction A with
  | nil => rfl
  | cons p r ih =>
    have hp := h p List.mem_cons_self
    have e : prOf (prD p) = some p := by
      unfold prOf prD
      simp only
      rw [if_pos hp]
    simp only [List.map_cons, prsOf, e, ih fun q hq => h q (List.mem_cons_of_mem _ hq)]
theorem sortP_len (A : Cv) : (sortP A).length ≤ A.length := by
  have ins : ∀ (p : Int × Int) (l : Cv), (insP p l).length ≤ l.length + 1 := by
    intro p l
    induction l with
    | nil => simp [insP]
    | cons q r ih =>
      unfold insP
      split
      · simp
      · split
        · simp
        · simp only [List.length_cons]; omega
  induction A with
  | nil => simp [sortP]
  | cons p r ih =>
    have := ins p (sortP r)
    simp only [sortP, List.length_cons]; omega
theorem loopL {A : Cv} {s0 s1 s2 s3 s4 s5 s6 s7 s8 s9 s10 s13 s14 s15 : Sl} (hA : A.length ≤ 60) (hb : ∀ p ∈ A, (0 ≤ p.1 ∧ p.1 < 2 ^ 31) ∧ (0 ≤ p.2 ∧ p.2 < 2 ^ 31)) :
    ∃ s11' s13' s15', (∀ d, s13 ≠ .own d) → (∀ d, s13' ≠ .own d) ∧ ex P36 CC (.for_ (.nm 13) (.sset (.var 11)) bodyL) [s0, s1, s2, s3, s4, s5, s6, s7, s8, s9, s10, .own (.lst (A.map prD)), .own (.lst []), s13, s14, s15, .no, .no] = .nx [s0, s1, s2, s3, s4, s5, s6, s7, s8, s9, s10, s11', .own (.lst ((leastOf A).map prD)), s13', s14, s15', .no, .no] := by
  by_cases h13 : ∀ d, s13 ≠ .own d
  case neg => exact ⟨.no, .no, .no, fun h => absurd h h13⟩
  have es : ssetS (.lst (A.map prD)) = some (.own (.lst ((sortP A).map prD))) := by
    simp only [ssetS, prs_of hb]
    rw [if_pos (by omega)]
  have ei : evI P36 CC (.sset (.var 11)) [s0, s1, s2, s3, s4, s5, s6, s7, s8, s9, s10, .own (.lst (A.map prD)), .own (.lst []), s13, s14, s15, .no, .no] = .ok ((sortP A).map prD) [s0, s1, s2, s3, s4, s5, s6, s7, s8, s9, s10, .own (.lst (A.map prD)), .own (.lst []), s13, s14, s15, .no, .no] := by
    simp [evI, ev, opd, es, itemsD, Sl.d]
  have sl := sortP_len A
  obtain ⟨s11', s13', s15', n13, el⟩ := forI_ind (bt := bindT (.nm 13)) (b := exs P36 CC bodyL) (fun i E => ∃ s11 s13 s15, (s11 = .own (.lst (A.map prD)) ∨ s11 = .val (.lst (A.map prD))) ∧ (∀ d, s13 ≠ .own d) ∧ E = [s0, s1, s2, s3, s4, s5, s6, s7, s8, s9, s10, s11, .own (.lst ((fltTo A i).map prD)), s13, s14, s15, .no, .no])
    (fun R => ∃ s11 s13 s15, (∀ d, s13 ≠ .own d) ∧ R = .nx [s0, s1, s2, s3, s4, s5, s6, s7, s8, s9, s10, s11, .own (.lst ((leastOf A).map prD)), s13, s14, s15, .no, .no]) ((sortP A).map prD)
    (fun i E d hd ⟨s11, s13, s15, hs, n13, eE⟩ => by
      subst eE
      rw [List.getElem?_map] at hd
      cases hp : (sortP A)[i]? with
      | none => rw [hp] at hd; cases hd
      | some p =>
        rw [hp] at hd
        cases hd
        refine ⟨[s0, s1, s2, s3, s4, s5, s6, s7, s8, s9, s10, s11, .own (.lst ((fltTo A i).map prD)), .val (prD p), s14, s15, .no, .no], by simp [bindT], ?_⟩
        have fl : (fltTo A i).length ≤ 10000 := by
          have h1 := List.length_filter_le (fun p => (smaller A p).isEmpty) ((sortP A).take i)
          rw [List.length_take] at h1
          unfold fltTo
          omega
        obtain ⟨s15', et⟩ := turnL (s0 := s0) (s1 := s1) (s2 := s2) (s3 := s3) (s4 := s4) (s5 := s5) (s6 := s6) (s7 := s7) (s8 := s8) (s9 := s9) (s10 := s10) (s14 := s14) (s15 := s15) (by omega) fl hp hs
        rw [et]
        exact ⟨_, _, _, .inr rfl, fun d => by simp, rfl⟩)
    (fun E ⟨s11, s13, s15, hs, n13, eE⟩ => by
      subst eE
      rw [List.length_map]
      have : fltTo A (sortP A).length = leastOf A := by
        unfold fltTo
        rw [List.take_length]
        exact least_filter A
      rw [this]
      exact ⟨_, _, _, n13, rfl⟩)
    [s0, s1, s2, s3, s4, s5, s6, s7, s8, s9, s10, .own (.lst (A.map prD)), .own (.lst []), s13, s14, s15, .no, .no] ⟨.own (.lst (A.map prD)), s13, s15, .inl rfl, h13, by simp [fltTo]⟩
  refine ⟨s11', s13', s15', fun _ => ⟨n13, ?_⟩⟩
  rw [x_for, ei]
  simp only [SR.of, el]
end Lw
end

section
set_option Elab.async false
set_option linter.all false
set_option maxRecDepth 100000
set_option maxHeartbeats 1000000
/-! K33: a lap, step by step -/
namespace Lw
open PySem L2
def en (s0 s1 s2 s3 s4 s5 s6 s7 s8 s9 s10 s11 s12 s13 s14 s15 : Sl) : SE := [s0, s1, s2, s3, s4, s5, s6, s7, s8, s9, s10, s11, s12, s13, s14, s15, .no, .no]
theorem letZ_bound {c : Cv} {k : Int} (hc : Curve c) (h0 : 0 ≤ k) (h1 : k ≤ 1000000) : (letZ c k).natAbs < 10 ^ 12 := by
  by_cases q : 0 < k
  · obtain ⟨p, hp, e⟩ := letZ_mem hc.ne q
    have hs := hc.small p hp
    have m0 : 0 ≤ p.2 * k := Int.mul_nonneg (by omega) (by omega)
    have m1 : p.2 * k ≤ 100 * 1000000 := Int.mul_le_mul (by omega) h1 (by omega) (by omega)
    rw [e]; omega
  · have : letZ c k = 0 := by unfold letZ; rw [if_neg q]
    rw [this]; decide
theorem full_traf {c : Cv} (hd : Drawn c) : Traf (fullZ c) ∧ (fullZ c).length ≤ 12 := by
  have len : (fullZ c).length = 10 := by simp [fullZ]
  refine ⟨⟨by omega, fun x hx => ?_⟩, by omega⟩
  unfold fullZ at hx
  obtain ⟨i, hi, rfl⟩ := List.mem_map.mp hx
  have hi := List.mem_range.mp hi
  have hc := hd.curve
  have mono : letZ c (i : Int) ≤ letZ c ((i : Int) + 1) := by
    refine le_letZ hc.ne (by omega) fun p hp => ?_
    have hs := hc.small p hp
    by_cases q : 0 < (i : Int)
    · have := letZ_le q hp
      rw [Int.mul_add, Int.mul_one]; omega
    · have z : letZ c (i : Int) = 0 := by unfold letZ; rw [if_neg q]
      have : 0 ≤ p.2 * ((i : Int) + 1) := Int.mul_nonneg (by omega) (by omega)
      omega
  have low : 0 ≤ letZ c (i : Int) := by
    by_cases q : 0 < (i : Int)
    · obtain ⟨p, hp, e⟩ := letZ_mem hc.ne q
      have hs := hc.small p hp
      have : 0 ≤ p.2 * (i : Int) := Int.mul_nonneg (by omega) (by omega)
      omega
    · have z : letZ c (i : Int) = 0 := by unfold letZ; rw [if_neg q]
      omega
  have up : letZ c ((i : Int) + 1) ≤ 1000 := by
    obtain ⟨p, hp, e⟩ := letZ_mem (m := (i : Int) + 1) hc.ne (by omega)
    have hs := hd.2.2.1 p hp
    have : p.2 * ((i : Int) + 1) ≤ 20 * 10 := Int.mul_le_mul (by omega) (by omega) (by omega) (by omega)
    omega
  omega
theorem sum_le {t : List Int} (h : ∀ x ∈ t, 0 ≤ x ∧ x ≤ 60) : 0 ≤ t.sum ∧ t.sum ≤ 60 * t.length := by
  induction t with
  | nil => simp
  | cons x r ih =>
    have := h x List.mem_cons_self
    have := ih fun y hy => h y (List.mem_cons_of_mem _ hy)
    simp; omega
theorem kad_bound {t : List Int} {r : Int} (ht : ∀ x ∈ t, 0 ≤ x ∧ x ≤ 60) (hl : t.length ≤ 12) (hr : 0 ≤ r) : (kad t r t.length).1.natAbs < 10 ^ 12 := by
  have ok := kad_ok t r t.length (Nat.le_refl _)
  have b0 := ok.b0
  have sl := sum_le ht
  have pos : ∀ x ∈ t, 0 ≤ x := fun x hx => (ht x hx).1
  rcases ok.bat with e | ⟨s, k, h, e⟩
  · rw [e]; decide
  · have h1 := sum_drop_le pos s
    have h2 := take_le_sum (t := t.drop s) (fun x hx => pos x (List.mem_of_mem_drop hx)) (k + 1)
    have h3 : 0 ≤ r * ((k + 1 : Nat) : Int) := Int.mul_nonneg hr (by omega)
    have e' : win t r s (k + 1) = ((t.drop s).take (k + 1)).sum - r * ((k + 1 : Nat) : Int) := rfl
    omega
theorem repr_ne {x y : D} {z : Str} (hx : reprD x = some z) (hy : reprD y = some z) (hz : PyData.strOk z = true) : eqD (.str z) (.str z) = some true := by rw [eqD_str hz hz]; simp
section
variable {s0 s1 s2 s3 s4 s5 s6 s7 s8 s9 s10 s11 s12 s13 s14 s15 : Sl}
theorem st1 {n : Int} {l : List D} (hn : n < 2 ^ 18) (h : PotOk n l) : ∃ c t l', Drawn c ∧ t.length ≤ 12 ∧ (∀ x ∈ t, 0 ≤ x ∧ x ≤ 60) ∧ PotOk (n + 22) l' ∧
    ex P36 CC (.setT (.tup [(.nm 2), (.nm 3)]) (.tup [(.call 4 [(.var 0)]), (.call 10 [(.var 0), (.int 12)])])) (en (.own (.lst l)) s1 s2 s3 s4 s5 s6 s7 s8 s9 s10 s11 s12 s13 s14 s15) = .nx (en (.own (.lst l')) s1 (.val (curveD c)) (.val (trafD t)) s4 s5 s6 s7 s8 s9 s10 s11 s12 s13 s14 s15) := by
  obtain ⟨c, l1, hc, p1, e1⟩ := curve_ok (by omega) h
  obtain ⟨t, l2, h1, h2, p2, e2⟩ := traffic_ok (by omega) p1
  have q4 : P36 4 = F4 := rfl
  have q10 : P36 10 = F10 := rfl
  refine ⟨c, t, l2, hc, h1, h2, p2.mono (by omega), ?_⟩
  simp [en, ex, ev, evD, args, callS, evC, popS, q4, e1, q10, e2, putBack, putBack_ex, bindT, bindTs, vI, Sl.d, sizeLine_eq, SR.of]
theorem st2 {n : Int} {l : List D} (hn : n < 2 ^ 18) (h : PotOk n l) : ∃ k l', (0 ≤ k ∧ k ≤ 1000000) ∧ PotOk (n + 1) l' ∧
    ex P36 CC (.set 4 (.ty .int [(.call 3 [(.var 0), (.lst [(.int 0), (.int 1), (.int 2), (.int 7), (.int 100), (.bop .Pow (.int 10) (.int 6))])])])) (en (.own (.lst l)) s1 s2 s3 s4 s5 s6 s7 s8 s9 s10 s11 s12 s13 s14 s15) = .nx (en (.own (.lst l')) s1 s2 s3 (.val (.int k)) s5 s6 s7 s8 s9 s10 s11 s12 s13 s14 s15) := by
  obtain ⟨d, l1, hd, p1, e1⟩ := of_ok (n := n) (xs := [.int 0, .int 1, .int 2, .int 7, .int 100, .int 1000000]) (by omega) h (by simp) (by simp)
  obtain ⟨k, rfl, hk⟩ : ∃ k : Int, d = .int k ∧ 0 ≤ k ∧ k ≤ 1000000 := by
    simp at hd
    rcases hd with rfl | rfl | rfl | rfl | rfl | rfl <;> exact ⟨_, rfl, by decide, by decide⟩
  have q3 : P36 3 = F3 := rfl
  have p6 : (Builtin.Int.intBits 10 : Int) * 6 ≤ 134217728 := by decide +kernel
  refine ⟨k, l1, hk, p1, ?_⟩
  simp [en, ex, ev, evD, opds, opd, args, callS, evC, popS, q3, e1, p6, bopS, tyS, putBack, putS, vI, Sl.d, sizeLine_eq, SR.of]
theorem st3 {c : Cv} {k : Int} (hc : Curve c) (hk : 0 ≤ k ∧ k ≤ 1000000) :
    ex P36 CC (.ite (.cmp .NotEq (.bi .repr [(.call 26 [(.var 2), (.var 4)])]) (.bi .repr [(.call 0 [(.var 2), (.var 4)])])) [.ret (.bl false)] []) (en s0 s1 (.val (curveD c)) s3 (.val (.int k)) s5 s6 s7 s8 s9 s10 s11 s12 s13 s14 s15) = .nx (en s0 s1 (.val (curveD c)) s3 (.val (.int k)) s5 s6 s7 s8 s9 s10 s11 s12 s13 s14 s15) := by
  have q26 : P36 26 = F26 := rfl
  have q0 : P36 0 = F0 := rfl
  have e26 := let_in_ok hc hk.1 hk.2
  have e0 := let_ok (t := k) hc (by omega)
  have hr := repr_int (letZ_bound hc hk.1 hk.2)
  have he := eqD_str (strOk_int (letZ c k)) (strOk_int (letZ c k))
  have ts : (toString (letZ c k) : String) = (letZ c k).repr := rfl
  rw [ts] at hr he
  simp [en, ex, exs, ev, evT, opds, opd, args, callS, evC, popS, q26, e26, q0, e0, biS, hr, he, cmpS, putBack, truthD, vI, vB, Sl.d, SR.of]
theorem st4 {c : Cv} {t : List Int} {n : Int} {l : List D} (hc : Curve c) (hl : t.length ≤ 12) (ht : ∀ x ∈ t, 0 ≤ x ∧ x ≤ 60) (hn : n < 2 ^ 16) (h : PotOk n l) : ∃ l', PotOk (n + 25) l' ∧
    ex P36 CC (.ite (.orV (.notV (.call 25 [(.var 0), (.var 2), (.var 3)])) (.notV (.call 32 [(.var 2), (.var 3)]))) [.ret (.bl false)] []) (en (.own (.lst l)) s1 (.val (curveD c)) (.val (trafD t)) s4 s5 s6 s7 s8 s9 s10 s11 s12 s13 s14 s15) = .nx (en (.own (.lst l')) s1 (.val (curveD c)) (.val (trafD t)) s4 s5 s6 s7 s8 s9 s10 s11 s12 s13 s14 s15) := by
  have tr : Traf t := ⟨by omega, fun x hx => by have := ht x hx; omega⟩
  have sl := sum_le ht
  obtain ⟨l', p1, e25⟩ := fitting_ok hc tr hl (by omega) h
  have e32 := shaped_all_ok hc tr (by omega)
  have q25 : P36 25 = F25 := rfl
  have q32 : P36 32 = F32 := rfl
  refine ⟨l', p1, ?_⟩
  simp [en, ex, exs, ev, evT, opds, opd, args, callS, evC, popS, q25, e25, q32, e32, putBack, truthD, vB, Sl.d, SR.of]
theorem st5 {c : Cv} (hc : Curve c) : ex P36 CC (.set 5 (.call 1 [(.var 2), (.int 10)])) (en s0 s1 (.val (curveD c)) s3 s4 s5 s6 s7 s8 s9 s10 s11 s12 s13 s14 s15) = .nx (en s0 s1 (.val (curveD c)) s3 s4 (.val (trafD (fullZ c))) s6 s7 s8 s9 s10 s11 s12 s13 s14 s15) := by
  have q1 : P36 1 = F1 := rfl
  have e1 := full_ok hc
  simp [en, ex, ev, args, callS, evC, popS, q1, e1, putBack, putBack_ex, putS, vI, SR.of]
theorem st6 {c : Cv} {n : Int} {l : List D} (hd : Drawn c) (hn : n < 2 ^ 16) (h : PotOk n l) : ∃ l', PotOk (n + 25) l' ∧
    ex P36 CC (.ite (.notV (.call 25 [(.var 0), (.var 2), (.var 5)])) [.ret (.bl false)] []) (en (.own (.lst l)) s1 (.val (curveD c)) s3 s4 (.val (trafD (fullZ c))) s6 s7 s8 s9 s10 s11 s12 s13 s14 s15) = .nx (en (.own (.lst l')) s1 (.val (curveD c)) s3 s4 (.val (trafD (fullZ c))) s6 s7 s8 s9 s10 s11 s12 s13 s14 s15) := by
  obtain ⟨tr, hl⟩ := full_traf hd
  obtain ⟨l', p1, e25⟩ := fitting_ok hd.curve tr hl (by omega) h
  have q25 : P36 25 = F25 := rfl
  refine ⟨l', p1, ?_⟩
  simp [en, ex, exs, ev, evT, opds, opd, args, callS, evC, popS, q25, e25, putBack, truthD, vB, Sl.d, SR.of]
theorem st7 {n : Int} {l : List D} (hn : n < 2 ^ 18) (h : PotOk n l) : ∃ r l', (0 ≤ r ∧ r ≤ 100) ∧ PotOk (n + 1) l' ∧
    ex P36 CC (.set 6 (.ty .int [(.call 2 [(.var 0), (.int 12)])])) (en (.own (.lst l)) s1 s2 s3 s4 s5 s6 s7 s8 s9 s10 s11 s12 s13 s14 s15) = .nx (en (.own (.lst l')) s1 s2 s3 s4 s5 (.val (.int r)) s7 s8 s9 s10 s11 s12 s13 s14 s15) := by
  obtain ⟨r, l1, hr, p1, e1⟩ := take_ok (u := 12) (by omega) h (by decide)
  have q2 : P36 2 = F2 := rfl
  refine ⟨r, l1, by omega, p1, ?_⟩
  simp [en, ex, ev, opds, opd, args, callS, evC, popS, q2, e1, tyS, putBack, putBack_ex, putS, vI, Sl.d, SR.of]
theorem st8 : ex P36 CC (.set 7 (.lst [(.int 0)])) (en s0 s1 s2 s3 s4 s5 s6 s7 s8 s9 s10 s11 s12 s13 s14 s15) = .nx (en s0 s1 s2 s3 s4 s5 s6 (.own (intL [0])) s8 s9 s10 s11 s12 s13 s14 s15) := by
  simp [en, ex, ev, evD, intL, putS, vI, Sl.d, sizeLine_eq, SR.of]
theorem st9 {t : List Int} {r : Int} (ht : t.length ≤ 500) (hr : 0 ≤ r ∧ r ≤ 100) : ∃ s8' s14', ex P36 CC (.for_ (.nm 8) (.rng1 (.bi .len [(.var 3)])) bodyB) (en s0 s1 s2 (.val (trafD t)) s4 s5 (.val (.int r)) (.own (intL [0])) s8 s9 s10 s11 s12 s13 s14 s15) = .nx (en s0 s1 s2 (.val (trafD t)) s4 s5 (.val (.int r)) (.own (intL (burTo t r t.length))) s8' s9 s10 s11 s12 s13 s14' s15) := loopB ht hr
theorem st10 {t : List Int} {r : Int} (hl : t.length ≤ 12) (ht : ∀ x ∈ t, 0 ≤ x ∧ x ≤ 60) (hr : 0 ≤ r ∧ r ≤ 100) : ex P36 CC (.ite (.cmp .NotEq (.bi .repr [(.call 33 [(.var 3), (.var 6)])]) (.bi .repr [(.bi .max [(.var 7)])])) [.ret (.bl false)] []) (en s0 s1 s2 (.val (trafD t)) s4 s5 (.val (.int r)) (.own (intL (burTo t r t.length))) s8 s9 s10 s11 s12 s13 s14 s15) = .nx (en s0 s1 s2 (.val (trafD t)) s4 s5 (.val (.int r)) (.own (intL (burTo t r t.length))) s8 s9 s10 s11 s12 s13 s14 s15) := by
  have q33 : P36 33 = F33 := rfl
  have tr : Traf t := ⟨by omega, fun x hx => by have := ht x hx; omega⟩
  have e33 := least_ok tr hr
  have hrp := repr_int (kad_bound ht hl hr.1)
  have he := eqD_str (strOk_int (kad t r t.length).1) (strOk_int (kad t r t.length).1)
  have em := max36 (t := t) (r := r) (E := en s0 s1 s2 (.val (trafD t)) s4 s5 (.val (.int r)) (.own (intL (burTo t r t.length))) s8 s9 s10 s11 s12 s13 s14 s15) rfl
  generalize hM : ev P36 CC (.bi .max [(.var 7)]) = mx at em
  generalize hV : (kad t r t.length).1 = v at *
  have ts : (toString v : String) = v.repr := rfl
  rw [ts] at hrp he
  have o1 : opds P36 CC [(.bi .max [(.var 7)])] = [.ex mx] := by rw [← hM]; simp only [opds, opd]
  have e1 : ev P36 CC (.bi .repr [(.call 33 [(.var 3), (.var 6)])]) (en s0 s1 s2 (.val (trafD t)) s4 s5 (.val (.int r)) (.own (intL (burTo t r t.length))) s8 s9 s10 s11 s12 s13 s14 s15) = .ok (.val (.str v.repr)) (en s0 s1 s2 (.val (trafD t)) s4 s5 (.val (.int r)) (.own (intL (burTo t r t.length))) s8 s9 s10 s11 s12 s13 s14 s15) := by
    simp [en, ev, opds, opd, args, callS, evC, popS, q33, e33, biS, hrp, putBack, vI, Sl.d]
  have e2 : ev P36 CC (.bi .repr [(.bi .max [(.var 7)])]) (en s0 s1 s2 (.val (trafD t)) s4 s5 (.val (.int r)) (.own (intL (burTo t r t.length))) s8 s9 s10 s11 s12 s13 s14 s15) = .ok (.val (.str v.repr)) (en s0 s1 s2 (.val (trafD t)) s4 s5 (.val (.int r)) (.own (intL (burTo t r t.length))) s8 s9 s10 s11 s12 s13 s14 s15) := by
    rw [ev, s_bind, o1, s_evA2, em, s_ok]
    simp only [s_evA0, s_ok, vI, Sl.d, biS, hrp, Option.map_some, s_some, s_pure]
  rw [x_ite, evT_cmpK, opd_cmp, s_bind, s_evA2, ev_cmp, opd_bi, opd_bi, s_bind, s_evA2, e1, s_ok, s_evA2, e2, s_ok]
  simp [cmpS, he, truthD, vB, Sl.d, SR.of, exs]
theorem st11 {n : Int} {l : List D} (hn : n < 2 ^ 18) (h : PotOk n l) : ∃ c l', Drawn c ∧ PotOk (n + 9) l' ∧
    ex P36 CC (.set 9 (.call 4 [(.var 0)])) (en (.own (.lst l)) s1 s2 s3 s4 s5 s6 s7 s8 s9 s10 s11 s12 s13 s14 s15) = .nx (en (.own (.lst l')) s1 s2 s3 s4 s5 s6 s7 s8 (.val (curveD c)) s10 s11 s12 s13 s14 s15) := by
  obtain ⟨c, l1, hc, p1, e1⟩ := curve_ok (by omega) h
  have q4 : P36 4 = F4 := rfl
  refine ⟨c, l1, hc, p1, ?_⟩
  simp [en, ex, ev, args, callS, evC, popS, q4, e1, putBack, putS, SR.of]
theorem st12 {c o : Cv} (hc : Curve c) (ho : Curve o) (hl : c.length + o.length ≤ 8) : ex P36 CC (.set 10 (.call 9 [(.var 2), (.var 9)])) (en s0 s1 (.val (curveD c)) s3 s4 s5 s6 s7 s8 (.val (curveD o)) s10 s11 s12 s13 s14 s15) = .nx (en s0 s1 (.val (curveD c)) s3 s4 s5 s6 s7 s8 (.val (curveD o)) (.val (curveD (leastOf (c ++ o)))) s11 s12 s13 s14 s15) := by
  have q9 : P36 9 = F9 := rfl
  have e1 := both_ok hc ho hl
  simp [en, ex, ev, args, callS, evC, popS, q9, e1, putBack, putS, SR.of]
theorem st13 {c o : Cv} (hl : c.length + o.length ≤ 8) (h13 : ∀ d, s13 ≠ .own d) (h13b : s13 = .no ∨ ∃ d, s13 = .val d) : ex P36 CC (.set 11 (.lc (.fz 13) (.nm 13) (.bop .Add (.var 2) (.var 9)) [] [13])) (en s0 s1 (.val (curveD c)) s3 s4 s5 s6 s7 s8 (.val (curveD o)) s10 s11 s12 s13 s14 s15) = .nx (en s0 s1 (.val (curveD c)) s3 s4 s5 s6 s7 s8 (.val (curveD o)) s10 (.own (.lst ((c ++ o).map prD))) s12 s13 s14 s15) := by
  generalize hE : ev P36 CC (.fz 13) = elt
  have w : ∀ x, wipeE (en s0 s1 (.val (curveD c)) s3 s4 s5 s6 s7 s8 (.val (curveD o)) s10 s11 s12 x s14 s15) [13] = en s0 s1 (.val (curveD c)) s3 s4 s5 s6 s7 s8 (.val (curveD o)) s10 s11 s12 .no s14 s15 := fun x => by simp [en, wipeE]
  have lc := lcI_mapG (bt := bindT (.nm 13)) (tests := evTs P36 CC []) (elt := elt) (own := [13]) (W := en s0 s1 (.val (curveD c)) s3 s4 s5 s6 s7 s8 (.val (curveD o)) s10 s11 s12 .no s14 s15) (g := prD) (f := prD) (w _) (c ++ o) [] (by rw [sizeLine_eq]; simp; omega) (fun p hp => by
    refine ⟨en s0 s1 (.val (curveD c)) s3 s4 s5 s6 s7 s8 (.val (curveD o)) s10 s11 s12 (.val (prD p)) s14 s15, en s0 s1 (.val (curveD c)) s3 s4 s5 s6 s7 s8 (.val (curveD o)) s10 s11 s12 (.val (prD p)) s14 s15, en s0 s1 (.val (curveD c)) s3 s4 s5 s6 s7 s8 (.val (curveD o)) s10 s11 s12 (.val (prD p)) s14 s15, .val (prD p), by simp [en, bindT], by simp [evTs, lcI.allT], ?_, rfl, w _⟩
    rw [← hE]
    simp [en, ev, fzS])
  have hz : c.length + o.length ≤ 16777216 := by omega
  have ei : evI P36 CC (.bop .Add (.var 2) (.var 9)) (en s0 s1 (.val (curveD c)) s3 s4 s5 s6 s7 s8 (.val (curveD o)) s10 s11 s12 s13 s14 s15) = .ok ((c ++ o).map prD) (en s0 s1 (.val (curveD c)) s3 s4 s5 s6 s7 s8 (.val (curveD o)) s10 s11 s12 s13 s14 s15) := by
    rw [evI_bopK, s_bind]
    simp [en, ev, opd, curveD, bopS, hz, itemsD, Sl.d, sizeLine_eq]
  have no : notOwn (en s0 s1 (.val (curveD c)) s3 s4 s5 s6 s7 s8 (.val (curveD o)) s10 s11 s12 s13 s14 s15) [13] = true := by
    rcases h13b with rfl | ⟨d, rfl⟩ <;> simp [en, notOwn]
  rw [x_set, ev_lc, s_bind, ei, s_ok]
  simp only [hE, no, if_true, w, lc, List.nil_append]
  simp [en, backE, SR.of, putS]
theorem st14 : ex P36 CC (.set 12 (.lst [])) (en s0 s1 s2 s3 s4 s5 s6 s7 s8 s9 s10 s11 s12 s13 s14 s15) = .nx (en s0 s1 s2 s3 s4 s5 s6 s7 s8 s9 s10 s11 (.own (.lst [])) s13 s14 s15) := by
  simp [en, ex, ev, evD, putS, SR.of]
theorem st15 {A : Cv} (hA : A.length ≤ 60) (hb : ∀ p ∈ A, (0 ≤ p.1 ∧ p.1 < 2 ^ 31) ∧ (0 ≤ p.2 ∧ p.2 < 2 ^ 31)) (h13 : ∀ d, s13 ≠ .own d) :
    ∃ s11' s13' s15', (∀ d, s13' ≠ .own d) ∧ ex P36 CC (.for_ (.nm 13) (.sset (.var 11)) bodyL) (en s0 s1 s2 s3 s4 s5 s6 s7 s8 s9 s10 (.own (.lst (A.map prD))) (.own (.lst [])) s13 s14 s15) = .nx (en s0 s1 s2 s3 s4 s5 s6 s7 s8 s9 s10 s11' (.own (.lst ((leastOf A).map prD))) s13' s14 s15') := by
  obtain ⟨a, b, c, h⟩ := loopL (s0 := s0) (s1 := s1) (s2 := s2) (s3 := s3) (s4 := s4) (s5 := s5) (s6 := s6) (s7 := s7) (s8 := s8) (s9 := s9) (s10 := s10) (s13 := s13) (s14 := s14) (s15 := s15) hA hb
  obtain ⟨h1, h2⟩ := h h13
  exact ⟨a, b, c, h1, h2⟩
theorem st16 {B : Cv} (hB : Curve B) : ex P36 CC (.ite (.orV (.cmp .NotEq (.bi .repr [(.var 10)]) (.bi .repr [(.ty .tuple [(.var 12)])])) (.notV (.call 35 [(.var 10)]))) [.ret (.bl false)] []) (en s0 s1 s2 s3 s4 s5 s6 s7 s8 s9 (.val (curveD B)) s11 (.own (.lst (B.map prD))) s13 s14 s15) = .nx (en s0 s1 s2 s3 s4 s5 s6 s7 s8 s9 (.val (curveD B)) s11 (.own (.lst (B.map prD))) s13 s14 s15) := by
  have q35 : P36 35 = F35 := rfl
  have e35 := law_is_curve_ok hB
  obtain ⟨x, hx, sx⟩ := repr_curve (c := B) (fun p hp => by have := hB.small p hp; omega) (by have := hB.len; omega)
  have he := eqD_str sx sx
  simp only [curveD] at *
  simp [en, ex, exs, ev, evT, opds, opd, args, callS, evC, popS, q35, e35, biS, tyS, hx, he, cmpS, putBack, truthD, vB, Sl.d, SR.of]
theorem eq_fit (h : Cv) : eqD (fitD h) fitsD = some h.isEmpty := by
  cases h with
  | nil => exact eq_fits_fits
  | cons p r => exact eq_more_fits p
theorem st17 {c o : Cv} {t : List Int} (hc : Curve c) (ho : Curve o) (hl : c.length + o.length ≤ 8) (ht : Traf t) : ex P36 CC (.ite (.cmp .NotEq (.cmp .Eq (.call 16 [(.var 10), (.var 3)]) (.tup [(.str "fits")])) (.cmp .Eq (.call 11 [(.bop .Add (.var 2) (.var 9)), (.var 3)]) (.lst []))) [.ret (.bl false)] []) (en s0 s1 (.val (curveD c)) (.val (trafD t)) s4 s5 s6 s7 s8 (.val (curveD o)) (.val (curveD (leastOf (c ++ o)))) s11 s12 s13 s14 s15) = .nx (en s0 s1 (.val (curveD c)) (.val (trafD t)) s4 s5 s6 s7 s8 (.val (curveD o)) (.val (curveD (leastOf (c ++ o)))) s11 s12 s13 s14 s15) := by
  have q16 : P36 16 = F16 := rfl
  have q11 : P36 11 = F11 := rfl
  have ne : c ++ o ≠ [] := by
    intro e
    exact hc.ne (List.append_eq_nil_iff.mp e).1
  have e16 := fits_ok (both_curve hc ho hl) ht
  rw [hits_least ne] at e16
  have e11 := law_too_much_ok (c := c ++ o) ⟨ne, by simp; omega, fun p hp => by
    rcases List.mem_append.mp hp with h | h
    · exact hc.small p h
    · exact ho.small p h⟩ ht.len
  have n1 := eq_fit (hits (c ++ o) t)
  have n2 := eq_prs_nil (hits (c ++ o) t)
  have hz : c.length + o.length ≤ 16777216 := by omega
  obtain ⟨h, hh⟩ : ∃ h, h = hits (c ++ o) t := ⟨_, rfl⟩
  rw [← hh] at e16 e11 n1 n2
  have ba : ev P36 CC (.bop .Add (.var 2) (.var 9)) (en s0 s1 (.val (curveD c)) (.val (trafD t)) s4 s5 s6 s7 s8 (.val (curveD o)) (.val (curveD (leastOf (c ++ o)))) s11 s12 s13 s14 s15) = .ok (.val (curveD (c ++ o))) (en s0 s1 (.val (curveD c)) (.val (trafD t)) s4 s5 s6 s7 s8 (.val (curveD o)) (.val (curveD (leastOf (c ++ o)))) s11 s12 s13 s14 s15) := by
    simp [en, ev, opd, curveD, bopS, hz, Sl.d, sizeLine_eq]
  have a1 : ev P36 CC (.call 16 [(.var 10), (.var 3)]) (en s0 s1 (.val (curveD c)) (.val (trafD t)) s4 s5 s6 s7 s8 (.val (curveD o)) (.val (curveD (leastOf (c ++ o)))) s11 s12 s13 s14 s15) = .ok (.val (fitD h)) (en s0 s1 (.val (curveD c)) (.val (trafD t)) s4 s5 s6 s7 s8 (.val (curveD o)) (.val (curveD (leastOf (c ++ o)))) s11 s12 s13 s14 s15) := by
    simp [en, ev, args, callS, evC, popS, q16, e16, putBack]
  have a2 : ev P36 CC (.call 11 [(.bop .Add (.var 2) (.var 9)), (.var 3)]) (en s0 s1 (.val (curveD c)) (.val (trafD t)) s4 s5 s6 s7 s8 (.val (curveD o)) (.val (curveD (leastOf (c ++ o)))) s11 s12 s13 s14 s15) = .ok (.own (.lst (h.map prD))) (en s0 s1 (.val (curveD c)) (.val (trafD t)) s4 s5 s6 s7 s8 (.val (curveD o)) (.val (curveD (leastOf (c ++ o)))) s11 s12 s13 s14 s15) := by
    have ar : args P36 CC [(.bop .Add (.var 2) (.var 9)), (.var 3)] = [.ex (ev P36 CC (.bop .Add (.var 2) (.var 9))), .slot 3] := by simp only [args]
    rw [ev, ar]
    simp only [callS, evC, s_bind2, ba, s_ok]
    simp [en, popS, q11, e11, putBack, putBack_ex]
  have b1 : ev P36 CC (.cmp .Eq (.call 16 [(.var 10), (.var 3)]) (.tup [(.str "fits")])) (en s0 s1 (.val (curveD c)) (.val (trafD t)) s4 s5 s6 s7 s8 (.val (curveD o)) (.val (curveD (leastOf (c ++ o)))) s11 s12 s13 s14 s15) = .ok (.val (.bl h.isEmpty)) (en s0 s1 (.val (curveD c)) (.val (trafD t)) s4 s5 s6 s7 s8 (.val (curveD o)) (.val (curveD (leastOf (c ++ o)))) s11 s12 s13 s14 s15) := by
    have o1 : opd P36 CC (.call 16 [(.var 10), (.var 3)]) = .ex (ev P36 CC (.call 16 [(.var 10), (.var 3)])) := by simp only [opd]
    rw [ev_cmp, s_bind, o1, s_evA2, a1, s_ok]
    simp only [fitsD] at n1
    simp [opd, ev, evD, cmpS, n1, vB, Sl.d, sizeLine_eq]
  have b2 : ev P36 CC (.cmp .Eq (.call 11 [(.bop .Add (.var 2) (.var 9)), (.var 3)]) (.lst [])) (en s0 s1 (.val (curveD c)) (.val (trafD t)) s4 s5 s6 s7 s8 (.val (curveD o)) (.val (curveD (leastOf (c ++ o)))) s11 s12 s13 s14 s15) = .ok (.val (.bl h.isEmpty)) (en s0 s1 (.val (curveD c)) (.val (trafD t)) s4 s5 s6 s7 s8 (.val (curveD o)) (.val (curveD (leastOf (c ++ o)))) s11 s12 s13 s14 s15) := by
    have o1 : opd P36 CC (.call 11 [(.bop .Add (.var 2) (.var 9)), (.var 3)]) = .ex (ev P36 CC (.call 11 [(.bop .Add (.var 2) (.var 9)), (.var 3)])) := by simp only [opd]
    rw [ev_cmp, s_bind, o1, s_evA2, a2, s_ok]
    simp [opd, ev, evD, cmpS, n2, vB, Sl.d, sizeLine_eq]
  rw [x_ite, evT_cmpK, opd_cmp, s_bind, s_evA2, ev_cmp, opd_cmp, opd_cmp, s_bind, s_evA2, b1, s_ok, s_evA2, b2, s_ok]
  simp [cmpS, eqD_bl, truthD, vB, Sl.d, SR.of, exs]
end
end Lw
end

section
set_option Elab.async false
set_option linter.all false
set_option maxRecDepth 100000
set_option maxHeartbeats 1000000
/-! K34: the whole law -/
namespace Lw
open PySem L2
def lapB : List S := [.setT (.tup [(.nm 2), (.nm 3)]) (.tup [(.call 4 [(.var 0)]), (.call 10 [(.var 0), (.int 12)])]),
  .set 4 (.ty .int [(.call 3 [(.var 0), (.lst [(.int 0), (.int 1), (.int 2), (.int 7), (.int 100), (.bop .Pow (.int 10) (.int 6))])])]),
  .ite (.cmp .NotEq (.bi .repr [(.call 26 [(.var 2), (.var 4)])]) (.bi .repr [(.call 0 [(.var 2), (.var 4)])])) [.ret (.bl false)] [],
  .ite (.orV (.notV (.call 25 [(.var 0), (.var 2), (.var 3)])) (.notV (.call 32 [(.var 2), (.var 3)]))) [.ret (.bl false)] [],
  .set 5 (.call 1 [(.var 2), (.int 10)]),
  .ite (.notV (.call 25 [(.var 0), (.var 2), (.var 5)])) [.ret (.bl false)] [],
  .set 6 (.ty .int [(.call 2 [(.var 0), (.int 12)])]),
  .set 7 (.lst [(.int 0)]),
  .for_ (.nm 8) (.rng1 (.bi .len [(.var 3)])) bodyB,
  .ite (.cmp .NotEq (.bi .repr [(.call 33 [(.var 3), (.var 6)])]) (.bi .repr [(.bi .max [(.var 7)])])) [.ret (.bl false)] [],
  .set 9 (.call 4 [(.var 0)]),
  .set 10 (.call 9 [(.var 2), (.var 9)]),
  .set 11 (.lc (.fz 13) (.nm 13) (.bop .Add (.var 2) (.var 9)) [] [13]),
  .set 12 (.lst []),
  .for_ (.nm 13) (.sset (.var 11)) bodyL,
  .ite (.orV (.cmp .NotEq (.bi .repr [(.var 10)]) (.bi .repr [(.ty .tuple [(.var 12)])])) (.notV (.call 35 [(.var 10)]))) [.ret (.bl false)] [],
  .ite (.cmp .NotEq (.cmp .Eq (.call 16 [(.var 10), (.var 3)]) (.tup [(.str "fits")])) (.cmp .Eq (.call 11 [(.bop .Add (.var 2) (.var 9)), (.var 3)]) (.lst []))) [.ret (.bl false)] []]
theorem b36 : B36 = [.for_ (.nm 1) (.rng1 (.int 3)) lapB, .ret (.bl true)] := rfl
theorem lap_ok {n : Int} {l : List D} {s1 s2 s3 s4 s5 s6 s7 s8 s9 s10 s11 s12 s13 s14 s15 : Sl} (hn : n < 2 ^ 15) (h : PotOk n l) (h13 : ∀ d, s13 ≠ .own d) :
    ∃ l' s2' s3' s4' s5' s6' s7' s8' s9' s10' s11' s12' s13' s14' s15', PotOk (n + 100) l' ∧ (∀ d, s13' ≠ .own d) ∧ exs P36 CC lapB (en (.own (.lst l)) s1 s2 s3 s4 s5 s6 s7 s8 s9 s10 s11 s12 s13 s14 s15) = .nx (en (.own (.lst l')) s1 s2' s3' s4' s5' s6' s7' s8' s9' s10' s11' s12' s13' s14' s15') := by
  have h13b : s13 = .no ∨ ∃ d, s13 = .val d := by
    cases s13 with
    | no => exact .inl rfl
    | val d => exact .inr ⟨d, rfl⟩
    | own d => exact absurd rfl (h13 d)
  obtain ⟨c, t, l1, dc, hl, ht, p1, e1⟩ := st1 (s1 := s1) (s2 := s2) (s3 := s3) (s4 := s4) (s5 := s5) (s6 := s6) (s7 := s7) (s8 := s8) (s9 := s9) (s10 := s10) (s11 := s11) (s12 := s12) (s13 := s13) (s14 := s14) (s15 := s15) (by omega) h
  have cc := dc.curve
  have tr : Traf t := ⟨by omega, fun x hx => by have := ht x hx; omega⟩
  obtain ⟨k, l2, hk, p2, e2⟩ := st2 (s1 := s1) (s2 := .val (curveD c)) (s3 := .val (trafD t)) (s4 := s4) (s5 := s5) (s6 := s6) (s7 := s7) (s8 := s8) (s9 := s9) (s10 := s10) (s11 := s11) (s12 := s12) (s13 := s13) (s14 := s14) (s15 := s15) (by omega) p1
  obtain ⟨l4, p4, e4⟩ := st4 (s1 := s1) (s4 := .val (.int k)) (s5 := s5) (s6 := s6) (s7 := s7) (s8 := s8) (s9 := s9) (s10 := s10) (s11 := s11) (s12 := s12) (s13 := s13) (s14 := s14) (s15 := s15) cc hl ht (by omega) p2
  obtain ⟨l6, p6, e6⟩ := st6 (s1 := s1) (s3 := .val (trafD t)) (s4 := .val (.int k)) (s6 := s6) (s7 := s7) (s8 := s8) (s9 := s9) (s10 := s10) (s11 := s11) (s12 := s12) (s13 := s13) (s14 := s14) (s15 := s15) dc (by omega) p4
  obtain ⟨r, l7, hr, p7, e7⟩ := st7 (s1 := s1) (s2 := .val (curveD c)) (s3 := .val (trafD t)) (s4 := .val (.int k)) (s5 := .val (trafD (fullZ c))) (s6 := s6) (s7 := s7) (s8 := s8) (s9 := s9) (s10 := s10) (s11 := s11) (s12 := s12) (s13 := s13) (s14 := s14) (s15 := s15) (by omega) p6
  obtain ⟨s8', s14', e9⟩ := st9 (s0 := .own (.lst l7)) (s1 := s1) (s2 := .val (curveD c)) (s4 := .val (.int k)) (s5 := .val (trafD (fullZ c))) (s8 := s8) (s9 := s9) (s10 := s10) (s11 := s11) (s12 := s12) (s13 := s13) (s14 := s14) (s15 := s15) tr.len hr
  obtain ⟨o, l11, dO, p11, e11⟩ := st11 (s1 := s1) (s2 := .val (curveD c)) (s3 := .val (trafD t)) (s4 := .val (.int k)) (s5 := .val (trafD (fullZ c))) (s6 := .val (.int r)) (s7 := .own (intL (burTo t r t.length))) (s8 := s8') (s9 := s9) (s10 := s10) (s11 := s11) (s12 := s12) (s13 := s13) (s14 := s14') (s15 := s15) (by omega) p7
  have co := dO.curve
  have hlen : c.length + o.length ≤ 8 := by have := dc.2.1; have := dO.2.1; omega
  have hA : (c ++ o).length ≤ 60 := by rw [List.length_append]; omega
  have hb : ∀ p ∈ c ++ o, (0 ≤ p.1 ∧ p.1 < 2 ^ 31) ∧ (0 ≤ p.2 ∧ p.2 < 2 ^ 31) := fun p hp => by
    rcases List.mem_append.mp hp with h | h
    · have := cc.small p h; omega
    · have := co.small p h; omega
  obtain ⟨s11', s13', s15', n13, e15⟩ := st15 (s0 := .own (.lst l11)) (s1 := s1) (s2 := .val (curveD c)) (s3 := .val (trafD t)) (s4 := .val (.int k)) (s5 := .val (trafD (fullZ c))) (s6 := .val (.int r)) (s7 := .own (intL (burTo t r t.length))) (s8 := s8') (s9 := .val (curveD o)) (s10 := .val (curveD (leastOf (c ++ o)))) (s14 := s14') (s15 := s15) hA hb h13
  refine ⟨l11, .val (curveD c), .val (trafD t), .val (.int k), .val (trafD (fullZ c)), .val (.int r), .own (intL (burTo t r t.length)), s8', .val (curveD o), .val (curveD (leastOf (c ++ o))), s11', .own (.lst ((leastOf (c ++ o)).map prD)), s13', s14', s15', p11.mono (by omega), n13, ?_⟩
  unfold lapB
  rw [x_exs1, e1, s_nx, x_exs1, e2, s_nx, x_exs1, st3 cc hk, s_nx, x_exs1, e4, s_nx, x_exs1, st5 cc, s_nx, x_exs1, e6, s_nx, x_exs1, e7, s_nx, x_exs1, st8, s_nx, x_exs1, e9, s_nx, x_exs1, st10 hl ht hr, s_nx, x_exs1, e11, s_nx, x_exs1, st12 cc co hlen, s_nx, x_exs1, st13 hlen h13 h13b, s_nx, x_exs1, st14, s_nx, x_exs1, e15, s_nx, x_exs1, st16 (both_curve cc co hlen), s_nx, x_exs1, st17 cc co hlen tr, s_nx, x_exs0]
theorem right_ok {l : List D} (h : PotOk 0 l) : ∃ E, F36 [.own (.lst l)] = .ok (vB true) E := by
  obtain ⟨E', el⟩ := forI_ind (bt := bindT (.nm 1)) (b := exs P36 CC lapB) (fun i E => ∃ l' s1 s2 s3 s4 s5 s6 s7 s8 s9 s10 s11 s12 s13 s14 s15, PotOk (100 * i) l' ∧ (∀ d, s13 ≠ .own d) ∧ E = en (.own (.lst l')) s1 s2 s3 s4 s5 s6 s7 s8 s9 s10 s11 s12 s13 s14 s15)
    (fun R => ∃ E, R = .nx E) (rngD 0 3)
    (fun i E d hd ⟨l', s1, s2, s3, s4, s5, s6, s7, s8, s9, s10, s11, s12, s13, s14, s15, hp, h13, eE⟩ => by
      subst eE
      obtain ⟨rfl, hi⟩ := rng2_get hd
      refine ⟨en (.own (.lst l')) (.val (.int (0 + i))) s2 s3 s4 s5 s6 s7 s8 s9 s10 s11 s12 s13 s14 s15, by simp [bindT, en], ?_⟩
      obtain ⟨l2, t2, t3, t4, t5, t6, t7, t8, t9, t10, t11, t12, t13, t14, t15, hp2, n13, e⟩ := lap_ok (s1 := .val (.int (0 + i))) (s2 := s2) (s3 := s3) (s4 := s4) (s5 := s5) (s6 := s6) (s7 := s7) (s8 := s8) (s9 := s9) (s10 := s10) (s11 := s11) (s12 := s12) (s13 := s13) (s14 := s14) (s15 := s15) (by omega) hp h13
      rw [e]
      exact ⟨l2, _, t2, t3, t4, t5, t6, t7, t8, t9, t10, t11, t12, t13, t14, t15, by rw [show (100 : Int) * ((i + 1 : Nat) : Int) = 100 * (i : Int) + 100 by omega]; exact hp2, n13, rfl⟩)
    (fun E _ => ⟨E, rfl⟩)
    (en (.own (.lst l)) .no .no .no .no .no .no .no .no .no .no .no .no .no .no .no) ⟨l, .no, .no, .no, .no, .no, .no, .no, .no, .no, .no, .no, .no, .no, .no, .no, by simpa using h, fun d => by simp, rfl⟩
  have er : evI P36 CC (.rng1 (.int 3)) (en (.own (.lst l)) .no .no .no .no .no .no .no .no .no .no .no .no .no .no .no) = .ok (rngD 0 3) (en (.own (.lst l)) .no .no .no .no .no .no .no .no .no .no .no .no .no .no .no) := by
    simp [evI, ev, vI]
  have eB : exs P36 CC B36 ([.own (.lst l)] ++ List.replicate (18 - [Sl.own (.lst l)].length) Sl.no) = .rt (vB true) E' := by
    show exs P36 CC B36 (en (.own (.lst l)) .no .no .no .no .no .no .no .no .no .no .no .no .no .no .no) = _
    rw [b36, x_exs1, x_for, er]
    simp only [SR.of, el, s_nx]
    simp [exs, ex, ev, vB, SR.of, SR.then]
  unfold F36 fnS
  rw [eB]
  exact ⟨_, rfl⟩
theorem plain (ns : List Int) (hz : ns.length ≤ 63) : ∃ E, F39 [.val (.scr ns)] = .ok (.val (.bl true)) E := law_of (fun l h => right_ok h) ns hz
end Lw
end

set_option Elab.async false
set_option linter.all false
set_option maxRecDepth 100000
set_option maxHeartbeats 0
open PySem PySem.W PySem.Calls PyProof.Rows
theorem PySem.Challenge.cw_howeveritpasses_k83_whole_traffic_that_f_holds : PySem.Challenge.rw_howeveritpasses_k83_whole_traffic_that_f.Holds := by
  w_on; o_law
  refine HandSHeadRun.head_any (r := OpenLaw.row PySem.Challenge.rw_howeveritpasses_k83_whole_traffic_that_f) (q := view (OpenLaw.row PySem.Challenge.rw_howeveritpasses_k83_whole_traffic_that_f).prog [52])
    (H := Lw.hk) (ob := Lw.ob) (M := 3000) (loose := Lw.loose) (d := HandSHeadRun.topDef (OpenLaw.row PySem.Challenge.rw_howeveritpasses_k83_whole_traffic_that_f).prog 52) (kwd := []) Lw.ob_eq
    (by kernel_rfl) (fun s => by kernel_rfl) Lw.run (by kernel_rfl) (by kernel_rfl) (by kernel_rfl) (by rfl) (by first | assumption | decide +kernel)
    (by decide +kernel) ⟨rfl, rfl, rfl, rfl, rfl, by decide +kernel⟩ ?hw ?hc
  case hw => w_witness2
  case hc =>
    refine Lw.walk_end (l := PySem.Challenge.rw_howeveritpasses_k83_whole_traffic_that_f) (n := 63) (k := 40) (x := "script") rfl (by decide) (by kernel_rfl) ⟨rfl, by decide, by decide⟩ ?F
    intro w mg fa h Y G hmg0
    obtain ⟨K, KX, c⟩ := Y
    have hmg : mg ("law" : PySem.Str) = some (.ref fa) := by
      have e : (HandSHeadRun.topDef (OpenLaw.row PySem.Challenge.rw_howeveritpasses_k83_whole_traffic_that_f).prog 52).name = ("law" : PySem.Str) := by kernel_rfl
      rw [← e]; exact hmg0
    obtain ⟨fd, hb, hF⟩ := Lw.facts (P := (PySem.Challenge.rw_howeveritpasses_k83_whole_traffic_that_f).prog) (w := w) KX G hmg c
    exact ⟨K, fd, Lw.F39, KX, hb, fun ns hl => Lw.plain ns hl, hF⟩
