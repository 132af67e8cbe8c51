import PyProof.Rows.All
import HandS.ForMost
import HandS.ForExc
import HandS.Wide
import HandS.Defaults
import HandS.CallSlots
import HandS.Lambda
import HandS.Deep
import HandS.IsInst
import HandS.TupAny
import HandS.Style
import HandS.SortInts
import KE.SortData
import PyProof.ReprRoads
import HandS.WordsDict
import HandS.More
import HandS.Star
import KE.GoesEnum
import HandS.Iter
import HandS.Zip
import HandS.Small
import HandS.Text
import HandS.TupSets
import HandS.Keys
import HandS.Conv
import HandS.Codes
import HandS.Head0
import HandS.Head1
import HandS.Head2
import HandS.HeadEnd
import HandS.HeadHook1
import HandS.HeadHook2
import HandS.HeadHook4
import HandS.EndBits
import KE.KStateDown
import HandS.Words
import HandS.WordsExc
import PySem.Challenge.RW_howeveritpasses_k84_whole_how_late_and_h
section
set_option Elab.async false
set_option linter.all false
set_option maxRecDepth 100000
set_option autoImplicit true
set_option maxHeartbeats 4000000
/-! L1: data as trees, how they lie in the abstract heap, slots -/
namespace Lw
open PySem L2

/-- a value as data -/
inductive D where
  | non | bl (b : Bool) | int (i : Int) | str (x : Str) | ty (n : String)
  | tup (xs : List D) | lst (xs : List D)
  /-- the script: a list of ints that is read alone -/
  | scr (ns : List Int)
  | dk (ks : List Key) (vs : List D)
  | dt (ks : List (List Key)) (vs : List D)
  deriving Inhabited

/-- what a slot holds: nothing; data that is never changed; a list or dict that this slot alone holds -/
inductive Sl where
  | no | val (d : D) | own (d : D)
  deriving Inhabited
def Sl.d : Sl → D
  | .no => .non
  | .val d => d
  | .own d => d

abbrev SE := List Sl

/-- objects that may be changed -/
def Mu : HO → Prop
  | .lst _ => True
  | .dK _ => True
  | .dT _ => True
  | .ins _ _ _ => True
  | _ => False

/-- the script, read alone -/
def Scr (K : PySem.W.Frag) (H : Hp) (a : Addr) (ns : List Int) : Prop := (∃ o, H a = some (.frz o (.lst (ns.map V.int)))) ∨
  ∃ (o : Obj) (its : Array Value) (n : Nat), K.lookup a = some o ∧ o.cls = .type "list" ∧ o.dict = none ∧ o.data = .seq its n ∧ its.size ≤ sizeLine ∧ Vals (ns.map V.int) its.toList
theorem Scr.sq {K : PySem.W.Frag} {H : Hp} {a : Addr} {ns : List Int} (h : Scr K H a ns) : SqL K H a (ns.map V.int) := by
  rcases h with h | h
  · exact .inl (.inr h)
  · exact .inr h
section
variable (K : PySem.W.Frag) (H : Hp)
mutual
/-- v is d; S: the addresses of what may be changed within -/
inductive Rep : V → D → List Addr → Prop
  | non : Rep .non .non []
  | bl (b) : Rep (.bl b) (.bl b) []
  | int (i) : Rep (.int i) (.int i) []
  | str (x) : Rep (.str x) (.str x) []
  | ty (n) : Rep (.ty n) (.ty n) []
  | tup {a vs ds S} : SqT K H a vs → Reps vs ds S → Rep (.ref a) (.tup ds) S
  | lst {a vs ds S} : H a = some (.lst vs) → Reps vs ds S → Rep (.ref a) (.lst ds) (a :: S)
  | scr {a} {ns : List Int} : Scr K H a ns → Rep (.ref a) (.scr ns) []
  | dk {a ks vs ds S} : H a = some (.dK (ks.zip vs)) → ks.length = vs.length → Reps vs ds S → Rep (.ref a) (.dk ks ds) (a :: S)
  | dt {a ks vs ds S} : H a = some (.dT (ks.zip vs)) → ks.length = vs.length → Reps vs ds S → Rep (.ref a) (.dt ks ds) (a :: S)
inductive Reps : List V → List D → List Addr → Prop
  | nil : Reps [] [] []
  | cons {v d S vs ds S'} : Rep v d S → Reps vs ds S' → Reps (v :: vs) (d :: ds) (S ++ S')
end

/-- the content of v is d; S: what may be changed within, without v's own object -/
inductive Top : V → D → List Addr → Prop
  | sc {v d S} : Rep K H v d S → (match d with | .lst _ => False | .dk _ _ => False | .dt _ _ => False | _ => True) → Top v d S
  | lst {a vs ds S} : H a = some (.lst vs) → Reps K H vs ds S → Top (.ref a) (.lst ds) S
  | dk {a ks vs ds S} : H a = some (.dK (ks.zip vs)) → ks.length = vs.length → Reps K H vs ds S → Top (.ref a) (.dk ks ds) S
  | dt {a ks vs ds S} : H a = some (.dT (ks.zip vs)) → ks.length = vs.length → Reps K H vs ds S → Top (.ref a) (.dt ks ds) S

/-- the object at a is d, and may be changed; S: what may be changed within it -/
inductive OwnR : Addr → D → List Addr → Prop
  | lst {a vs ds S} : H a = some (.lst vs) → Reps K H vs ds S → OwnR a (.lst ds) S
  | dk {a ks vs ds S} : H a = some (.dK (ks.zip vs)) → ks.length = vs.length → Reps K H vs ds S → OwnR a (.dk ks ds) S
  | dt {a ks vs ds S} : H a = some (.dT (ks.zip vs)) → ks.length = vs.length → Reps K H vs ds S → OwnR a (.dt ks ds) S
end

theorem OwnR.top {K H a d S} (h : OwnR K H a d S) : Top K H (.ref a) d S := by
  cases h with
  | lst h1 h2 => exact .lst h1 h2
  | dk h1 h2 h3 => exact .dk h1 h2 h3
  | dt h1 h2 h3 => exact .dt h1 h2 h3
theorem OwnR.mu {K H a d S} (h : OwnR K H a d S) : ∃ o, H a = some o ∧ Mu o := by
  cases h with
  | lst h1 h2 => exact ⟨_, h1, trivial⟩
  | dk h1 h2 h3 => exact ⟨_, h1, trivial⟩
  | dt h1 h2 h3 => exact ⟨_, h1, trivial⟩
theorem OwnR.rep {K H a d S} (h : OwnR K H a d S) : Rep K H (.ref a) d (a :: S) := by
  cases h with
  | lst h1 h2 => exact .lst h1 h2
  | dk h1 h2 h3 => exact .dk h1 h2 h3
  | dt h1 h2 h3 => exact .dt h1 h2 h3
theorem Rep.top {K H v d S} (h : Rep K H v d S) : ∃ S', Top K H v d S' ∧ ∀ a ∈ S', a ∈ S := by
  cases h with
  | lst h1 h2 => exact ⟨_, .lst h1 h2, fun a h => List.mem_cons_of_mem _ h⟩
  | scr h1 => exact ⟨_, .sc (.scr h1) trivial, fun a h => h⟩
  | dk h1 h2 h3 => exact ⟨_, .dk h1 h2 h3, fun a h => List.mem_cons_of_mem _ h⟩
  | dt h1 h2 h3 => exact ⟨_, .dt h1 h2 h3, fun a h => List.mem_cons_of_mem _ h⟩
  | tup h1 h2 => exact ⟨_, .sc (.tup h1 h2) trivial, fun a h => h⟩
  | non => exact ⟨_, .sc .non trivial, fun a h => h⟩
  | bl b => exact ⟨_, .sc (.bl b) trivial, fun a h => h⟩
  | int b => exact ⟨_, .sc (.int b) trivial, fun a h => h⟩
  | str b => exact ⟨_, .sc (.str b) trivial, fun a h => h⟩
  | ty b => exact ⟨_, .sc (.ty b) trivial, fun a h => h⟩

/-- H' keeps: all that can't be changed, and what stands at S -/
def Kp (S : Addr → Prop) (H H' : Hp) : Prop := ∀ a o, H a = some o → (∀ ps, o ≠ .tbl ps) → (S a ∨ ¬ Mu o) → H' a = some o
theorem Kp.sqT {K H H' a vs} {S : Addr → Prop} (k : Kp S H H') (h : SqT K H a vs) : SqT K H' a vs := by
  rcases h with (h | ⟨o, h⟩) | h
  · exact .inl (.inl (k _ _ h (fun _ z => nomatch z) (.inr fun z => z)))
  · exact .inl (.inr ⟨o, k _ _ h (fun _ z => nomatch z) (.inr fun z => z)⟩)
  · exact .inr h
theorem Kp.scr {K H H' a ns} {S : Addr → Prop} (k : Kp S H H') (h : Scr K H a ns) : Scr K H' a ns := by
  rcases h with ⟨o, h⟩ | h
  · exact .inl ⟨o, k _ _ h (fun _ z => nomatch z) (.inr fun z => z)⟩
  · exact .inr h
mutual
theorem Rep.keep {K H H'} {T : Addr → Prop} (k : Kp T H H') : ∀ {v d S}, Rep K H v d S → (∀ a ∈ S, T a) → Rep K H' v d S
  | _, _, _, .non, _ => .non
  | _, _, _, .bl b, _ => .bl b
  | _, _, _, .int b, _ => .int b
  | _, _, _, .str b, _ => .str b
  | _, _, _, .ty b, _ => .ty b
  | _, _, _, .tup h r, hS => .tup (k.sqT h) (Reps.keep k r hS)
  | _, _, _, .scr h, hS => .scr (k.scr h)
  | _, _, _, .lst h r, hS => .lst (k _ _ h (fun _ z => nomatch z) (.inl (hS _ (List.mem_cons_self ..)))) (Reps.keep k r fun a ha => hS a (List.mem_cons_of_mem _ ha))
  | _, _, _, .dk h e r, hS => .dk (k _ _ h (fun _ z => nomatch z) (.inl (hS _ (List.mem_cons_self ..)))) e (Reps.keep k r fun a ha => hS a (List.mem_cons_of_mem _ ha))
  | _, _, _, .dt h e r, hS => .dt (k _ _ h (fun _ z => nomatch z) (.inl (hS _ (List.mem_cons_self ..)))) e (Reps.keep k r fun a ha => hS a (List.mem_cons_of_mem _ ha))
theorem Reps.keep {K H H'} {T : Addr → Prop} (k : Kp T H H') : ∀ {v d S}, Reps K H v d S → (∀ a ∈ S, T a) → Reps K H' v d S
  | _, _, _, .nil, _ => .nil
  | _, _, _, .cons h r, hS => .cons (Rep.keep k h fun a ha => hS a (List.mem_append_left _ ha)) (Reps.keep k r fun a ha => hS a (List.mem_append_right _ ha))
end
theorem OwnR.keep {K H H' a d S} {T : Addr → Prop} (k : Kp T H H') (h : OwnR K H a d S) (ha : T a) (hS : ∀ a ∈ S, T a) : OwnR K H' a d S := by
  cases h with
  | lst h1 h2 => exact .lst (k _ _ h1 (fun _ z => nomatch z) (.inl ha)) (h2.keep k hS)
  | dk h1 h2 h3 => exact .dk (k _ _ h1 (fun _ z => nomatch z) (.inl ha)) h2 (h3.keep k hS)
  | dt h1 h2 h3 => exact .dt (k _ _ h1 (fun _ z => nomatch z) (.inl ha)) h2 (h3.keep k hS)

mutual
theorem Rep.dom {K H} : ∀ {v d S}, Rep K H v d S → ∀ a ∈ S, ∃ o, H a = some o
  | _, _, _, .non, _, h => nomatch h
  | _, _, _, .bl b, _, h => nomatch h
  | _, _, _, .int b, _, h => nomatch h
  | _, _, _, .str b, _, h => nomatch h
  | _, _, _, .ty b, _, h => nomatch h
  | _, _, _, .tup _ r, a, h => Reps.dom r a h
  | _, _, _, .scr _, _, h => nomatch h
  | _, _, _, .lst q r, a, h => (List.mem_cons.mp h).elim (fun e => by subst e; exact ⟨_, q⟩) (Reps.dom r a)
  | _, _, _, .dk q _ r, a, h => (List.mem_cons.mp h).elim (fun e => by subst e; exact ⟨_, q⟩) (Reps.dom r a)
  | _, _, _, .dt q _ r, a, h => (List.mem_cons.mp h).elim (fun e => by subst e; exact ⟨_, q⟩) (Reps.dom r a)
theorem Reps.dom {K H} : ∀ {v d S}, Reps K H v d S → ∀ a ∈ S, ∃ o, H a = some o
  | _, _, _, .nil, _, h => nomatch h
  | _, _, _, .cons h r, a, hS => (List.mem_append.mp hS).elim (Rep.dom h a) (Reps.dom r a)
end
theorem Reps.length {K H} : ∀ {vs ds S}, Reps K H vs ds S → vs.length = ds.length
  | _, _, _, .nil => rfl
  | _, _, _, .cons _ r => by simp [r.length]
theorem Reps.get {K H} : ∀ {vs ds S} {i : Nat} {d : D}, Reps K H vs ds S → ds[i]? = some d → ∃ v S', vs[i]? = some v ∧ Rep K H v d S' ∧ ∀ a ∈ S', a ∈ S
  | _, _, _, i, d, .nil, e => by simp at e
  | _, _, _, 0, d, .cons h r, e => by simp at e; subst e; exact ⟨_, _, rfl, h, fun a ha => List.mem_append_left _ ha⟩
  | _, _, _, i + 1, d, .cons h r, e => by
    obtain ⟨v, S', e1, h1, h2⟩ := r.get (i := i) (d := d) (by simpa using e)
    exact ⟨v, S', by simpa using e1, h1, fun a ha => List.mem_append_right _ (h2 a ha)⟩
theorem Reps.getV {K H} : ∀ {vs ds S} {i : Nat} {v : V}, Reps K H vs ds S → vs[i]? = some v → ∃ d S', ds[i]? = some d ∧ Rep K H v d S' ∧ ∀ a ∈ S', a ∈ S := fun {vs ds S i v} h e => by
  have hi : i < ds.length := by rw [← h.length]; exact (List.getElem?_eq_some_iff.mp e).1
  obtain ⟨v', S', e1, h1, h2⟩ := h.get (i := i) (d := ds[i]) (by simp [hi])
  rw [e] at e1; cases e1
  exact ⟨_, S', by simp [hi], h1, h2⟩
/-- Reps with any bound of the addresses -/
def RepsB (K : PySem.W.Frag) (H : Hp) (T : Addr → Prop) (vs : List V) (ds : List D) : Prop := ∃ S, Reps K H vs ds S ∧ ∀ a ∈ S, T a
def RepB (K : PySem.W.Frag) (H : Hp) (T : Addr → Prop) (v : V) (d : D) : Prop := ∃ S, Rep K H v d S ∧ ∀ a ∈ S, T a
def TopB (K : PySem.W.Frag) (H : Hp) (T : Addr → Prop) (v : V) (d : D) : Prop := ∃ S, Top K H v d S ∧ ∀ a ∈ S, T a
def OwnB (K : PySem.W.Frag) (H : Hp) (T : Addr → Prop) (a : Addr) (d : D) : Prop := ∃ S, OwnR K H a d S ∧ ∀ b ∈ S, T b
section
variable {K : PySem.W.Frag} {H H' : Hp} {T : Addr → Prop}
theorem RepsB.nil : RepsB K H T [] [] := ⟨[], .nil, fun _ h => nomatch h⟩
theorem RepsB.cons {v d vs ds} (h : RepB K H T v d) (r : RepsB K H T vs ds) : RepsB K H T (v :: vs) (d :: ds) := by
  obtain ⟨S, h1, h2⟩ := h
  obtain ⟨S', h3, h4⟩ := r
  exact ⟨S ++ S', .cons h1 h3, fun a ha => (List.mem_append.mp ha).elim (h2 a) (h4 a)⟩
theorem RepsB.uncons {v d vs ds} (h : RepsB K H T (v :: vs) (d :: ds)) : RepB K H T v d ∧ RepsB K H T vs ds := by
  obtain ⟨S, h1, h2⟩ := h
  cases h1 with
  | cons h r => exact ⟨⟨_, h, fun a ha => h2 a (List.mem_append_left _ ha)⟩, ⟨_, r, fun a ha => h2 a (List.mem_append_right _ ha)⟩⟩
theorem RepsB.length {vs ds} (h : RepsB K H T vs ds) : vs.length = ds.length := let ⟨_, h, _⟩ := h; h.length
theorem RepsB.append : ∀ {vs ds vs' ds'}, RepsB K H T vs ds → RepsB K H T vs' ds' → RepsB K H T (vs ++ vs') (ds ++ ds')
  | [], [], _, _, _, r => r
  | v :: vs, d :: ds, _, _, h, r => by
    obtain ⟨h1, h2⟩ := h.uncons
    exact .cons h1 (RepsB.append h2 r)
  | [], d :: ds, _, _, h, r => by have := h.length; simp at this
  | v :: vs, [], _, _, h, r => by have := h.length; simp at this
theorem RepsB.get {vs ds} {i : Nat} {d : D} (h : RepsB K H T vs ds) (e : ds[i]? = some d) : ∃ v, vs[i]? = some v ∧ RepB K H T v d := by
  obtain ⟨S, h1, h2⟩ := h
  obtain ⟨v, S', e1, h3, h4⟩ := h1.get e
  exact ⟨v, e1, S', h3, fun a ha => h2 a (h4 a ha)⟩
theorem RepsB.getV {vs ds} {i : Nat} {v : V} (h : RepsB K H T vs ds) (e : vs[i]? = some v) : ∃ d, ds[i]? = some d ∧ RepB K H T v d := by
  obtain ⟨S, h1, h2⟩ := h
  obtain ⟨v, S', e1, h3, h4⟩ := h1.getV e
  exact ⟨v, e1, S', h3, fun a ha => h2 a (h4 a ha)⟩
theorem RepsB.of_get {vs : List V} {ds : List D} (hl : vs.length = ds.length) (h : ∀ (i : Nat) v d, vs[i]? = some v → ds[i]? = some d → RepB K H T v d) : RepsB K H T vs ds := by
  induction vs generalizing ds with
  | nil => cases ds with
    | nil => exact .nil
    | cons d ds => simp at hl
  | cons v vs ih => cases ds with
    | nil => simp at hl
    | cons d ds => exact .cons (h 0 v d rfl rfl) (ih (by simpa using hl) fun i v d e1 e2 => h (i + 1) v d (by simpa using e1) (by simpa using e2))
theorem RepsB.set {vs ds} {i : Nat} {v : V} {d : D} (h : RepsB K H T vs ds) (r : RepB K H T v d) : RepsB K H T (vs.set i v) (ds.set i d) := by
  refine .of_get (by simp [h.length]) fun j v' d' e1 e2 => ?_
  by_cases hj : i = j
  · subst hj
    have hi : i < vs.length := by have := (List.getElem?_eq_some_iff.mp e1).1; simpa using this
    rw [List.getElem?_set_self hi] at e1; cases e1
    rw [List.getElem?_set_self (by rw [← h.length]; exact hi)] at e2; cases e2
    exact r
  · rw [List.getElem?_set_ne hj] at e1 e2
    obtain ⟨d2, e3, h3⟩ := h.getV e1
    rw [e2] at e3; cases e3
    exact h3
theorem RepsB.take {vs ds} (n : Nat) (h : RepsB K H T vs ds) : RepsB K H T (vs.take n) (ds.take n) := by
  refine .of_get (by simp [h.length]) fun j v d e1 e2 => ?_
  have hj : j < n := by
    have := (List.getElem?_eq_some_iff.mp e1).1
    rw [List.length_take] at this; omega
  rw [List.getElem?_take_of_lt hj] at e1 e2
  obtain ⟨d2, e3, h3⟩ := h.getV e1
  rw [e2] at e3; cases e3
  exact h3
theorem RepsB.drop {vs ds} (n : Nat) (h : RepsB K H T vs ds) : RepsB K H T (vs.drop n) (ds.drop n) := by
  refine .of_get (by simp [h.length]) fun j v d e1 e2 => ?_
  rw [List.getElem?_drop] at e1 e2
  obtain ⟨d2, e3, h3⟩ := h.getV e1
  rw [e2] at e3; cases e3
  exact h3
theorem RepsB.dropLast {vs ds} (h : RepsB K H T vs ds) : RepsB K H T vs.dropLast ds.dropLast := by
  rw [List.dropLast_eq_take, List.dropLast_eq_take, h.length]; exact h.take _
theorem RepsB.reverse {vs ds} (h : RepsB K H T vs ds) : RepsB K H T vs.reverse ds.reverse := by
  refine .of_get (by simp [h.length]) fun j v d e1 e2 => ?_
  have hj : j < vs.length := by have := (List.getElem?_eq_some_iff.mp e1).1; simpa using this
  rw [List.getElem?_reverse hj] at e1
  rw [List.getElem?_reverse (by rw [← h.length]; exact hj), ← h.length] at e2
  obtain ⟨d2, e3, h3⟩ := h.getV e1
  rw [e2] at e3; cases e3
  exact h3
theorem RepB.mono {T' : Addr → Prop} {v d} (h : RepB K H T v d) (m : ∀ a, T a → T' a) : RepB K H T' v d := let ⟨S, h1, h2⟩ := h; ⟨S, h1, fun a ha => m a (h2 a ha)⟩
theorem RepsB.mono {T' : Addr → Prop} {v d} (h : RepsB K H T v d) (m : ∀ a, T a → T' a) : RepsB K H T' v d := let ⟨S, h1, h2⟩ := h; ⟨S, h1, fun a ha => m a (h2 a ha)⟩
theorem TopB.mono {T' : Addr → Prop} {v d} (h : TopB K H T v d) (m : ∀ a, T a → T' a) : TopB K H T' v d := let ⟨S, h1, h2⟩ := h; ⟨S, h1, fun a ha => m a (h2 a ha)⟩
theorem RepB.monoD {T' : Addr → Prop} {v d} (h : RepB K H T v d) (m : ∀ a o, H a = some o → T a → T' a) : RepB K H T' v d := let ⟨S, h1, h2⟩ := h; ⟨S, h1, fun a ha => let ⟨o, e⟩ := h1.dom a ha; m a o e (h2 a ha)⟩
theorem RepsB.monoD {T' : Addr → Prop} {v d} (h : RepsB K H T v d) (m : ∀ a o, H a = some o → T a → T' a) : RepsB K H T' v d := let ⟨S, h1, h2⟩ := h; ⟨S, h1, fun a ha => let ⟨o, e⟩ := h1.dom a ha; m a o e (h2 a ha)⟩
theorem OwnB.monoD {T' : Addr → Prop} {a d} (h : OwnB K H T a d) (m : ∀ b o, H b = some o → T b → T' b) : OwnB K H T' a d := let ⟨S, h1, h2⟩ := h; ⟨S, h1, fun b hb => let ⟨o, e⟩ := h1.rep.dom b (List.mem_cons_of_mem _ hb); m b o e (h2 b hb)⟩
theorem RepB.keep {v d} (h : RepB K H T v d) (k : Kp T H H') : RepB K H' T v d := let ⟨S, h1, h2⟩ := h; ⟨S, h1.keep k h2, h2⟩
theorem RepsB.keep {v d} (h : RepsB K H T v d) (k : Kp T H H') : RepsB K H' T v d := let ⟨S, h1, h2⟩ := h; ⟨S, h1.keep k h2, h2⟩
theorem OwnB.keep {a d} (h : OwnB K H T a d) (k : Kp (fun b => T b ∨ b = a) H H') : OwnB K H' T a d := let ⟨S, h1, h2⟩ := h; ⟨S, h1.keep k (.inr rfl) (fun b hb => .inl (h2 b hb)), h2⟩
theorem RepB.top {v d} (h : RepB K H T v d) : TopB K H T v d := let ⟨S, h1, h2⟩ := h; let ⟨S', h3, h4⟩ := h1.top; ⟨S', h3, fun a ha => h2 a (h4 a ha)⟩
theorem OwnB.top {a d} (h : OwnB K H T a d) : TopB K H T (.ref a) d := let ⟨S, h1, h2⟩ := h; ⟨S, h1.top, h2⟩
theorem RepB.non : RepB K H T .non .non := ⟨_, .non, fun _ h => nomatch h⟩
theorem RepB.bl (b) : RepB K H T (.bl b) (.bl b) := ⟨_, .bl b, fun _ h => nomatch h⟩
theorem RepB.int (b) : RepB K H T (.int b) (.int b) := ⟨_, .int b, fun _ h => nomatch h⟩
theorem RepB.str (b) : RepB K H T (.str b) (.str b) := ⟨_, .str b, fun _ h => nomatch h⟩
theorem RepB.ty (b) : RepB K H T (.ty b) (.ty b) := ⟨_, .ty b, fun _ h => nomatch h⟩
theorem RepB.tup {a vs ds} (h : SqT K H a vs) (r : RepsB K H T vs ds) : RepB K H T (.ref a) (.tup ds) := let ⟨S, h1, h2⟩ := r; ⟨S, .tup h h1, h2⟩
theorem OwnB.lst {a vs ds} (h : H a = some (.lst vs)) (r : RepsB K H T vs ds) : OwnB K H T a (.lst ds) := let ⟨S, h1, h2⟩ := r; ⟨S, .lst h h1, h2⟩
end
theorem Kp.of {H H' : Hp} {T : Addr → Prop} (h : ∀ a o, H a = some o → H' a = some o) : Kp T H H' := fun a o e _ _ => h a o e
theorem Kp.refl {H : Hp} {T : Addr → Prop} : Kp T H H := fun _ _ e _ _ => e
theorem ext_upd {H : Hp} {p : Addr} {o : HO} (hp : H p = none) : ∀ a u, H a = some u → upd H p o a = some u := fun a u e => by
  rw [upd_ne (ne_of_none e hp)]; exact e
end Lw
end

section
set_option Elab.async false
set_option linter.all false
set_option maxRecDepth 100000
set_option maxHeartbeats 4000000
/-! L2: what holds of the slots and the heap; results; operands -/
namespace Lw
open PySem L2

/-- what a piece of code comes to: a value and the slots; an exception of a class with its value; or nothing is said -/
inductive R (α : Type) where
  | ok (a : α) (E : SE)
  | exc (C : Str) (x : D) (E : SE)
  | bad
abbrev M (α : Type) := SE → R α
def M.pure {α} (a : α) : M α := fun E => .ok a E
def R.bind {α β} (r : R α) (f : α → M β) : R β := match r with
  | .ok a E => f a E
  | .exc C x E => .exc C x E
  | .bad => .bad
def M.bind {α β} (m : M α) (f : α → M β) : M β := fun E => (m E).bind f
def M.bad {α} : M α := fun _ => .bad
instance : Monad M where
  pure := M.pure
  bind := M.bind

/-- a is held by a slot -/
def OwnS (σ : St) (E : SE) (a : Addr) : Prop := ∃ (i : Nat) (d : D), E[i]? = some (.own d) ∧ σ[i]? = some (some (.ref a))
/-- neither protected nor held -/
def Fz (P : Addr → Prop) (σ : St) (E : SE) (a : Addr) : Prop := ¬ P a ∧ ¬ OwnS σ E a
/-- the tables of the text's defs that make lambdas -/
class TabInfo where
  T : List (Addr × Str)
variable [TabInfo]
theorem tabs_upd {T : List (Addr × Str)} {H : Hp} {a : Addr} {o : HO} (t : LamX.Tabs T H) (hm : ∀ u, H a = some u → Mu u) : LamX.Tabs T (upd H a o) := fun p hp => by
  obtain ⟨ps, h1, h2, h3⟩ := t p hp
  have n : ∀ {b u}, H b = some u → ¬ Mu u → upd H a o b = some u := fun {b u} e m => by
    rw [upd_ne (fun z => m (hm u (by rw [← z]; exact e)))]; exact e
  refine ⟨ps, n h1 fun z => z, h2, fun pos cv hc => ?_⟩
  obtain ⟨c, e1, e2⟩ := h3 pos cv hc
  exact ⟨c, e1, n e2 fun z => by unfold LamX.CodeO at z; exact z⟩
structure Good (K : PySem.W.Frag) (P : Addr → Prop) (H : Hp) (σ : St) (E : SE) : Prop where
  len : σ.length = E.length
  dom : ∀ a, P a → ∃ o, H a = some o
  val : ∀ (i : Nat) (d : D), E[i]? = some (.val d) → ∃ v, σ[i]? = some (some v) ∧ RepB K H (Fz P σ E) v d
  own : ∀ (i : Nat) (d : D), E[i]? = some (.own d) → ∃ a, σ[i]? = some (some (.ref a)) ∧ OwnB K H (Fz P σ E) a d
  dis : ∀ a, OwnS σ E a → ¬ P a
  inj : ∀ (i j : Nat) (d d' : D) (a : Addr), E[i]? = some (.own d) → E[j]? = some (.own d') → σ[i]? = some (some (.ref a)) → σ[j]? = some (some (.ref a)) → i = j
  tab : LamX.Tabs TabInfo.T H
structure Lnk (P : Addr → Prop) (σ : St) (E : SE) (H : Hp) (P' : Addr → Prop) (σ' : St) (E' : SE) (H' : Hp) : Prop where
  keep : ∀ a o, H a = some o → (∀ ps, o ≠ .tbl ps) → ¬ OwnS σ E a → H' a = some o
  new : ∀ a, OwnS σ' E' a → OwnS σ E a ∨ H a = none
  pr : ∀ a, P' a → P a ∨ OwnS σ E a ∨ H a = none
  tbs : ∀ a, H' a = none → H a = none

section
variable {K : PySem.W.Frag} {P P' P1 : Addr → Prop} {H H' H1 : Hp} {σ σ' σ1 : St} {E E' E1 : SE}
theorem Good.ownD (g : Good K P H σ E) {a} (h : OwnS σ E a) : ∃ o, H a = some o ∧ Mu o := by
  obtain ⟨i, d, e1, e2⟩ := h
  obtain ⟨b, e3, S, h1, h2⟩ := g.own i d e1
  rw [e2] at e3; cases e3
  exact h1.mu
theorem Lnk.refl : Lnk P σ E H P σ E H := ⟨fun _ _ e _ _ => e, fun _ h => .inl h, fun _ h => .inl h, fun _ e => e⟩
theorem Lnk.none (l : Lnk P σ E H P' σ' E' H') {a} (h : H' a = none) : OwnS σ E a ∨ H a = none := by
  exact .inr (l.tbs a h)
theorem Lnk.trans (a : Lnk P σ E H P1 σ1 E1 H1) (b : Lnk P1 σ1 E1 H1 P' σ' E' H') : Lnk P σ E H P' σ' E' H' where
  keep := fun c o e t n => b.keep c o (a.keep c o e t n) t fun h => (a.new c h).elim n fun z => by rw [e] at z; cases z
  tbs := fun c e => a.tbs c (b.tbs c e)
  new := fun c h => (b.new c h).elim (a.new c) a.none
  pr := fun c h => (b.pr c h).elim (a.pr c) fun q => .inr (q.elim (a.new c) a.none)
theorem none_ext {H H' : Hp} (h : ∀ a o, H a = some o → H' a = some o) {a : Addr} (e : H' a = Option.none) : H a = Option.none := by
  cases q : H a with
  | none => rfl
  | some o => rw [h a o q] at e; cases e
theorem none_upd {H : Hp} {a b : Addr} {o : HO} (e : upd H a o b = Option.none) : H b = Option.none := by
  by_cases q : b = a
  · subst q; rw [upd_same] at e; cases e
  · rw [upd_ne q] at e; exact e
theorem Lnk.ext (h : ∀ a o, H a = some o → H' a = some o) : Lnk P σ E H P σ E H' := ⟨fun a o e _ _ => h a o e, fun _ h => .inl h, fun _ h => .inl h, fun _ e => none_ext h e⟩
theorem Lnk.less (l : Lnk P σ E H P1 σ' E' H') (h : ∀ a, P' a → P1 a) : Lnk P σ E H P' σ' E' H' := ⟨l.keep, l.new, fun a z => l.pr a (h a z), l.tbs⟩
/-- what is neither protected nor held stays -/
theorem Good.kp (g : Good K P H σ E) (l : Lnk P σ E H P' σ' E' H') : Kp (fun a => ¬ OwnS σ E a) H H' := fun a o e t h => l.keep a o e t fun q => by
  rcases h with h | h
  · exact h q
  · obtain ⟨u, e1, m⟩ := g.ownD q
    rw [e] at e1; cases e1
    exact h m
theorem Lnk.fz (l : Lnk P σ E H P' σ' E' H') {a o} (e : H a = some o) (h : Fz P σ E a) : Fz P' σ' E' a :=
  ⟨fun q => (l.pr a q).elim h.1 fun z => z.elim h.2 fun z => (by rw [e] at z; cases z), fun q => (l.new a q).elim h.2 fun z => by rw [e] at z; cases z⟩
theorem RepB.lnk {v d} (h : RepB K H (Fz P σ E) v d) (g : Good K P H σ E) (l : Lnk P σ E H P' σ' E' H') : RepB K H' (Fz P' σ' E') v d :=
  ((h.monoD fun a o e z => ⟨z, l.fz e z⟩ : RepB K H (fun a => Fz P σ E a ∧ Fz P' σ' E' a) v d).keep (fun a o e t z => g.kp l a o e t (z.imp (·.1.2) id))).mono fun _ z => z.2
theorem RepsB.lnk {v d} (h : RepsB K H (Fz P σ E) v d) (g : Good K P H σ E) (l : Lnk P σ E H P' σ' E' H') : RepsB K H' (Fz P' σ' E') v d :=
  ((h.monoD fun a o e z => ⟨z, l.fz e z⟩ : RepsB K H (fun a => Fz P σ E a ∧ Fz P' σ' E' a) v d).keep (fun a o e t z => g.kp l a o e t (z.imp (·.1.2) id))).mono fun _ z => z.2
theorem OwnB.lnk {a d} (h : OwnB K H (Fz P σ E) a d) (g : Good K P H σ E) (l : Lnk P σ E H P' σ' E' H') (ha : ¬ OwnS σ E a) : OwnB K H' (Fz P' σ' E') a d :=
  ((h.monoD fun b o e z => ⟨z, l.fz e z⟩ : OwnB K H (fun b => Fz P σ E b ∧ Fz P' σ' E' b) a d).keep (fun b o e t z => g.kp l b o e t (z.imp (fun z => z.elim (·.1.2) fun z => by rw [z]; exact ha) id))).monoD fun _ _ _ z => z.2
/-- the heap grows -/
theorem Good.ext (g : Good K P H σ E) (h : ∀ a o, H a = some o → H' a = some o) : Good K P H' σ E where
  len := g.len
  dom := fun a p => let ⟨o, e⟩ := g.dom a p; ⟨o, h a o e⟩
  val := fun i d e => let ⟨v, e1, r⟩ := g.val i d e; ⟨v, e1, r.keep (Kp.of h)⟩
  own := fun i d e => let ⟨v, e1, r⟩ := g.own i d e; ⟨v, e1, r.keep (Kp.of h)⟩
  dis := g.dis
  inj := g.inj
  tab := g.tab.ext h
/-- less is protected -/
theorem Good.less (g : Good K P H σ E) (h : ∀ a, P' a → P a) : Good K P' H σ E where
  len := g.len
  dom := fun a p => g.dom a (h a p)
  val := fun i d e => let ⟨v, e1, r⟩ := g.val i d e; ⟨v, e1, r.mono fun a z => ⟨fun q => z.1 (h a q), z.2⟩⟩
  own := fun i d e => let ⟨v, e1, r⟩ := g.own i d e; ⟨v, e1, r.monoD fun a _ _ z => ⟨fun q => z.1 (h a q), z.2⟩⟩
  dis := fun a o p => g.dis a o (h a p)
  inj := g.inj
  tab := g.tab
/-- a new object is protected -/
theorem Good.fresh (g : Good K P H σ E) {a o} (ha : H a = Option.none) (e : ∀ b u, H b = some u → H' b = some u) (e2 : H' a = some o) : Good K (fun b => P b ∨ b = a) H' σ E where
  len := g.len
  dom := fun b p => p.elim (fun p => let ⟨o, q⟩ := g.dom b p; ⟨o, e b o q⟩) fun z => ⟨o, by rw [z]; exact e2⟩
  val := fun i d e1 => let ⟨v, e2, r⟩ := g.val i d e1; ⟨v, e2, (r.monoD fun b u q z => ⟨fun p => p.elim z.1 fun y => (by rw [y, ha] at q; cases q), z.2⟩ : RepB K H (Fz (fun b => P b ∨ b = a) σ E) v d).keep (Kp.of e)⟩
  own := fun i d e1 => let ⟨v, e2, r⟩ := g.own i d e1; ⟨v, e2, (r.monoD fun b u q z => ⟨fun p => p.elim z.1 fun y => (by rw [y, ha] at q; cases q), z.2⟩ : OwnB K H (Fz (fun b => P b ∨ b = a) σ E) v d).keep (Kp.of e)⟩
  dis := fun b o p => p.elim (g.dis b o) fun z => by
    obtain ⟨u, q, _⟩ := g.ownD o
    rw [z, ha] at q; cases q
  inj := g.inj
  tab := g.tab.ext e
end

/-- the address that a result holds by itself -/
def HeldBy (v : V) : Sl → Addr → Prop
  | .own _, a => v = .ref a
  | _, _ => False
def Pl (P : Addr → Prop) (v : V) (s : Sl) (a : Addr) : Prop := P a ∨ HeldBy v s a
/-- a result; P: with what it holds -/
def ResR (K : PySem.W.Frag) (P : Addr → Prop) (σ : St) (E : SE) (H : Hp) (v : V) : Sl → Prop
  | .no => False
  | .val d => RepB K H (Fz P σ E) v d
  | .own d => ∃ a, v = .ref a ∧ OwnB K H (Fz P σ E) a d

/-- how an exception lies: its class, its dict -/
def ExcR (K : PySem.W.Frag) (mg : Str → Option Value) (T : Addr → Prop) (H : Hp) (C : Str) (x : D) (cls : Value) (d : Option Addr) : Prop :=
  ∃ (a b : Addr) (v : V), mg C = some (.ref a) ∧ cls = .ref a ∧ d = some b ∧ H b = some (.xd [(("value" : Str), v)]) ∧ RepB K H T v x

section
variable (K : PySem.W.Frag) (mg : Str → Option Value) (W : WX)
/-- what is wanted of an expression's result -/
def PostE (P : Addr → Prop) (σ : St) (E : SE) (H : Hp) (Q : VK) : R Sl → Prop
  | .ok s E' => ∀ v H', Good K (Pl P v s) H' σ E' → Lnk P σ E H (Pl P v s) σ E' H' → ResR K (Pl P v s) σ E' H' v s → (∀ a, HeldBy v s a → ¬ P a) → Q v H'
  | .exc C x E' => ∀ H' cls d, Good K P H' σ E' → Lnk P σ E H P σ E' H' → ExcR K mg (Fz P σ E') H' C x cls d → W cls d σ H'
  | .bad => False
/-- an expression's reading -/
def TEof (f : M Sl) : TE := fun σ H Q => ∃ P E, Good K P H σ E ∧ PostE K mg W P σ E H Q (f E)
/-- data by their contents, one by one -/
def TopsB (H : Hp) (T : Addr → Prop) : List V → List D → Prop := Paired (TopB K H T)
def PostA (P : Addr → Prop) (σ : St) (E : SE) (H : Hp) (Q : List V → Hp → Prop) : R (List D) → Prop
  | .ok ds E' => ∀ vs H' P', (∀ a, P a → P' a) → Good K P' H' σ E' → Lnk P σ E H P' σ E' H' → TopsB K H' (Fz P' σ E') vs ds → Q vs H'
  | .exc C x E' => ∀ H' cls d, Good K P H' σ E' → Lnk P σ E H P σ E' H' → ExcR K mg (Fz P σ E') H' C x cls d → W cls d σ H'
  | .bad => False
/-- an argument list's reading -/
def TAof (f : M (List D)) : TA := fun σ H Q => ∃ P E, Good K P H σ E ∧ PostA K mg W P σ E H Q (f E)
def PostT (P : Addr → Prop) (σ : St) (E : SE) (H : Hp) (Q : Bool → Hp → Prop) : R Bool → Prop
  | .ok b E' => ∀ H', Good K P H' σ E' → Lnk P σ E H P σ E' H' → Q b H'
  | .exc C x E' => ∀ H' cls d, Good K P H' σ E' → Lnk P σ E H P σ E' H' → ExcR K mg (Fz P σ E') H' C x cls d → W cls d σ H'
  | .bad => False
/-- a test's reading -/
def TTof (f : M Bool) : TT := fun σ H Q => ∃ P E, Good K P H σ E ∧ PostT K mg W P σ E H Q (f E)
end

/-- an operand: a slot (read when the operation is done), or an expression -/
inductive Opd where
  | slot (i : Nat)
  | ex (f : M Sl)
def slotAt (i : Nat) : M D := fun E => match E[i]? with
  | some (.val d) => .ok d E
  | some (.own d) => .ok d E
  | _ => .bad
def evA : List Opd → M (List D)
  | [] => M.pure []
  | .slot i :: r => do let _ ← slotAt i; let ds ← evA r; let d ← slotAt i; M.pure (d :: ds)
  | .ex f :: r => do let s ← f; let ds ← evA r; M.pure (s.d :: ds)
def tOpd (K : PySem.W.Frag) (mg : Str → Option Value) (W : WX) : Opd → TE
  | .slot i => tVar i
  | .ex f => TEof K mg W f
def tOpds (K : PySem.W.Frag) (mg : Str → Option Value) (W : WX) : List Opd → TA
  | [] => tNil
  | o :: r => tCons (tOpd K mg W o) (tOpds K mg W r)

section
variable {K : PySem.W.Frag} {mg : Str → Option Value} {W : WX} {P P' P1 : Addr → Prop} {H H' H1 : Hp} {σ σ' σ1 : St} {E E' E1 : SE}
theorem Good.slotV (g : Good K P H σ E) {i : Nat} {d : D} {E' : SE} (h : slotAt i E = .ok d E') : E' = E ∧ ∃ v, σ[i]? = some (some v) ∧ TopB K H (Fz P σ E) v d := by
  unfold slotAt at h
  split at h
  · rename_i d' e
    injection h with h1 h2; subst h1; subst h2
    obtain ⟨v, e1, r⟩ := g.val i _ e
    exact ⟨rfl, v, e1, r.top⟩
  · rename_i d' e
    injection h with h1 h2; subst h1; subst h2
    obtain ⟨v, e1, r⟩ := g.own i _ e
    exact ⟨rfl, _, e1, r.top⟩
  · cases h
theorem TopB.lnkR {s : Sl} {v : V} (r : ResR K P σ E H v s) (g : Good K P H σ E) (l : Lnk P σ E H P' σ' E' H') (hh : ∀ a, HeldBy v s a → P a) : TopB K H' (Fz P' σ' E') v s.d := by
  cases s with
  | no => exact r.elim
  | val d => exact (RepB.lnk r g l).top
  | own d =>
    obtain ⟨a, rfl, r⟩ := r
    exact (r.lnk g l fun q => g.dis a q (hh a rfl)).top
theorem R.bind_ok {α β} {r : R α} {f : α → M β} {b : β} {E : SE} (h : r.bind f = .ok b E) : ∃ a E1, r = .ok a E1 ∧ f a E1 = .ok b E := by
  cases r with
  | ok a E1 => exact ⟨a, E1, rfl, h⟩
  | exc C x E1 => cases h
  | bad => cases h
theorem evA_slot {i : Nat} {r : List Opd} {E : SE} : evA (.slot i :: r) E = (slotAt i E).bind fun _ => fun E1 => (evA r E1).bind fun ds => fun E2 => (slotAt i E2).bind fun d => fun E3 => .ok (d :: ds) E3 := rfl
theorem evA_ex {f : M Sl} {r : List Opd} {E : SE} : evA (.ex f :: r) E = (f E).bind fun s => fun E1 => (evA r E1).bind fun ds => fun E2 => .ok (s.d :: ds) E2 := rfl
theorem slotAt_cases (i : Nat) (E : SE) : (∃ d, slotAt i E = .ok d E) ∨ slotAt i E = .bad := by
  unfold slotAt
  split
  · exact .inl ⟨_, rfl⟩
  · exact .inl ⟨_, rfl⟩
  · exact .inr rfl
/-- operands, from the left -/
theorem argsL : ∀ (ops : List Opd) (σ : St) (H : Hp) (Q : List V → Hp → Prop), TAof K mg W (evA ops) σ H Q → tOpds K mg W ops σ H Q := by
  intro ops
  induction ops with
  | nil =>
    intro σ H Q ⟨P, E, g, h⟩
    exact h [] H P (fun _ z => z) g Lnk.refl .nil
  | cons o r ih =>
    intro σ H Q ⟨P, E, g, h⟩
    cases o with
    | slot i =>
      rw [evA_slot] at h
      rcases slotAt_cases i E with ⟨d0, e0⟩ | e0
      · rw [e0] at h
        obtain ⟨_, v, ev, tv⟩ := g.slotV e0
        refine ⟨v, ev, ih σ H _ ⟨P, E, g, ?_⟩⟩
        change PostA K mg W P σ E H Q ((evA r E).bind _) at h
        cases e1 : evA r E with
        | bad => rw [e1] at h; exact h
        | exc C x E1 => rw [e1] at h; exact h
        | ok ds E1 =>
          rw [e1] at h
          change PostA K mg W P σ E H Q ((slotAt i E1).bind _) at h
          rcases slotAt_cases i E1 with ⟨d1, e2⟩ | e2
          · rw [e2] at h
            intro vs H' P' hp g' l ts
            obtain ⟨_, v', ev', tv'⟩ := g'.slotV e2
            rw [ev] at ev'
            cases ev'
            exact h (v :: vs) H' P' hp g' l (.cons tv' ts)
          · rw [e2] at h; exact h.elim
      · rw [e0] at h; exact h.elim
    | ex f =>
      rw [evA_ex] at h
      show TEof K mg W f σ H _
      refine ⟨P, E, g, ?_⟩
      cases e1 : f E with
      | bad => rw [e1] at h; exact h
      | exc C x E1 => rw [e1] at h; exact h
      | ok s E1 =>
        rw [e1] at h
        intro v H1 g1 l1 r1 n1
        refine ih σ H1 _ ⟨_, E1, g1, ?_⟩
        change PostA K mg W P σ E H Q ((evA r E1).bind _) at h
        cases e2 : evA r E1 with
        | bad => rw [e2] at h; exact h
        | exc C x E2 =>
          rw [e2] at h
          intro H2 cls d g2 l2 x2
          refine h H2 cls d (g2.less fun a z => .inl z) ((l1.trans l2).less fun a z => .inl z) ?_
          obtain ⟨a, b, w, q1, q2, q3, q4, q5⟩ := x2
          exact ⟨a, b, w, q1, q2, q3, q4, q5.mono fun c z => ⟨fun p => z.1 (.inl p), z.2⟩⟩
        | ok ds E2 =>
          rw [e2] at h
          intro vs H2 P2 hp g2 l2 ts
          exact h (v :: vs) H2 P2 (fun a z => hp a (.inl z)) g2 (l1.trans l2) (.cons (TopB.lnkR r1 g1 l2 fun a z => .inr z) ts)
end
end Lw
end

section
set_option Elab.async false
set_option linter.all false
set_option maxRecDepth 100000
set_option maxHeartbeats 4000000
/-! L3: operators and built-ins upon data, and that the hand layer's rules keep them -/
namespace Lw
open PySem L2
variable [TabInfo]

mutual
/-- as the library's data (no dicts) -/
def D.py : D → Option PyData
  | .non => some .none
  | .bl b => some (.bool b)
  | .int i => some (.int i)
  | .str x => some (.str x)
  | .tup xs => (D.pys xs).map .tuple
  | .lst xs => (D.pys xs).map .list
  | .scr ns => some (.list (ns.map .int))
  | _ => none
def D.pys : List D → Option (List PyData)
  | [] => some []
  | d :: ds => match D.py d, D.pys ds with
    | some p, some ps => some (p :: ps)
    | _, _ => none
end

def okD (a : D) : Option PyData := match a.py with
  | some p => if SeqAt.shaped p then some p else none
  | none => none
/-- == -/
def eqD (a b : D) : Option Bool := match okD a, okD b with
  | some p, some q => some (PyData.eqv p q)
  | _, _ => none
/-- x in a list -/
def inD (x : D) (ys : List D) : Option Bool := match okD x, okD (.lst ys) with
  | some p, some (.list qs) => some (qs.any fun z => PyData.eqv z p)
  | _, _ => none
def flatD : D → Bool
  | .non | .bl _ | .int _ | .str _ => true
  | _ => false
/-- == of flat data -/
def eqF : D → D → Bool
  | .non, .non => true
  | .bl a, .bl b => a == b
  | .bl a, .int j => (if a then 1 else 0) == j
  | .int i, .bl b => i == (if b then 1 else 0)
  | .int i, .int j => i == j
  | .str x, .str y => x == y
  | _, _ => false

def isNonD : D → Bool
  | .non => true
  | _ => false
def vB (b : Bool) : Sl := .val (.bl b)
def vI (i : Int) : Sl := .val (.int i)
def mulOk (i j : Int) : Bool := decide (i.natAbs.log2 + j.natAbs.log2 < 1000000)
def bopS (o : Operator) (a b : D) : Option Sl := match o, a, b with
  | .Add, .int i, .int j => some (vI (i + j))
  | .Add, .str x, .str y => if x.length + y.length ≤ sizeLine then some (.val (.str (x ++ y))) else none
  | .Add, .tup xs, .tup ys => if xs.length + ys.length ≤ sizeLine then some (.val (.tup (xs ++ ys))) else none
  | .Add, .lst xs, .lst ys => if xs.length + ys.length ≤ sizeLine then some (.own (.lst (xs ++ ys))) else none
  | .Sub, .int i, .int j => some (vI (i - j))
  | .Mult, .int i, .int j => if mulOk i j then some (vI (i * j)) else none
  | .Mult, .lst xs, .int k => if -(2 ^ 63) ≤ k ∧ k < 2 ^ 63 ∧ xs.length * k.toNat ≤ sizeLine then some (.own (.lst (List.replicate k.toNat xs).flatten)) else none
  | .FloorDiv, .int i, .int j => if 0 < j ∧ j.natAbs.log2 < 9000 then some (vI (i / j)) else none
  | .Mod, .int i, .int j => if 0 < j then some (vI (i % j)) else none
  | .Pow, .int i, .int j => if 0 ≤ j ∧ Builtin.Int.intBits i * j ≤ 2 ^ 27 then some (vI (i ^ j.toNat)) else none
  | _, _, _ => none
def cmpS (o : CmpOp) (a b : D) : Option Sl := match o with
  | .Eq => (eqD a b).map vB
  | .NotEq => (eqD a b).map fun k => vB (!k)
  | .Lt => match a, b with
    | .int i, .int j => some (vB (decide (i < j)))
    | _, _ => none
  | .LtE => match a, b with
    | .int i, .int j => some (vB (decide (i ≤ j)))
    | _, _ => none
  | .Gt => match a, b with
    | .int i, .int j => some (vB (decide (j < i)))
    | _, _ => none
  | .GtE => match a, b with
    | .int i, .int j => some (vB (decide (j ≤ i)))
    | _, _ => none
  | .Is => match b with
    | .non => some (vB (isNonD a))
    | _ => none
  | .IsNot => match b with
    | .non => some (vB (!isNonD a))
    | _ => none
  | .In => match b with
    | .lst ys => (inD a ys).map vB
    | .tup ys => if flatD a && ys.all flatD then some (vB (ys.any fun y => eqF y a)) else none
    | _ => none
  | .NotIn => match b with
    | .lst ys => (inD a ys).map fun k => vB (!k)
    | .tup ys => if flatD a && ys.all flatD then some (vB (!ys.any fun y => eqF y a)) else none
    | _ => none

section
variable {K : PySem.W.Frag} {H H' : Hp} {T : Addr → Prop}
/-! ### what the data say of the value -/
theorem Top.non {v S} (h : Top K H v .non S) : v = .non := by
  cases h with
  | sc h _ => cases h; rfl
theorem Top.bl {v b S} (h : Top K H v (.bl b) S) : v = .bl b := by
  cases h with
  | sc h _ => cases h; rfl
theorem Top.int {v b S} (h : Top K H v (.int b) S) : v = .int b := by
  cases h with
  | sc h _ => cases h; rfl
theorem Top.str {v b S} (h : Top K H v (.str b) S) : v = .str b := by
  cases h with
  | sc h _ => cases h; rfl
theorem Top.ty {v b S} (h : Top K H v (.ty b) S) : v = .ty b := by
  cases h with
  | sc h _ => cases h; rfl
theorem TopB.non {v} (h : TopB K H T v .non) : v = .non := let ⟨_, h, _⟩ := h; h.non
theorem TopB.bl {v b} (h : TopB K H T v (.bl b)) : v = .bl b := let ⟨_, h, _⟩ := h; h.bl
theorem TopB.int {v b} (h : TopB K H T v (.int b)) : v = .int b := let ⟨_, h, _⟩ := h; h.int
theorem TopB.str {v b} (h : TopB K H T v (.str b)) : v = .str b := let ⟨_, h, _⟩ := h; h.str
theorem TopB.ty {v b} (h : TopB K H T v (.ty b)) : v = .ty b := let ⟨_, h, _⟩ := h; h.ty
theorem TopB.tup {v ds} (h : TopB K H T v (.tup ds)) : ∃ a vs, v = .ref a ∧ SqT K H a vs ∧ RepsB K H T vs ds := by
  obtain ⟨S, h, hS⟩ := h
  cases h with
  | sc h _ => cases h with
    | tup h1 h2 => exact ⟨_, _, rfl, h1, S, h2, hS⟩
theorem TopB.lst {v ds} (h : TopB K H T v (.lst ds)) : ∃ a vs, v = .ref a ∧ H a = some (.lst vs) ∧ RepsB K H T vs ds := by
  obtain ⟨S, h, hS⟩ := h
  cases h with
  | sc h q => exact q.elim
  | lst h1 h2 => exact ⟨_, _, rfl, h1, S, h2, hS⟩
theorem TopB.dkv {v ks ds} (h : TopB K H T v (.dk ks ds)) : ∃ a vs, v = .ref a ∧ H a = some (.dK (ks.zip vs)) ∧ ks.length = vs.length ∧ RepsB K H T vs ds := by
  obtain ⟨S, h, hS⟩ := h
  cases h with
  | sc h q => exact q.elim
  | dk h1 h2 h3 => exact ⟨_, _, rfl, h1, h2, S, h3, hS⟩
theorem TopB.scr {v ns} (h : TopB K H T v (.scr ns)) : ∃ a, v = .ref a ∧ Scr K H a ns := by
  obtain ⟨S, h, hS⟩ := h
  cases h with
  | sc h _ => cases h with
    | scr h1 => exact ⟨_, rfl, h1⟩
theorem TopB.dk {v ks ds} (h : TopB K H T v (.dk ks ds)) : ∃ a vs, v = .ref a ∧ H a = some (.dK (ks.zip vs)) ∧ ks.length = vs.length ∧ RepsB K H T vs ds := by
  obtain ⟨S, h, hS⟩ := h
  cases h with
  | sc h q => exact q.elim
  | dk h1 h2 h3 => exact ⟨_, _, rfl, h1, h2, S, h3, hS⟩
theorem TopB.dt {v ks ds} (h : TopB K H T v (.dt ks ds)) : ∃ a vs, v = .ref a ∧ H a = some (.dT (ks.zip vs)) ∧ ks.length = vs.length ∧ RepsB K H T vs ds := by
  obtain ⟨S, h, hS⟩ := h
  cases h with
  | sc h q => exact q.elim
  | dt h1 h2 h3 => exact ⟨_, _, rfl, h1, h2, S, h3, hS⟩

theorem pys_cons {d : D} {ds : List D} {ps : List PyData} (h : D.pys (d :: ds) = some ps) : ∃ p qs, D.py d = some p ∧ D.pys ds = some qs ∧ ps = p :: qs := by
  unfold D.pys at h
  split at h
  · rename_i p qs h1 h2
    exact ⟨p, qs, h1, h2, (Option.some.inj h).symm⟩
  · cases h
theorem dpAll_ints {K H} : ∀ ns : List Int, DpAll K H (ns.map V.int) (ns.map PyData.int)
  | [] => .nil
  | n :: ns => .cons (.int n) (dpAll_ints ns)
mutual
theorem Rep.dp {K H} : ∀ {v d S p}, Rep K H v d S → D.py d = some p → Dp K H v p
  | _, _, _, _, .non, e => by cases e; exact .non
  | _, _, _, _, .bl b, e => by cases e; exact .bl b
  | _, _, _, _, .int b, e => by cases e; exact .int b
  | _, _, _, _, .str b, e => by cases e; exact .str b
  | _, _, _, _, .ty b, e => by cases e
  | _, _, _, _, .scr h, e => by cases e; exact .lst h.sq (dpAll_ints _)
  | _, _, _, _, .tup (ds := ds) h r, e => by
    cases e1 : D.pys ds with
    | none => simp [D.py, e1] at e
    | some ps =>
      simp [D.py, e1] at e
      subst e
      exact .tup h (Reps.dp r e1)
  | _, _, _, _, .lst (ds := ds) h r, e => by
    cases e1 : D.pys ds with
    | none => simp [D.py, e1] at e
    | some ps =>
      simp [D.py, e1] at e
      subst e
      exact .lst (SqL.of h) (Reps.dp r e1)
  | _, _, _, _, .dk _ _ _, e => by cases e
  | _, _, _, _, .dt _ _ _, e => by cases e
theorem Reps.dp {K H} : ∀ {v d S p}, Reps K H v d S → D.pys d = some p → DpAll K H v p
  | _, _, _, _, .nil, e => by cases e; exact .nil
  | _, _, _, _, .cons h r, e => by
    obtain ⟨p, qs, e1, e2, rfl⟩ := pys_cons e
    exact .cons (Rep.dp h e1) (Reps.dp r e2)
end
theorem Top.dp {v d S p} (h : Top K H v d S) (e : D.py d = some p) : Dp K H v p := by
  cases h with
  | sc h _ => exact h.dp e
  | lst h1 h2 => exact (Rep.lst h1 h2).dp e
  | dk h1 h2 h3 => cases e
  | dt h1 h2 h3 => cases e
theorem TopB.dp {v d p} (h : TopB K H T v d) (e : D.py d = some p) : Dp K H v p := let ⟨_, h, _⟩ := h; h.dp e
theorem okD_of {d p} (h : okD d = some p) : D.py d = some p ∧ SeqAt.shaped p = true := by
  unfold okD at h
  split at h
  · rename_i q e
    split at h
    · rename_i hs
      cases h
      exact ⟨e, hs⟩
    · cases h
  · cases h
end

/-- what an operation's result is to be -/
def PRes (K : PySem.W.Frag) (H H' : Hp) (T : Addr → Prop) (v : V) : Sl → Prop
  | .no => False
  | .val d => RepB K H' T v d
  | .own d => ∃ a, v = .ref a ∧ H a = none ∧ OwnB K H' (fun b => T b ∧ b ≠ a) a d
def PostP (K : PySem.W.Frag) (H : Hp) (T : Addr → Prop) (Q : VK) : Option Sl → Prop
  | some s => ∀ v H', (∀ a o, H a = some o → H' a = some o) → PRes K H H' T v s → Q v H'
  | none => False
/-- an operation of two data by the hand layer -/
def r2D (K : PySem.W.Frag) (f : D → D → Option Sl) : R2 := fun x y H Q => ∃ T a b, TopB K H T x a ∧ TopB K H T y b ∧ PostP K H T Q (f a b)
def r1D (K : PySem.W.Frag) (f : D → Option Sl) : V → Hp → VK → Prop := fun x H Q => ∃ T a, TopB K H T x a ∧ PostP K H T Q (f a)
def rnD (K : PySem.W.Frag) (f : List D → Option Sl) : List V → Hp → VK → Prop := fun xs H Q => ∃ T ds, TopsB K H T xs ds ∧ PostP K H T Q (f ds)

section
variable {K : PySem.W.Frag} {H H' : Hp} {T : Addr → Prop} {Q : VK}
theorem PostP.v {v d} (h : PostP K H T Q (some (.val d))) (r : RepB K H T v d) : Q v H := h v H (fun _ _ e => e) r
theorem PostP.newTup {p : Addr} {vs ds} (h : PostP K H T Q (some (.val (.tup ds)))) (hp : H p = none) (r : RepsB K H T vs ds) : Q (.ref p) (upd H p (.tup vs)) :=
  h _ _ (ext_upd hp) (RepB.tup (SqT.of upd_same) (r.keep (Kp.of (ext_upd hp))))
theorem PostP.newLst {p : Addr} {vs ds} (h : PostP K H T Q (some (.own (.lst ds)))) (hp : H p = none) (r : RepsB K H T vs ds) : Q (.ref p) (upd H p (.lst vs)) :=
  h _ _ (ext_upd hp) ⟨p, rfl, hp, OwnB.lst upd_same ((r.monoD fun b o e z => ⟨z, ne_of_none e hp⟩ : RepsB K H (fun b => T b ∧ b ≠ p) vs ds).keep (Kp.of (ext_upd hp)))⟩
end

section
variable {X : Cx} {k : Nat}
theorem RepsB.flat {K H T vs ds} (h : RepsB K H T vs ds) : ∀ n : Nat, RepsB K H T (List.replicate n vs).flatten (List.replicate n ds).flatten
  | 0 => .nil
  | n + 1 => by
    rw [List.replicate_succ, List.replicate_succ, List.flatten_cons, List.flatten_cons]
    exact h.append (h.flat n)
theorem bop_ok (o : Operator) : OpR X (binaryOp o) (r2D X.K (bopS o)) := by
  intro pins s σ H x y v u Q I rx ry ⟨T, a, b, ha, hb, h⟩
  unfold bopS at h
  split at h
  · -- int + int
    have ex := ha.int; have ey := hb.int; subst ex; subst ey
    exact op_add pins s σ H _ _ v u Q I rx ry ⟨_, _, rfl, rfl, h.v (.int _)⟩
  · have ex := ha.str; have ey := hb.str; subst ex; subst ey
    split at h
    · exact op_add_str pins s σ H _ _ v u Q I rx ry ⟨_, _, rfl, rfl, by assumption, h.v (.str _)⟩
    · exact h.elim
  · split at h
    · rename_i hz
      obtain ⟨p, xs, rfl, h1, r1⟩ := ha.tup
      obtain ⟨q, ys, rfl, h2, r2⟩ := hb.tup
      refine op_catA pins s σ H _ _ v u Q I rx ry ⟨p, q, xs, ys, rfl, rfl, h1, h2, by rw [r1.length, r2.length]; exact hz, fun e => ?_, fun e e2 => ?_, fun _ _ p hp => h.newTup hp (r1.append r2)⟩
      · refine h.v (.tup h2 ?_)
        have := r1.append r2
        rwa [e, List.nil_append] at this
      · refine h.v (.tup h1 ?_)
        have := r1.append r2
        rwa [e2, List.append_nil] at this
    · exact h.elim
  · split at h
    · rename_i hz
      obtain ⟨p, xs, rfl, h1, r1⟩ := ha.lst
      obtain ⟨q, ys, rfl, h2, r2⟩ := hb.lst
      exact op_cat pins s σ H _ _ v u Q I rx ry ⟨p, q, xs, ys, rfl, rfl, h1, h2, by rw [r1.length, r2.length]; exact hz, fun p hp => h.newLst hp (r1.append r2)⟩
    · exact h.elim
  · have ex := ha.int; have ey := hb.int; subst ex; subst ey
    exact op_sub pins s σ H _ _ v u Q I rx ry ⟨_, _, rfl, rfl, h.v (.int _)⟩
  · have ex := ha.int; have ey := hb.int; subst ex; subst ey
    split at h
    · rename_i hm
      exact op_mulW pins s σ H _ _ v u Q I rx ry ⟨_, _, rfl, rfl, (by have z : _ < 1000000 := of_decide_eq_true hm; exact z), h.v (.int _)⟩
    · exact h.elim
  · split at h
    · rename_i hz
      obtain ⟨p, xs, rfl, h1, r1⟩ := ha.lst
      have ey := hb.int; subst ey
      exact op_rep pins s σ H _ _ v u Q I rx ry ⟨p, _, xs, rfl, rfl, h1, hz.1, hz.2.1, by rw [r1.length]; exact hz.2.2, fun p hp => h.newLst hp (r1.flat _)⟩
    · exact h.elim
  · have ex := ha.int; have ey := hb.int; subst ex; subst ey
    split at h
    · rename_i hm
      exact op_fdivW pins s σ H _ _ v u Q I rx ry ⟨_, _, rfl, rfl, hm, h.v (.int _)⟩
    · exact h.elim
  · have ex := ha.int; have ey := hb.int; subst ex; subst ey
    split at h
    · rename_i hm
      exact op_mod pins s σ H _ _ v u Q I rx ry ⟨_, _, rfl, rfl, hm, h.v (.int _)⟩
    · exact h.elim
  · have ex := ha.int; have ey := hb.int; subst ex; subst ey
    split at h
    · rename_i hm
      obtain ⟨t, rfl⟩ := rx
      obtain ⟨t', rfl⟩ := ry
      exact PyProof.Rows.pow_int hm.1 hm.2 ⟨.int _, H, I.tok _, ⟨_, rfl⟩, h.v (.int _)⟩
    · exact h.elim
  · exact h.elim

theorem eqF_V {K H T x y a b} (hx : RepB K H T x a) (hy : RepB K H T y b) (fa : flatD a = true) (fb : flatD b = true) : eqV x y = eqF a b ∧ flatV x = true := by
  obtain ⟨S, hx, _⟩ := hx
  obtain ⟨S', hy, _⟩ := hy
  cases hx <;> simp [flatD] at fa <;> cases hy <;> simp [flatD] at fb <;> simp [eqF, eqV, flatV]
theorem in_flat {K H T y b} (hy : RepB K H T y b) (fb : flatD b = true) : ∀ {xs as}, RepsB K H T xs as → as.all flatD = true → xs.all flatV = true ∧ inV y xs = as.any fun d => eqF d b
  | [], [], _, _ => ⟨rfl, rfl⟩
  | x :: xs, a :: as, h, f => by
    obtain ⟨h1, h2⟩ := h.uncons
    simp only [List.all_cons, Bool.and_eq_true] at f
    obtain ⟨e1, e2⟩ := in_flat hy fb h2 f.2
    obtain ⟨e3, e4⟩ := eqF_V h1 hy f.1 fb
    obtain ⟨e5, e6⟩ := eqF_V hy h1 fb f.1
    refine ⟨by simp [e4, e1], ?_⟩
    show (eqV x y || inV y xs) = _
    rw [e3, e2, List.any_cons]
  | [], a :: as, h, _ => by have := h.length; simp at this
  | x :: xs, [], h, _ => by have := h.length; simp at this
theorem flatTop {K H T x a} (h : TopB K H T x a) (f : flatD a = true) : RepB K H T x a := by
  obtain ⟨S, h, hS⟩ := h
  cases h with
  | sc h _ => exact ⟨S, h, hS⟩
  | lst h1 h2 => cases f
  | dk h1 h2 h3 => cases f
  | dt h1 h2 h3 => cases f
theorem isN_dec {K H T x a} (h : TopB K H T x a) : decide (x = .non) = isNonD a := by
  obtain ⟨S, h, hS⟩ := h
  cases h with
  | sc h _ => cases h <;> rfl
  | lst h1 h2 => rfl
  | dk h1 h2 h3 => rfl
  | dt h1 h2 h3 => rfl
theorem cmp_ok (hr : Room k X.A) (o : CmpOp) : OpR X (compareOp o) (r2D X.K (cmpS o)) := by
  have hu : X.A.units + 65 < cLine := by have := hr.un; omega
  intro pins s σ H x y v u Q I rx ry ⟨T, a, b, ha, hb, h⟩
  cases o with
  | Eq =>
    simp only [cmpS, eqD] at h
    cases e1 : okD a with
    | none => rw [e1] at h; exact h.elim
    | some p => cases e2 : okD b with
      | none => rw [e1, e2] at h; exact h.elim
      | some q =>
        rw [e1, e2] at h
        exact op_eqD (by omega) pins s σ H _ _ v u Q I rx ry ⟨p, q, ha.dp (okD_of e1).1, hb.dp (okD_of e2).1, (okD_of e1).2, (okD_of e2).2, PostP.v h (.bl _)⟩
  | NotEq =>
    simp only [cmpS, eqD] at h
    cases e1 : okD a with
    | none => rw [e1] at h; exact h.elim
    | some p => cases e2 : okD b with
      | none => rw [e1, e2] at h; exact h.elim
      | some q =>
        rw [e1, e2] at h
        exact op_neD (by omega) pins s σ H _ _ v u Q I rx ry ⟨p, q, ha.dp (okD_of e1).1, hb.dp (okD_of e2).1, (okD_of e1).2, (okD_of e2).2, PostP.v h (.bl _)⟩
  | Lt =>
    simp only [cmpS] at h
    split at h
    · have ex := ha.int; have ey := hb.int; subst ex; subst ey
      exact op_lt pins s σ H _ _ v u Q I rx ry ⟨_, _, rfl, rfl, PostP.v h (.bl _)⟩
    · exact h.elim
  | LtE =>
    simp only [cmpS] at h
    split at h
    · have ex := ha.int; have ey := hb.int; subst ex; subst ey
      exact op_le pins s σ H _ _ v u Q I rx ry ⟨_, _, rfl, rfl, PostP.v h (.bl _)⟩
    · exact h.elim
  | Gt =>
    simp only [cmpS] at h
    split at h
    · have ex := ha.int; have ey := hb.int; subst ex; subst ey
      exact op_gt pins s σ H _ _ v u Q I rx ry ⟨_, _, rfl, rfl, PostP.v h (.bl _)⟩
    · exact h.elim
  | GtE =>
    simp only [cmpS] at h
    split at h
    · have ex := ha.int; have ey := hb.int; subst ex; subst ey
      exact op_ge pins s σ H _ _ v u Q I rx ry ⟨_, _, rfl, rfl, PostP.v h (.bl _)⟩
    · exact h.elim
  | Is =>
    simp only [cmpS] at h
    split at h
    · have ey := hb.non; subst ey
      exact op_isN pins s σ H _ _ v u Q I rx ry ⟨rfl, by rw [isN_dec ha]; exact PostP.v h (.bl _)⟩
    · exact h.elim
  | IsNot =>
    simp only [cmpS] at h
    split at h
    · have ey := hb.non; subst ey
      refine op_notN pins s σ H _ _ v u Q I rx ry ⟨rfl, ?_⟩
      rw [isN_dec ha]
      exact PostP.v h (.bl _)
    · exact h.elim
  | In =>
    simp only [cmpS] at h
    split at h
    · rename_i ys
      unfold inD at h
      split at h
      · rename_i p qs e1 e2
        exact op_inD hu pins s σ H _ _ v u Q I rx ry ⟨p, qs, ha.dp (okD_of e1).1, hb.dp (okD_of e2).1, (okD_of e1).2, (okD_of e2).2, PostP.v h (.bl _)⟩
      · exact h.elim
    · split at h
      · rename_i ys hf
        simp only [Bool.and_eq_true] at hf
        obtain ⟨q, vs, rfl, h2, r2⟩ := hb.tup
        obtain ⟨e1, e2⟩ := in_flat (flatTop ha hf.1) hf.1 r2 hf.2
        refine op_in_seq pins s σ H _ _ v u Q I rx ry ⟨q, vs, rfl, .inr h2, (eqF_V (flatTop ha hf.1) (flatTop ha hf.1) hf.1 hf.1).2, e1, ?_⟩
        rw [e2]
        exact PostP.v h (.bl _)
      · exact h.elim
    · exact h.elim
  | NotIn =>
    simp only [cmpS] at h
    split at h
    · rename_i ys
      unfold inD at h
      split at h
      · rename_i p qs e1 e2
        exact op_notInD hu pins s σ H _ _ v u Q I rx ry ⟨p, qs, ha.dp (okD_of e1).1, hb.dp (okD_of e2).1, (okD_of e1).2, (okD_of e2).2, PostP.v h (.bl _)⟩
      · exact h.elim
    · split at h
      · rename_i ys hf
        simp only [Bool.and_eq_true] at hf
        obtain ⟨q, vs, rfl, h2, r2⟩ := hb.tup
        obtain ⟨e1, e2⟩ := in_flat (flatTop ha hf.1) hf.1 r2 hf.2
        refine op_notIn_seq pins s σ H _ _ v u Q I rx ry ⟨q, vs, rfl, .inr h2, (eqF_V (flatTop ha hf.1) (flatTop ha hf.1) hf.1 hf.1).2, e1, ?_⟩
        rw [e2]
        exact PostP.v h (.bl _)
      · exact h.elim
    · exact h.elim
end
end Lw
end

section
set_option Elab.async false
set_option linter.all false
set_option maxRecDepth 100000
set_option maxHeartbeats 4000000
/-! L4: built-in functions and classes upon data -/
namespace Lw
open PySem L2 PyProof.Rows
variable [TabInfo]

def intsOf : List D → Option (List Int)
  | [] => some []
  | .int i :: r => (intsOf r).map (i :: ·)
  | _ :: _ => none
def blsOf : List D → Option (List Bool)
  | [] => some []
  | .bl i :: r => (blsOf r).map (i :: ·)
  | _ :: _ => none
def keyPy : Key → PyData
  | .inl i => .int i
  | .inr x => .str x
mutual
/-- as the library's data, dicts too -/
def D.pd : D → Option PyData
  | .non => some .none
  | .bl b => some (.bool b)
  | .int i => some (.int i)
  | .str x => some (.str x)
  | .tup xs => (D.pds xs).map .tuple
  | .lst xs => (D.pds xs).map .list
  | .scr ns => some (.list (ns.map .int))
  | .dk ks vs => (D.pds vs).map fun ps => .dict ((ks.map keyPy).zip ps)
  | _ => none
def D.pds : List D → Option (List PyData)
  | [] => some []
  | d :: ds => match D.pd d, D.pds ds with
    | some p, some ps => some (p :: ps)
    | _, _ => none
end
mutual
def D.noLst : D → Bool
  | .lst _ => false
  | .scr _ => false
  | .tup xs => D.noLsts xs
  | .dk _ vs => D.noLsts vs
  | _ => true
def D.noLsts : List D → Bool
  | [] => true
  | d :: ds => D.noLst d && D.noLsts ds
end
/-- repr -/
def reprD (d : D) : Option Str := match d.pd with
  | some p => if p.showable && (!p.hasDict || d.noLst) && decide (p.depth ≤ 60) && decide (p.shown.length ≤ sizeLine) then some p.shown else none
  | none => none
def tyD : D → Option String
  | .non => some "NoneType"
  | .bl _ => some "bool"
  | .int _ => some "int"
  | .str _ => some "str"
  | .tup _ => some "tuple"
  | .lst _ => some "list"
  | .dk _ _ => some "dict"
  | .dt _ _ => some "dict"
  | _ => none
def isiTys : List String := ["NoneType", "bool", "int", "str", "tuple", "list", "dict"]
def isiS (t n : String) : Bool := t == n || (t == "bool" && n == "int")
theorem isi_all : ∀ t ∈ isiTys, ∀ n ∈ isiTys, n ≠ "NoneType" → kitB t n = some (isiS t n) := by decide +kernel
def isiD (d : D) (n : String) : Option Bool := match tyD d with
  | some t => if isiTys.contains n && n != "NoneType" then some (isiS t n) else none
  | none => none
def lenD : D → Option Nat
  | .str x => if x.length ≤ sizeLine then some x.length else none
  | .tup xs => some xs.length
  | .lst xs => some xs.length
  | .scr ns => some ns.length
  | .dk ks _ => some ks.length
  | _ => none
def maxL : List Int → Int
  | [] => 0
  | [a] => a
  | a :: r => max a (maxL r)
def minL : List Int → Int
  | [] => 0
  | [a] => a
  | a :: r => min a (minL r)
/-- the order of alike data -/
def leD (a b : D × PyData) : Bool := PySem.W.dataLe false (fun x : D × PyData => x.2) a b
def sortableB (ps : List PyData) : Bool := (ps.all fun p => match p with | .tuple (_ :: _) => true | _ => false) || (ps.all fun p => match p with | .none => false | .tuple _ => false | _ => true)
def alikeB (ps : List PyData) : Bool := ps.all fun p => ps.all fun q => PySem.W.alike p q
/-- sorted(xs) -/
def sortD (xs : List D) : Option (List D) := match D.pys xs with
  | some ps => if sortableB ps && alikeB ps && ps.all (fun p => decide (p.depth ≤ 60)) then some (((xs.zip ps).mergeSort leD).map (·.1)) else none
  | none => none

/-- keys that are ints -/
def keyInts : List Key → Option (List Int)
  | [] => some []
  | .inl i :: r => (keyInts r).map (i :: ·)
  | .inr _ :: _ => none
def sortI (ns : List Int) : List Int := ns.mergeSort fun a b => decide (a ≤ b)
theorem keyInts_map : ∀ {ks : List Key} {ns : List Int}, keyInts ks = some ns → ks = ns.map Sum.inl
  | [], _, e => by cases e; rfl
  | .inl i :: r, ns, e => by
    unfold keyInts at e
    cases h : keyInts r with
    | none => rw [h] at e; cases e
    | some l =>
      rw [h] at e; cases e
      rw [keyInts_map h]; rfl
  | .inr _ :: _, _, e => by cases e
theorem sortI_pairwise (ns : List Int) : (sortI ns).Pairwise (· ≤ ·) := by
  have := List.pairwise_mergeSort (le := fun a b : Int => decide (a ≤ b)) (fun a b c h1 h2 => by simp only [decide_eq_true_eq] at *; omega) (fun a b => by simp only [Bool.or_eq_true, decide_eq_true_eq]; omega) ns
  exact this.imp fun h => of_decide_eq_true h
theorem sortI_perm (ns : List Int) : (sortI ns).Perm ns := List.mergeSort_perm _ _
theorem sortI_uniq {ns ys : List Int} (hp : ys.Perm ns) (hs : ys.Pairwise (· ≤ ·)) : ys = sortI ns :=
  (hp.trans (sortI_perm ns).symm).eq_of_pairwise (fun a b _ _ h1 h2 => Int.le_antisymm h1 h2) hs (sortI_pairwise ns)
/-- built-in functions -/
inductive Bi where
  | len | abs | max | min | sum | all | any | sorted | repr | isinstance
  deriving DecidableEq
def Bi.id : Bi → String
  | .len => "len" | .abs => "abs" | .max => "max" | .min => "min" | .sum => "sum" | .all => "all" | .any => "any" | .sorted => "sorted" | .repr => "repr" | .isinstance => "isinstance"
/-- built-in classes that are called -/
inductive Bt where
  | int | str | list | tuple
  deriving DecidableEq
def Bt.id : Bt → String
  | .int => "int" | .str => "str" | .list => "list" | .tuple => "tuple"
def biS (b : Bi) (ds : List D) : Option Sl := match b, ds with
  | .len, [d] => (lenD d).map fun n => vI n
  | .abs, [.int i] => some (vI (if i < 0 then -i else i))
  | .max, [.int i, .int j] => some (vI (if j > i then j else i))
  | .min, [.int i, .int j] => some (vI (if j < i then j else i))
  | .max, [.lst xs] => match intsOf xs with
    | some (i :: r) => some (vI (maxL (i :: r)))
    | _ => none
  | .min, [.lst xs] => match intsOf xs with
    | some (i :: r) => some (vI (minL (i :: r)))
    | _ => none
  | .sum, [.lst xs] => (intsOf xs).map fun ns => vI ns.sum
  | .sum, [.tup xs] => (intsOf xs).map fun ns => vI ns.sum
  | .all, [.lst xs] => (blsOf xs).map fun bs => vB (bs.all id)
  | .any, [.lst xs] => (blsOf xs).map fun bs => vB (bs.any id)
  | .sorted, [.lst xs] => (sortD xs).map fun ys => .own (.lst ys)
  | .sorted, [.dk ks _] => match keyInts ks with
    | some ns => if ns.length < 64 then some (.own (.lst ((sortI ns).map .int))) else none
    | none => none
  | .repr, [d] => (reprD d).map fun x => .val (.str x)
  | .isinstance, [d, .ty n] => (isiD d n).map vB
  | _, _ => none
def tyS (T : Bt) (ds : List D) : Option Sl := match T, ds with
  | .int, [.int i] => some (vI i)
  | .int, [.bl b] => some (vI (if b then 1 else 0))
  | .str, [.int i] => if i.natAbs.log2 < 1920 then some (.val (.str (toString i))) else none
  | .list, [.lst xs] => some (.own (.lst xs))
  | .list, [.tup xs] => some (.own (.lst xs))
  | .tuple, [.lst xs] => some (.val (.tup xs))
  | .tuple, [.tup xs] => some (.val (.tup xs))
  | _, _ => none

section
variable {K : PySem.W.Frag} {H : Hp} {T : Addr → Prop}
theorem intsOf_map : ∀ ns : List Int, intsOf (ns.map .int) = some ns
  | [] => rfl
  | n :: ns => by simp [intsOf, intsOf_map ns]
theorem blsOf_map : ∀ ns : List Bool, blsOf (ns.map .bl) = some ns
  | [] => rfl
  | n :: ns => by simp [blsOf, blsOf_map ns]
theorem RepB.int_v {v i} (h : RepB K H T v (.int i)) : v = .int i := by
  obtain ⟨S, h, _⟩ := h
  cases h; rfl
theorem RepB.bl_v {v i} (h : RepB K H T v (.bl i)) : v = .bl i := by
  obtain ⟨S, h, _⟩ := h
  cases h; rfl
theorem ints_v : ∀ {xs : List D} {vs ns}, RepsB K H T vs xs → intsOf xs = some ns → vs = ns.map V.int
  | [], [], _, _, e => by cases e; rfl
  | .int i :: xs, v :: vs, ns, h, e => by
    obtain ⟨h1, h2⟩ := h.uncons
    cases e1 : intsOf xs with
    | none => simp [intsOf, e1] at e
    | some ms =>
      simp [intsOf, e1] at e
      subst e
      rw [h1.int_v, ints_v h2 e1]; rfl
  | d :: xs, [], _, h, _ => by have := h.length; simp at this
  | [], v :: vs, _, h, _ => by have := h.length; simp at this
  | .non :: xs, _ :: _, _, _, e => by cases e
  | .bl _ :: xs, _ :: _, _, _, e => by cases e
  | .str _ :: xs, _ :: _, _, _, e => by cases e
  | .ty _ :: xs, _ :: _, _, _, e => by cases e
  | .tup _ :: xs, _ :: _, _, _, e => by cases e
  | .lst _ :: xs, _ :: _, _, _, e => by cases e
  | .scr _ :: xs, _ :: _, _, _, e => by cases e
  | .dk _ _ :: xs, _ :: _, _, _, e => by cases e
  | .dt _ _ :: xs, _ :: _, _, _, e => by cases e
theorem bls_v : ∀ {xs : List D} {vs ns}, RepsB K H T vs xs → blsOf xs = some ns → vs = ns.map V.bl
  | [], [], _, _, e => by cases e; rfl
  | .bl i :: xs, v :: vs, ns, h, e => by
    obtain ⟨h1, h2⟩ := h.uncons
    cases e1 : blsOf xs with
    | none => simp [blsOf, e1] at e
    | some ms =>
      simp [blsOf, e1] at e
      subst e
      rw [h1.bl_v, bls_v h2 e1]; rfl
  | d :: xs, [], _, h, _ => by have := h.length; simp at this
  | [], v :: vs, _, h, _ => by have := h.length; simp at this
  | .non :: xs, _ :: _, _, _, e => by cases e
  | .int _ :: xs, _ :: _, _, _, e => by cases e
  | .str _ :: xs, _ :: _, _, _, e => by cases e
  | .ty _ :: xs, _ :: _, _, _, e => by cases e
  | .tup _ :: xs, _ :: _, _, _, e => by cases e
  | .lst _ :: xs, _ :: _, _, _, e => by cases e
  | .scr _ :: xs, _ :: _, _, _, e => by cases e
  | .dk _ _ :: xs, _ :: _, _, _, e => by cases e
  | .dt _ _ :: xs, _ :: _, _, _, e => by cases e
theorem maxL_mem : ∀ (a : Int) (r : List Int), maxL (a :: r) ∈ a :: r ∧ ∀ y ∈ a :: r, y ≤ maxL (a :: r)
  | a, [] => by simp [maxL]
  | a, b :: r => by
    obtain ⟨h1, h2⟩ := maxL_mem b r
    have e : maxL (a :: b :: r) = max a (maxL (b :: r)) := rfl
    rw [e]
    constructor
    · by_cases h : a ≤ maxL (b :: r)
      · rw [Int.max_eq_right h]; exact List.mem_cons_of_mem _ h1
      · rw [Int.max_eq_left (by omega)]; exact List.mem_cons_self ..
    · intro y hy
      rcases List.mem_cons.mp hy with rfl | hy
      · omega
      · have := h2 y hy; omega
theorem minL_mem : ∀ (a : Int) (r : List Int), minL (a :: r) ∈ a :: r ∧ ∀ y ∈ a :: r, minL (a :: r) ≤ y
  | a, [] => by simp [minL]
  | a, b :: r => by
    obtain ⟨h1, h2⟩ := minL_mem b r
    have e : minL (a :: b :: r) = min a (minL (b :: r)) := rfl
    rw [e]
    constructor
    · by_cases h : a ≤ minL (b :: r)
      · rw [Int.min_eq_left h]; exact List.mem_cons_self ..
      · rw [Int.min_eq_right (by omega)]; exact List.mem_cons_of_mem _ h1
    · intro y hy
      rcases List.mem_cons.mp hy with rfl | hy
      · omega
      · have := h2 y hy; omega
theorem TopsB.one {vs d} (h : TopsB K H T vs [d]) : ∃ v, vs = [v] ∧ TopB K H T v d := by
  cases h with
  | cons h r => cases r; exact ⟨_, rfl, h⟩
theorem TopsB.two {vs d e} (h : TopsB K H T vs [d, e]) : ∃ v w, vs = [v, w] ∧ TopB K H T v d ∧ TopB K H T w e := by
  cases h with
  | cons h r => cases r with
    | cons h' r => cases r; exact ⟨_, _, rfl, h, h'⟩
theorem sum_tup_raw {prog : Program} {w : World} {A : Around} {E : Value → Shared → Prop} {s : Shared} {l : Addr} {its : List Value} {ns : List Int} {Q : Value → Shared → Prop} (hh : A.handled = none) (hl : s.heap.IsTuple l its.toArray) (hi : IntsAre its ns)
    (h : ∀ h' tk t', (∀ b o, s.heap.get? b = some o → h'.get? b = some o) → Q (.int ns.sum t') { s with heap := h', toks := tk }) : wpAny (model prog w) A (call (.builtin "sum") [.ref l]) Q E s := by
  obtain ⟨xs, e⟩ := hi.allInts.items
  have hn : numsOf (intItems xs).toList = ns := by rw [← e]; exact hi.numsOf
  rw [nums_intItems] at hn
  rw [e] at hl
  have hlt : l < s.heap.objs.size := by obtain ⟨_, q, _⟩ := hl; exact Heap.lt_size q
  refine call_sum_walkG (wpAny_pyIter_tuple hl ?_)
  refine ⟨_, _, _, _, _, _, numAt xs, rfl, Walks.tuple (A := A.in1) hh s.heap.objs.size l (Nat.ne_of_lt hlt) (intItems xs), ⟨⟨_, Heap.get?_push_size _ rfl, rfl, rfl⟩, ?_⟩, fun b hb => ?_, (fun _ _ => intItems_at), fun h' tk t' hk => ?_⟩
  · obtain ⟨o, q, r⟩ := hl
    exact ⟨o, Heap.get?_push_of_some _ q, r⟩
  · show b < (s.heap.push _).objs.size
    rw [Heap.size_push]
    rcases List.mem_cons.mp hb with rfl | hb
    · exact Nat.lt_succ_self _
    · rcases List.mem_cons.mp hb with rfl | hb
      · exact Nat.lt_succ_of_lt hlt
      · cases hb
  · have := h h' tk t' fun b o q => hk b o (fun hm => by
      have e2 : b = s.heap.objs.size := by simpa using hm
      rw [e2] at q
      exact Nat.lt_irrefl _ (Heap.lt_size q)) (Heap.get?_push_of_some _ q)
    rw [preSum_eq, List.take_of_length_le (by simp [intItems]), hn]
    exact this
end

section
variable {X : Cx} {k : Nat}
theorem tyD_x {K H T v d t} (h : TopB K H T v d) (e : tyD d = some t) : TyX K H v (.type t) := by
  cases d with
  | non => cases e; have := h.non; subst this; exact .base .non
  | bl b => cases e; have := h.bl; subst this; exact .base (.bl b)
  | int b => cases e; have := h.int; subst this; exact .base (.int b)
  | str b => cases e; have := h.str; subst this; exact .base (.str b)
  | ty n => cases e
  | tup ds =>
    cases e
    obtain ⟨a, vs, rfl, hs, _⟩ := h.tup
    rcases hs with (hs | ⟨o, hs⟩) | ⟨o, its, n, hk, hc, _⟩
    · exact .base (.tup hs)
    · exact .fTuple hs
    · exact .kTuple hk hc
  | lst ds =>
    cases e
    obtain ⟨a, vs, rfl, hs, _⟩ := h.lst
    exact .base (.lst hs)
  | scr ns => cases e
  | dk ks vs =>
    cases e
    obtain ⟨a, ws, rfl, hs, _⟩ := h.dk
    exact .base (.dK hs)
  | dt ks vs =>
    cases e
    obtain ⟨a, ws, rfl, hs, _⟩ := h.dt
    exact .base (.dT hs)
theorem tyD_mem {d t} (e : tyD d = some t) : t ∈ isiTys := by
  cases d <;> cases e <;> decide
theorem lenD_v {K H T v d n} (h : TopB K H T v d) (e : lenD d = some n) : (∃ z, v = .str z ∧ z.length ≤ sizeLine ∧ n = z.length) ∨ (∃ p ys, v = .ref p ∧ (SqL K H p ys ∨ SqT K H p ys) ∧ n = ys.length) ∨ ∃ (p : Addr) (kvs : List (Key × V)), v = .ref p ∧ H p = some (.dK kvs) ∧ n = kvs.length := by
  cases d with
  | str x =>
    simp only [lenD] at e
    split at e
    · cases e; exact .inl ⟨x, h.str, by assumption, rfl⟩
    · cases e
  | tup ds => cases e; obtain ⟨a, vs, rfl, hs, r⟩ := h.tup; exact .inr (.inl ⟨a, vs, rfl, .inr hs, r.length.symm⟩)
  | lst ds => cases e; obtain ⟨a, vs, rfl, hs, r⟩ := h.lst; exact .inr (.inl ⟨a, vs, rfl, .inl (SqL.of hs), r.length.symm⟩)
  | scr ns => cases e; obtain ⟨a, rfl, hs⟩ := h.scr; exact .inr (.inl ⟨a, _, rfl, .inl hs.sq, by simp⟩)
  | dk ks vs => cases e; obtain ⟨a, ws, rfl, hs, hl, _⟩ := h.dk; exact .inr (.inr ⟨a, _, rfl, hs, by rw [List.length_zip]; omega⟩)
  | _ => cases e

/-! ### repr -/
theorem pds_cons {d : D} {ds : List D} {ps : List PyData} (h : D.pds (d :: ds) = some ps) : ∃ p qs, D.pd d = some p ∧ D.pds ds = some qs ∧ ps = p :: qs := by
  unfold D.pds at h
  split at h
  · rename_i p qs h1 h2
    exact ⟨p, qs, h1, h2, (Option.some.inj h).symm⟩
  · cases h
theorem readsAll_ints {h : Heap} : ∀ {ns : List Int} {us : List Value}, Vals (ns.map V.int) us → ∃ as, ReadsAll h us (ns.map .int) as ∧ as = []
  | [], _, .nil => ⟨[], .nil, rfl⟩
  | n :: ns, _, .cons r rs => by
    obtain ⟨t, rfl⟩ := r
    obtain ⟨as, h1, rfl⟩ := readsAll_ints rs
    exact ⟨_, .cons (.int n t) h1, rfl⟩
theorem dictReads {prog : Program} {w : World} {h : Heap} : ∀ {es : List DictEntry} {kvs : List (Key × Value)}, Pairs (mixKind prog w) es kvs → ReadsAll h (es.map (·.key)) (kvs.map fun p => keyPy p.1) [] ∧ es.map (·.val) = kvs.map (·.2)
  | _, _, .nil => ⟨.nil, rfl⟩
  | _, _, .cons (kv := (k, v)) h1 h2 r => by
    obtain ⟨q1, q2⟩ := dictReads (h := h) r
    refine ⟨?_, by simp only [List.map_cons]; rw [h2, q2]⟩
    rcases keyIs_shape (show keyIs k _ = true from h1) with ⟨i, t, rfl, e⟩ | ⟨x, t, rfl, e⟩
    · simp only [List.map_cons]; rw [e]; exact ReadsAll.cons (as := []) (.int i t) q1
    · simp only [List.map_cons]; rw [e]; exact ReadsAll.cons (as := []) (.str x t) q1
theorem kv_split : ∀ {ks : List Key} {vs : List V} {kvs : List (Key × Value)}, ks.length = vs.length → KV (ks.zip vs) kvs → kvs.map (·.1) = ks ∧ Vals vs (kvs.map (·.2))
  | [], [], _, _, .nil => ⟨rfl, .nil⟩
  | k :: ks, v :: vs, _, h, .cons ⟨e, r⟩ t => by
    obtain ⟨q1, q2⟩ := kv_split (by simpa using h) t
    exact ⟨by simp only [List.map_cons]; rw [q1, ← e], .cons r q2⟩
  | [], v :: vs, _, h, _ => by simp at h
  | k :: ks, [], _, h, _ => by simp at h
theorem zip_key (ks : List Key) (ps : List PyData) (h : ks.length = ps.length) : ((ks.map keyPy).zip ps).map (·.1) = ks.map keyPy ∧ ((ks.map keyPy).zip ps).map (·.2) = ps := by
  constructor
  · rw [List.map_fst_zip]; simp [h]
  · rw [List.map_snd_zip]; simp [h]
theorem pds_length : ∀ {ds : List D} {ps}, D.pds ds = some ps → ds.length = ps.length
  | [], _, e => by cases e; rfl
  | d :: ds, _, e => by
    obtain ⟨p, qs, _, e2, rfl⟩ := pds_cons e
    simp [pds_length e2]
section
variable {pins : List (Addr × Obj)} {σ : L2.St} {H : Hp} {s : Shared}
mutual
theorem Rep.rd (I : Inv X pins σ H s) : ∀ {v d S p u}, Rep X.K H v d S → RelV v u → D.pd d = some p → ∃ as, Reads s.heap u p as ∧ (d.noLst = true → sysModules ∉ as)
  | _, _, _, _, _, .non, r, e => by cases e; cases r; exact ⟨_, .none, fun _ => by simp⟩
  | _, _, _, _, _, .bl b, r, e => by cases e; cases r; exact ⟨_, .bool b, fun _ => by simp⟩
  | _, _, _, _, _, .int b, r, e => by cases e; obtain ⟨t, rfl⟩ := r; exact ⟨_, .int b t, fun _ => by simp⟩
  | _, _, _, _, _, .str b, r, e => by cases e; obtain ⟨t, rfl⟩ := r; exact ⟨_, .str b t, fun _ => by simp⟩
  | _, _, _, _, _, .ty b, r, e => by cases e
  | _, _, _, _, _, .scr h, r, e => by
    cases e
    cases r
    obtain ⟨its, rv, ⟨o, n, ho, hc, _, hd⟩, _⟩ := I.list h.sq
    obtain ⟨as, q, _⟩ := readsAll_ints (h := s.heap) rv
    exact ⟨_, .list ho hc hd q, fun z => by cases z⟩
  | _, _, _, _, _, .tup (ds := ds) h hr, r, e => by
    cases e1 : D.pds ds with
    | none => simp [D.pd, e1] at e
    | some ps =>
      simp [D.pd, e1] at e
      subst e
      cases r
      obtain ⟨its, rv, ⟨o, ho, hc, n, hd⟩, _⟩ := I.tuple h
      obtain ⟨as, q, hs⟩ := Reps.rd I hr rv e1
      exact ⟨_, .tuple ho hc hd q, fun z => hs (by simpa [D.noLst] using z)⟩
  | _, _, _, _, _, .lst (ds := ds) h hr, r, e => by
    cases e1 : D.pds ds with
    | none => simp [D.pd, e1] at e
    | some ps =>
      simp [D.pd, e1] at e
      subst e
      cases r
      obtain ⟨its, rv, ⟨o, n, ho, hc, _, hd⟩, _⟩ := I.list (SqL.of h)
      obtain ⟨as, q, hs⟩ := Reps.rd I hr rv e1
      exact ⟨_, .list ho hc hd q, fun z => by cases z⟩
  | _, _, _, _, _, .dk (a := a) (ks := ks) (vs := vs) (ds := ds) h hl hr, r, e => by
    cases e1 : D.pds ds with
    | none => simp [D.pd, e1] at e
    | some ps =>
      simp [D.pd, e1] at e
      subst e
      cases r
      obtain ⟨z, y, kvs, kv, o, es, ep, ho, ex, hd, hk, hp, hnd⟩ := I.hok a _ h
      obtain ⟨k1, k2⟩ := kv_split hl kv
      obtain ⟨as, q, hs⟩ := Reps.rd I hr k2 e1
      obtain ⟨p1, p2⟩ := dictReads (h := s.heap) hp
      have hlen : ks.length = ps.length := by rw [hl, hr.length, pds_length e1]
      obtain ⟨z1, z2⟩ := zip_key ks ps hlen
      refine ⟨_, .dict (kvs := (ks.map keyPy).zip ps) (as := []) (bs := as) ho ex.1 hd ?_ ?_, fun zz => ?_⟩
      · rw [z1, ← k1, List.map_map]
        exact p1
      · rw [z2, p2]; exact q
      · have h1 := hs (by simpa [D.noLst] using zz)
        intro hm
        rcases List.mem_cons.mp (by simpa using hm) with q1 | q1
        · rw [← q1] at y; simp at y
        · exact h1 (by simpa using q1)
  | _, _, _, _, _, .dt _ _ _, _, e => by cases e
theorem Reps.rd (I : Inv X pins σ H s) : ∀ {v d S p u}, Reps X.K H v d S → Vals v u → D.pds d = some p → ∃ as, ReadsAll s.heap u p as ∧ (D.noLsts d = true → sysModules ∉ as)
  | _, _, _, _, _, .nil, r, e => by cases e; cases r; exact ⟨_, .nil, fun _ => by simp⟩
  | _, _, _, _, _, .cons h hr, r, e => by
    obtain ⟨p, qs, e1, e2, rfl⟩ := pds_cons e
    cases r with
    | cons r1 r2 =>
      obtain ⟨as, q1, n1⟩ := Rep.rd I h r1 e1
      obtain ⟨bs, q2, n2⟩ := Reps.rd I hr r2 e2
      refine ⟨_, .cons q1 q2, fun z => ?_⟩
      simp only [D.noLsts, Bool.and_eq_true] at z
      intro hm
      exact (List.mem_append.mp hm).elim (n1 z.1) (n2 z.2)
end
theorem Top.full {K H v d S} (h : Top K H v d S) : ∃ S', Rep K H v d S' := by
  cases h with
  | sc h _ => exact ⟨_, h⟩
  | lst h1 h2 => exact ⟨_, .lst h1 h2⟩
  | dk h1 h2 h3 => exact ⟨_, .dk h1 h2 h3⟩
  | dt h1 h2 h3 => exact ⟨_, .dt h1 h2 h3⟩
end
theorem repr_ok (hr : Room k X.A) (hg : X.A.guards = some []) {pins : List (Addr × Obj)} {s : Shared} {σ : L2.St} {H : Hp} {v : V} {u : Value} {d : D} {x : Str} {T : Addr → Prop} {Q : VK} (I : Inv X pins σ H s) (r : RelV v u) (h : TopB X.K H T v d) (e : reprD d = some x)
    (q : Q (.str x) H) : wpAny (model X.prog X.w) X.A (call (.builtin "repr") [u]) (EP X pins σ Q) X.xe s := by
  have hu : X.A.units + 65 < cLine := by have := hr.un; omega
  unfold reprD at e
  split at e
  case h_2 => cases e
  rename_i p ep
  split at e
  case isFalse => cases e
  rename_i hc
  cases e
  simp only [Bool.and_eq_true, Bool.or_eq_true, Bool.not_eq_true', decide_eq_true_eq] at hc
  obtain ⟨⟨⟨c1, c2⟩, c3⟩, c4⟩ := hc
  obtain ⟨S, ht, hS⟩ := h
  obtain ⟨S', hrp⟩ := ht.full
  obtain ⟨as, rd, hn⟩ := hrp.rd I r ep
  have fin : ∀ h' (t : Tok) tk, (∀ b o, s.heap.get? b = some o → h'.get? b = some o) → EP X pins σ Q (.str p.shown t) { s with heap := h', toks := tk } := fun h' t tk hk => ⟨.str p.shown, H, I.kept hk, ⟨_, rfl⟩, q⟩
  have fin0 : EP X pins σ Q (.str p.shown s.toks) { s with toks := s.toks + 1 } := fin s.heap _ _ fun _ _ z => z
  cases rd with
  | none => exact PySem.P.repr_of_none (by simpa [PyData.shown] using fin0)
  | bool b => exact PySem.P.repr_of_bool (by simpa [PyData.shown] using fin0)
  | int i t => exact PySem.P.repr_of_int (by simpa [PyData.showable] using c1) (by simpa [PyData.shown] using fin0)
  | str x t => exact PySem.P.repr_of_str (by simpa [PyData.shown] using fin0) (by simpa [PyData.shown] using c4)
  | list h1 h2 h3 h4 => exact repr_of_reads' (.list h1 h2 h3 h4) c1 (fun z => hn (c2.resolve_left (by rw [z]; simp))) hg (by omega) (fun _ _ z => z) fin c4
  | tuple h1 h2 h3 h4 => exact repr_of_reads' (.tuple h1 h2 h3 h4) c1 (fun z => hn (c2.resolve_left (by rw [z]; simp))) hg (by omega) (fun _ _ z => z) fin c4
  | dict h1 h2 h3 h4 h5 => exact repr_of_reads' (.dict h1 h2 h3 h4 h5) c1 (fun z => hn (c2.resolve_left (by rw [z]; simp))) hg (by omega) (fun _ _ z => z) fin c4

/-! ### sorted -/
theorem sort_ok (hr : Room k X.A) {pins : List (Addr × Obj)} {s : Shared} {σ : L2.St} {H : Hp} {a : Addr} {vs : List V} {xs ys : List D} {T : Addr → Prop} {Q : VK} (I : Inv X pins σ H s) (ha : H a = some (.lst vs)) (h : RepsB X.K H T vs xs) (e : sortD xs = some ys)
    (q : ∀ p zs, H p = none → RepsB X.K H T zs ys → Q (.ref p) (upd H p (.lst zs))) : wpAny (model X.prog X.w) X.A (call (.builtin "sorted") [.ref a]) (EP X pins σ Q) X.xe s := by
  have hu : X.A.units + 65 < cLine := by have := hr.un; omega
  unfold sortD at e
  split at e
  case h_2 => cases e
  rename_i ps eps
  split at e
  case isFalse => cases e
  rename_i hc
  cases e
  simp only [Bool.and_eq_true] at hc
  obtain ⟨⟨c1, c2⟩, c3⟩ := hc
  obtain ⟨its, rv, hl, hz⟩ := I.list (SqL.of ha)
  -- the items, with their values and data
  have pack : ∀ {vs : List V} {xs : List D} {ps : List PyData} {its : List Value}, RepsB X.K H T vs xs → D.pys xs = some ps → Vals vs its → ∃ bs : List (V × D × PyData), bs.map (·.2) = xs.zip ps ∧ bs.map (·.2.2) = ps ∧ bs.length = its.length ∧
      PySem.W.EachIs (fun u b => RelV b.1 u) its bs ∧ PySem.W.EachIs (fun u (b : V × D × PyData) => ∃ as, Reads s.heap u b.2.2 as) its bs ∧ ∀ b ∈ bs, RepB X.K H T b.1 b.2.1 := by
    intro vs xs ps its h e rv
    induction xs generalizing vs ps its with
    | nil =>
      cases e
      cases vs with
      | nil => cases rv; exact ⟨[], rfl, rfl, rfl, .nil, .nil, fun _ z => nomatch z⟩
      | cons v vs => have := h.length; simp at this
    | cons x xs ih =>
      obtain ⟨p, qs, e1, e2, rfl⟩ := pys_cons e
      cases vs with
      | nil => have := h.length; simp at this
      | cons v vs =>
        obtain ⟨h1, h2⟩ := h.uncons
        cases rv with
        | cons r1 r2 =>
          obtain ⟨bs, b1, b1', b2, b3, b4, b5⟩ := ih h2 e2 r2
          obtain ⟨S, hrp, hS⟩ := id h1
          obtain ⟨as, rd⟩ := Dp.reads I p v _ (hrp.dp e1) r1
          exact ⟨(v, x, p) :: bs, by simp [b1], by simp [b1'], by simp [b2], .cons r1 b3, .cons ⟨as, rd⟩ b4, fun b hb => (List.mem_cons.mp hb).elim (fun z => by rw [z]; exact h1) (b5 b)⟩
  obtain ⟨bs, b1, b1', b2, b3, b4, b5⟩ := pack h eps rv
  refine PySem.W.sorted_data (enc := fun b : V × D × PyData => b.2.2) hl.isList b3 b4 ?_ ?_ (by rw [b2, ← rv.length]; exact hz) (fun b hb => ?_) fun out ho hout => ?_
  · rw [b1']
    intro d hd d' hd'
    exact List.all_eq_true.mp (List.all_eq_true.mp c2 d hd) d' hd'
  · rw [b1']
    unfold sortableB at c1
    rcases Bool.or_eq_true_iff.mp c1 with c | c
    · refine .inl fun d hd => ?_
      have := List.all_eq_true.mp c d hd
      split at this
      · exact ⟨_, _, rfl⟩
      · cases this
    · refine .inr fun d hd => ?_
      have := List.all_eq_true.mp c d hd
      refine ⟨fun z => (by rw [z] at this; cases this), fun xs z => (by rw [z] at this; cases this)⟩
  · have := of_decide_eq_true (List.all_eq_true.mp c3 b.2.2 (by rw [← b1']; exact List.mem_map.mpr ⟨b, hb, rfl⟩))
    omega
  · obtain ⟨ep, he'⟩ := PyProof.Rows.sortedAll_at s.heap its out.toArray
    -- the values
    have vals : ∀ {out : List Value} {cs : List (V × D × PyData)}, PySem.W.EachIs (fun u b => RelV b.1 u) out cs → Vals (cs.map (·.1)) out := by
      intro out cs h
      induction h with
      | nil => exact .nil
      | cons h1 _ ih => exact .cons h1 ih
    have hv := vals hout
    have reps : ∀ {cs : List (V × D × PyData)}, (∀ b ∈ cs, RepB X.K H T b.1 b.2.1) → RepsB X.K H T (cs.map (·.1)) (cs.map (·.2.1)) := by
      intro cs
      induction cs with
      | nil => intro _; exact .nil
      | cons c cs ih => intro h; exact .cons (h c (List.mem_cons_self ..)) (ih fun b hb => h b (List.mem_cons_of_mem _ hb))
    have hrs := reps (cs := bs.mergeSort (PySem.W.dataLe false fun b : V × D × PyData => b.2.2)) fun b hb => b5 b ((List.mergeSort_perm bs _).mem_iff.mp hb)
    have em : (bs.mergeSort (PySem.W.dataLe false fun b : V × D × PyData => b.2.2)).map (·.2.1) = ((xs.zip ps).mergeSort leD).map (·.1) := by
      rw [← b1, ← List.map_mergeSort (r := PySem.W.dataLe false fun b : V × D × PyData => b.2.2) (s := leD) (f := (·.2)) (hl := fun _ _ _ _ => rfl), List.map_map]
      rfl
    rw [em] at hrs
    have hlen : ((bs.mergeSort (PySem.W.dataLe false fun b : V × D × PyData => b.2.2)).map (·.1)).length ≤ sizeLine := by
      rw [List.length_map, List.length_mergeSort, b2, ← rv.length]; exact hz
    exact ⟨.ref _, _, I.laid (t' := s.toks) (o := .lst ((bs.mergeSort (PySem.W.dataLe false fun b : V × D × PyData => b.2.2)).map (·.1))) (fun _ _ => PyProof.Rows.sortedAll_old) (Nat.le_succ _) ⟨hlen, out, ep, hv, he'⟩, rfl, q _ _ (I.hok.fresh (Nat.le_succ _)) hrs⟩
end
end Lw
end

section
set_option Elab.async false
set_option linter.all false
set_option maxRecDepth 100000
set_option maxHeartbeats 4000000
/-! L5: the calls of built-ins keep biS, tyS; subscripts, slices -/
namespace Lw
open PySem L2 PyProof.Rows
variable [TabInfo]
section
variable {X : Cx} {k : Nat}
theorem reps_intsB {K H T} : ∀ ns : List Int, RepsB K H T (ns.map V.int) (ns.map D.int)
  | [] => .nil
  | n :: ns => .cons (.int n) (reps_intsB ns)
theorem bi_ok (hr : Room k X.A) (hc : X.calm = true) (hg : X.A.guards = some []) (b : Bi) : CallR X (.builtin b.id) (rnD X.K (biS b)) := by
  intro pins s σ H xs us Q I rs ⟨T, ds, ht, h⟩
  unfold biS at h
  split at h
  · -- len
    rename_i d
    obtain ⟨v, rfl, tv⟩ := ht.one
    cases e : lenD d with
    | none => rw [e] at h; exact h.elim
    | some n =>
      rw [e] at h
      have q : Q (.int n) H := PostP.v h (.int _)
      rcases lenD_v tv e with ⟨z, rfl, hz, rfl⟩ | ⟨p, ys, rfl, hs, rfl⟩ | ⟨p, kvs, rfl, hs, rfl⟩
      · exact call_len_str pins s σ H _ us Q I rs ⟨z, rfl, hz, q⟩
      · exact call_len_seq pins s σ H _ us Q I rs ⟨p, ys, rfl, hs, q⟩
      · exact call_lenD pins s σ H _ us Q I rs ⟨p, kvs, rfl, hs, q⟩
  · obtain ⟨v, rfl, tv⟩ := ht.one
    have := tv.int; subst this
    exact call_abs pins s σ H _ us Q I rs ⟨_, rfl, PostP.v h (.int _)⟩
  · obtain ⟨v, w, rfl, tv, tw⟩ := ht.two
    have := tv.int; subst this
    have := tw.int; subst this
    exact call_max2 hc pins s σ H _ us Q I rs ⟨_, _, rfl, PostP.v h (.int _)⟩
  · obtain ⟨v, w, rfl, tv, tw⟩ := ht.two
    have := tv.int; subst this
    have := tw.int; subst this
    exact call_min2 hc pins s σ H _ us Q I rs ⟨_, _, rfl, PostP.v h (.int _)⟩
  · split at h
    · rename_i xs i r e
      obtain ⟨v, rfl, tv⟩ := ht.one
      obtain ⟨a, vs, rfl, ha, hrs⟩ := tv.lst
      have ev := ints_v hrs e
      subst ev
      refine cr_max hc pins s σ H _ us Q I rs ⟨a, i :: r, rfl, SqL.of ha, by simp, fun m hm hle => ?_⟩
      obtain ⟨m1, m2⟩ := maxL_mem i r
      have em : m = maxL (i :: r) := by have h1 := m2 m hm; have h2 := hle _ m1; omega
      rw [em]
      exact PostP.v h (.int _)
    · exact h.elim
  · split at h
    · rename_i xs i r e
      obtain ⟨v, rfl, tv⟩ := ht.one
      obtain ⟨a, vs, rfl, ha, hrs⟩ := tv.lst
      have ev := ints_v hrs e
      subst ev
      refine cr_min hc pins s σ H _ us Q I rs ⟨a, i :: r, rfl, SqL.of ha, by simp, fun m hm hle => ?_⟩
      obtain ⟨m1, m2⟩ := minL_mem i r
      have em : m = minL (i :: r) := by have h1 := m2 m hm; have h2 := hle _ m1; omega
      rw [em]
      exact PostP.v h (.int _)
    · exact h.elim
  · rename_i xs
    cases e : intsOf xs with
    | none => rw [e] at h; exact h.elim
    | some ns =>
      rw [e] at h
      obtain ⟨v, rfl, tv⟩ := ht.one
      obtain ⟨a, vs, rfl, ha, hrs⟩ := tv.lst
      have ev := ints_v hrs e
      subst ev
      exact cr_sum hc pins s σ H _ us Q I rs ⟨a, ns, rfl, SqL.of ha, PostP.v h (.int _)⟩
  · rename_i xs
    cases e : intsOf xs with
    | none => rw [e] at h; exact h.elim
    | some ns =>
      rw [e] at h
      obtain ⟨v, rfl, tv⟩ := ht.one
      obtain ⟨a, vs, rfl, ha, hrs⟩ := tv.tup
      have ev := ints_v hrs e
      subst ev
      obtain ⟨its, rv, hl, _⟩ := I.tuple ha
      rw [Vals.ref1 rs]
      refine sum_tup_raw (I.ok.hd hc) (show s.heap.IsTuple a its.toArray from hl) rv.ints fun h' tk t' hk => ?_
      exact ⟨.int _, H, I.kept hk, ⟨_, rfl⟩, PostP.v h (.int _)⟩
  · rename_i xs
    cases e : blsOf xs with
    | none => rw [e] at h; exact h.elim
    | some ns =>
      rw [e] at h
      obtain ⟨v, rfl, tv⟩ := ht.one
      obtain ⟨a, vs, rfl, ha, hrs⟩ := tv.lst
      have ev := bls_v hrs e
      subst ev
      exact cr_all hc pins s σ H _ us Q I rs ⟨a, ns, rfl, SqL.of ha, PostP.v h (.bl _)⟩
  · rename_i xs
    cases e : blsOf xs with
    | none => rw [e] at h; exact h.elim
    | some ns =>
      rw [e] at h
      obtain ⟨v, rfl, tv⟩ := ht.one
      obtain ⟨a, vs, rfl, ha, hrs⟩ := tv.lst
      have ev := bls_v hrs e
      subst ev
      exact cr_any hc pins s σ H _ us Q I rs ⟨a, ns, rfl, SqL.of ha, PostP.v h (.bl _)⟩
  · rename_i xs
    cases e : sortD xs with
    | none => rw [e] at h; exact h.elim
    | some ys =>
      rw [e] at h
      obtain ⟨v, rfl, tv⟩ := ht.one
      obtain ⟨a, vs, rfl, ha, hrs⟩ := tv.lst
      rw [Vals.ref1 rs]
      exact sort_ok hr I ha hrs e fun p zs hp hz => PostP.newLst h hp hz
  · rename_i ks ds
    split at h
    · rename_i ns en
      split at h
      · rename_i h64
        obtain ⟨v, rfl, tv⟩ := ht.one
        obtain ⟨a, vs, rfl, ha, hl, _⟩ := tv.dkv
        refine call_sortedDI hc pins s σ H _ us Q I rs ⟨a, _, ns, rfl, .inl ha, ?_, h64, fun ys p hp hs hn => ?_⟩
        · rw [List.map_fst_zip (Nat.le_of_eq hl)]; exact keyInts_map en
        · rw [sortI_uniq hp hs]; exact PostP.newLst h hn (reps_intsB _)
      · exact h.elim
    · exact h.elim
  · rename_i d
    cases e : reprD d with
    | none => rw [e] at h; exact h.elim
    | some x =>
      rw [e] at h
      obtain ⟨v, rfl, tv⟩ := ht.one
      obtain ⟨u, rfl, r⟩ := vals1 rs
      exact repr_ok hr hg I r tv e (PostP.v h (.str _))
  · rename_i d n
    unfold isiD at h
    split at h
    · rename_i t et
      split at h
      · rename_i hn
        obtain ⟨v, w, rfl, tv, tw⟩ := ht.two
        have := tw.ty; subst this
        simp only [Bool.and_eq_true, bne_iff_ne] at hn
        have hk := isi_all t (tyD_mem et) n (List.contains_iff_mem.mp hn.1) hn.2
        exact call_isi pins s σ H _ us Q I rs ⟨v, .ty n, _, _, _, rfl, .ty n, tyD_x tv et, kit_ty hk, PostP.v h (.bl _)⟩
      · exact h.elim
    · exact h.elim
  · exact h.elim
theorem ty_ok (b : Bt) : CallR X (.type b.id) (rnD X.K (tyS b)) := by
  intro pins s σ H xs us Q I rs ⟨T, ds, ht, h⟩
  unfold tyS at h
  split at h
  · obtain ⟨v, rfl, tv⟩ := ht.one
    have := tv.int; subst this
    exact call_int1 pins s σ H _ us Q I rs (.inl ⟨_, rfl, PostP.v h (.int _)⟩)
  · obtain ⟨v, rfl, tv⟩ := ht.one
    have := tv.bl; subst this
    exact call_int1 pins s σ H _ us Q I rs (.inr ⟨_, rfl, PostP.v h (.int _)⟩)
  · split at h
    · obtain ⟨v, rfl, tv⟩ := ht.one
      have := tv.int; subst this
      exact call_str_int pins s σ H _ us Q I rs ⟨_, rfl, by assumption, PostP.v h (.str _)⟩
    · exact h.elim
  · obtain ⟨v, rfl, tv⟩ := ht.one
    obtain ⟨a, vs, rfl, ha, hrs⟩ := tv.lst
    exact call_list_of pins s σ H _ us Q I rs ⟨a, vs, rfl, .inl (SqL.of ha), fun l hl => PostP.newLst h hl hrs⟩
  · obtain ⟨v, rfl, tv⟩ := ht.one
    obtain ⟨a, vs, rfl, ha, hrs⟩ := tv.tup
    exact call_list_of pins s σ H _ us Q I rs ⟨a, vs, rfl, .inr ha, fun l hl => PostP.newLst h hl hrs⟩
  · obtain ⟨v, rfl, tv⟩ := ht.one
    obtain ⟨a, vs, rfl, ha, hrs⟩ := tv.lst
    exact call_tuple_of pins s σ H _ us Q I rs ⟨a, vs, rfl, .inl ⟨SqL.of ha, fun l hl => PostP.newTup h hl hrs⟩⟩
  · obtain ⟨v, rfl, tv⟩ := ht.one
    obtain ⟨a, vs, rfl, ha, hrs⟩ := tv.tup
    exact call_tuple_of pins s σ H _ us Q I rs ⟨a, vs, rfl, .inr ⟨ha, PostP.v h (.tup ha hrs)⟩⟩
  · exact h.elim
/-! ### subscripts -/
def ixS (a b : D) : Option Sl := match a, b with
  | .lst xs, .int i => (atI xs i).map .val
  | .tup xs, .int i => (atI xs i).map .val
  | .scr ns, .int i => (atI ns i).map vI
  | .str z, .int i => if z.length ≤ sizeLine then (atI z.cps.toList i).map fun c => .val (.str ⟨#[c]⟩) else none
  | _, _ => none
theorem atI_reps {K H T} {vs : List V} {xs : List D} {i : Int} {d : D} (h : RepsB K H T vs xs) (e : atI xs i = some d) : ∃ v, atI vs i = some v ∧ RepB K H T v d := by
  unfold atI at e ⊢
  rw [h.length]
  cases e1 : ixN xs.length i with
  | none => rw [e1] at e; cases e
  | some j =>
    rw [e1] at e
    obtain ⟨v, e2, r⟩ := h.get e
    exact ⟨v, e2, r⟩
theorem ix_ok : IxR X (r2D X.K ixS) := by
  intro value slice pins s σ H x y v u Q I rx ry ⟨T, a, b, ha, hb, h⟩ hs
  unfold ixS at h
  split at h
  · rename_i xs i
    cases e : atI xs i with
    | none => rw [e] at h; exact h.elim
    | some d =>
      rw [e] at h
      obtain ⟨p, vs, rfl, hl, hrs⟩ := ha.lst
      have := hb.int; subst this
      obtain ⟨w, e2, r⟩ := atI_reps hrs e
      exact ix_list value slice pins s σ H _ _ v u Q I rx ry ⟨p, vs, i, w, rfl, rfl, SqL.of hl, e2, PostP.v h r⟩ hs
  · rename_i xs i
    cases e : atI xs i with
    | none => rw [e] at h; exact h.elim
    | some d =>
      rw [e] at h
      obtain ⟨p, vs, rfl, hl, hrs⟩ := ha.tup
      have := hb.int; subst this
      obtain ⟨w, e2, r⟩ := atI_reps hrs e
      exact ix_tup value slice pins s σ H _ _ v u Q I rx ry ⟨p, vs, i, w, rfl, rfl, hl, e2, PostP.v h r⟩ hs
  · rename_i ns i
    cases e : atI ns i with
    | none => rw [e] at h; exact h.elim
    | some n =>
      rw [e] at h
      obtain ⟨p, rfl, hl⟩ := ha.scr
      have := hb.int; subst this
      refine ix_list value slice pins s σ H _ _ v u Q I rx ry ⟨p, _, i, .int n, rfl, rfl, hl.sq, ?_, PostP.v h (.int _)⟩ hs
      unfold atI at e ⊢
      rw [List.length_map]
      cases e1 : ixN ns.length i with
      | none => rw [e1] at e; cases e
      | some j =>
        rw [e1] at e
        have e' : ns[j]? = some n := e
        show (ns.map V.int)[j]? = _
        rw [List.getElem?_map, e']; rfl
  · rename_i z i
    split at h
    · cases e : atI z.cps.toList i with
      | none => rw [e] at h; exact h.elim
      | some c =>
        rw [e] at h
        have := ha.str; subst this
        have := hb.int; subst this
        exact ix_str value slice pins s σ H _ _ v u Q I rx ry ⟨z, i, c, rfl, rfl, by assumption, e, PostP.v h (.str _)⟩ hs
    · exact h.elim
  · exact h.elim
/-! ### slices -/
def cutD {α : Type} (xs : List α) (lo hi : Option Int) : List α := (xs.drop (HT.sIx xs.length 0 lo)).take (HT.sIx xs.length xs.length hi - HT.sIx xs.length 0 lo)
def slS (a : D) (lo hi : Option Int) : Option Sl := match a with
  | .lst xs => some (.own (.lst (cutD xs lo hi)))
  | .tup xs => some (.val (.tup (cutD xs lo hi)))
  | .scr ns => some (.own (.lst ((cutD ns lo hi).map .int)))
  | .str z => if z.length ≤ sizeLine then some (.val (.str (cutS z lo hi))) else none
  | _ => none
theorem cut_reps {K H T} {vs : List V} {xs : List D} (h : RepsB K H T vs xs) (lo hi : Option Int) : RepsB K H T (cutV vs lo hi) (cutD xs lo hi) := by
  unfold cutV cutD
  rw [h.length]
  exact (h.drop _).take _
def rsD (K : PySem.W.Frag) : V → Option Int → Option Int → Hp → VK → Prop := fun x lo hi H Q => ∃ T a, TopB K H T x a ∧ PostP K H T Q (slS a lo hi)
theorem reps_ints {K H T} : ∀ ns : List Int, RepsB K H T (ns.map V.int) (ns.map D.int)
  | [] => .nil
  | n :: ns => .cons (.int n) (reps_ints ns)

theorem sl_ok : SlR X (rsD X.K) := by
  intro pins s σ H x v vl vu lo hi sl Q I rx hs pl pu ⟨T, a, ha, h⟩
  unfold slS at h
  split at h
  · obtain ⟨p, vs, rfl, hl, hrs⟩ := ha.lst
    exact sl_list pins s σ H _ v vl vu lo hi sl Q I rx hs pl pu ⟨p, vs, rfl, SqL.of hl, fun q hq => PostP.newLst h hq (cut_reps hrs lo hi)⟩
  · rename_i xs
    obtain ⟨p, vs, rfl, hl, hrs⟩ := ha.tup
    refine sl_tupA pins s σ H _ v vl vu lo hi sl Q I rx hs pl pu ⟨p, vs, rfl, hl, fun ⟨e1, e2⟩ => ?_, fun _ q hq => PostP.newTup h hq (cut_reps hrs lo hi)⟩
    have e : cutD xs lo hi = xs := by
      unfold cutD
      rw [← hrs.length, e1, e2, List.drop_zero, Nat.sub_zero, List.take_of_length_le (Nat.le_of_eq hrs.length.symm)]
    rw [e] at h
    exact PostP.v h (.tup hl hrs)
  · rename_i ns
    obtain ⟨p, rfl, hl⟩ := ha.scr
    refine sl_list pins s σ H _ v vl vu lo hi sl Q I rx hs pl pu ⟨p, _, rfl, hl.sq, fun q hq => ?_⟩
    have e : cutV (ns.map V.int) lo hi = (cutD ns lo hi).map V.int := by
      unfold cutV cutD
      rw [List.length_map, List.map_take, List.map_drop]
    rw [e]
    exact PostP.newLst h hq (reps_ints _)
  · split at h
    · have := ha.str; subst this
      exact sl_str pins s σ H _ v vl vu lo hi sl Q I rx hs pl pu ⟨_, rfl, by assumption, PostP.v h (.str _)⟩
    · exact h.elim
  · exact h.elim
end
end Lw
end

section
set_option Elab.async false
set_option linter.all false
set_option maxRecDepth 100000
set_option maxHeartbeats 4000000
/-! L6: the intermediate language and what it comes to -/
namespace Lw
open PySem L2
variable [TabInfo]

inductive Tgt where
  | nm (i : Nat)
  | tup (ts : List Tgt)
  deriving Inhabited

/-- methods of texts, lists, tuples that change nothing -/
inductive Mt where
  | upper | lcount
  deriving DecidableEq

inductive E where
  | non | bl (b : Bool) | int (i : Int) | str (x : Str) | tyc (n : String) | cst (c : Nat)
  /-- a slot: read in place; frozen; handed on -/
  | var (i : Nat) | fz (i : Nat) | mv (i : Nat)
  | bop (o : Operator) (a b : E) | cmp (o : CmpOp) (a b : E) | chn (o o' : CmpOp) (a b c : E) | neg (a : E)
  | andV (a b : E) | orV (a b : E) | notV (a : E) | ite (c a b : E)
  | bi (b : Bi) (as : List E) | ty (t : Bt) (as : List E) | mth (m : Mt) (a : E) (as : List E)
  | lr1 (a : E) | lr2 (a b : E) | dict0 | dict1 (k : Str) (n : Int) | dicti (k : Int) (b : Bool) | sset (a : E)
  /-- _law_heard(lambda: a), where nothing is raised -/
  | heard (a : E)
  | idx (a b : E) | slc (a : E) (lo hi : E) | rev (a : E)
  | tup (as : List E) | lst (as : List E) | star (a : E)
  | lc (elt : E) (tg : Tgt) (it : E) (ifs : List E) (own : List Nat)
  | call (f : Nat) (as : List E)
  /-- what is walked: a list or tuple; range; enumerate; zip -/
  | rng1 (a : E) | rng2 (a b : E) | enum (a : E) | zip (a b : E)
  deriving Inhabited

inductive S where
  | set (i : Nat) (e : E) | setT (tg : Tgt) (e : E) | par (is : List Nat) (es : List E) | aug (i : Nat) (o : Operator) (e : E)
  | sidx (i : Nat) (k e : E) | dset (i : Nat) (k e : E) | app (i : Nat) (e : E) | ext (i : Nat) (e : E)
  | ex (e : E) | ret (e : E) | retN
  | ite (c : E) (a b : List S) | whl (c : E) (a : List S) | for_ (tg : Tgt) (it : E) (a : List S)
  | brk | cnt | pas | nev
  deriving Inhabited

inductive SR where
  | nx (E : SE) | rt (s : Sl) (E : SE) | bk (E : SE) | ct (E : SE) | exc (C : Str) (x : D) (E : SE) | bad

def truthD : D → Option Bool
  | .non => some false
  | .bl b => some b
  | .int i => some (i != 0)
  | .str x => if x.length ≤ sizeLine then some ((x.length : Int) != 0) else none
  | .lst xs => some (!xs.isEmpty)
  | .tup xs => some (!xs.isEmpty)
  | .scr ns => some (!ns.isEmpty)
  | .dk ks _ => some (!ks.isEmpty)
  | _ => none
def M.opt {α} : Option α → M α
  | some a => M.pure a
  | none => M.bad
def mtS (m : Mt) (d : D) (ds : List D) : Option Sl := match m, d, ds with
  | .upper, .str x, [] => if x.length ≤ 5592405 then some (.val (.str (Txt.upper x))) else none
  | .lcount, .lst xs, [.int i] => (intsOf xs).map fun ns => vI (ns.count i)
  | _, _, _ => none
def mtP (m : Mt) : List D → Option Sl
  | d :: r => mtS m d r
  | _ => none
/-- a value for a display: frozen -/
def frozen : Sl → Sl
  | .own d => .val d
  | s => s
def popS (i : Nat) : M Sl := fun E => match E[i]? with
  | some (.own d) => .ok (.own d) (E.set i .no)
  | some (.val d) => .ok (.val d) E
  | _ => .bad
def fzS (i : Nat) : M Sl := fun E => match E[i]? with
  | some (.own d) => .ok (.val d) (E.set i (.val d))
  | some (.val d) => .ok (.val d) E
  | _ => .bad
def varS (i : Nat) : M Sl := fun E => match E[i]? with
  | some (.val d) => .ok (.val d) E
  | _ => .bad
mutual
def bindT : Tgt → D → SE → Option SE
  | .nm i, d, E => if i < E.length then some (E.set i (.val d)) else none
  | .tup ts, .tup ds, E => bindTs ts ds E
  | .tup _, _, _ => none
def bindTs : List Tgt → List D → SE → Option SE
  | [], [], E => some E
  | t :: ts, d :: ds, E => (bindT t d E).bind (bindTs ts ds)
  | _, _, _ => none
end
/-- the items of what is walked -/
def itemsD : D → Option (List D)
  | .lst xs => some xs
  | .tup xs => some xs
  | _ => none
def rngD (lo hi : Int) : List D := (List.range (hi - lo).toNat).map fun (i : Nat) => .int (lo + i)
def enumD (xs : List D) : List D := xs.zipIdx.map fun p => .tup [.int p.2, p.1]
def zipD (xs ys : List D) : List D := (xs.zip ys).map fun p => .tup [p.1, p.2]
/-- pairs of small ints, sorted, each once -/
def prOf : D → Option (Int × Int)
  | .tup [.int a, .int b] => if (0 ≤ a ∧ a < 2 ^ 31) ∧ (0 ≤ b ∧ b < 2 ^ 31) then some (a, b) else none
  | _ => none
def prsOf : List D → Option (List (Int × Int))
  | [] => some []
  | d :: r => match prOf d, prsOf r with
    | some p, some ps => some (p :: ps)
    | _, _ => none
def ltP (p q : Int × Int) : Bool := decide (p.1 < q.1) || (decide (p.1 = q.1) && decide (p.2 < q.2))
def insP (p : Int × Int) : List (Int × Int) → List (Int × Int)
  | [] => [p]
  | q :: r => if ltP p q then p :: q :: r else if p = q then q :: r else q :: insP p r
def sortP : List (Int × Int) → List (Int × Int)
  | [] => []
  | p :: r => insP p (sortP r)
def prD (p : Int × Int) : D := .tup [.int p.1, .int p.2]
def ssetS : D → Option Sl
  | .lst xs => match prsOf xs with
    | some ps => if ps.length < 64 then some (.own (.lst ((sortP ps).map prD))) else none
    | none => none
  | _ => none
def lrS (lo hi : Int) : Option Sl := if (-(2 ^ 62) ≤ lo ∧ lo < 2 ^ 62) ∧ (-(2 ^ 62) ≤ hi ∧ hi < 2 ^ 62) ∧ (hi - lo).toNat ≤ 2 ^ 24 then some (.own (.lst (rngD lo hi))) else none
def lr1S : D → Option Sl
  | .int n => lrS 0 n
  | _ => none
def lr2S : D → D → Option Sl
  | .int m, .int n => lrS m n
  | _, _ => none
def negS : D → Option Sl
  | .int i => some (vI (-i))
  | _ => none
def revS : D → Option Sl
  | .lst xs => some (.own (.lst xs.reverse))
  | .tup xs => some (.val (.tup xs.reverse))
  | _ => none
def isNonE : E → Bool
  | .non => true
  | _ => false
def partD : Bool → D → Option (Option Int)
  | true, .non => some none
  | false, .int i => some (some i)
  | _, _ => none
def partO (b : Bool) (o : Opd) : Opd := .ex (M.bind (evA [o]) fun ds => M.opt (match ds with | [d] => (partD b d).map fun _ => .val d | _ => none))
def slP (bl bh : Bool) (ds : List D) : Option Sl := match ds with
  | [x, l, u] => match partD bl l, partD bh u with
    | some lo, some hi => slS x lo hi
    | _, _ => none
  | _ => none
/-- the slots' values gone -/
def wipeE (E : SE) : List Nat → SE
  | [] => E
  | i :: r => (wipeE E r).set i .no
/-- .. put back from E0 -/
def backE (E0 E : SE) : List Nat → SE
  | [] => E
  | i :: r => (backE E0 E r).set i (E0.getD i .no)
def notOwn (E : SE) (own : List Nat) : Bool := own.all fun i => match E[i]? with
  | some (.own _) => false
  | some _ => true
  | none => false
/-- a comprehension's turns: the slots own are of its own -/
def lcI (bt : D → SE → Option SE) (tests : List (M Bool)) (elt : M Sl) (own : List Nat) : List D → List D → M (List D)
  | [], acc => M.pure acc
  | d :: r, acc => fun E => match bt d (wipeE E own) with
    | none => .bad
    | some E1 => (allT tests E1).bind fun b => fun E2 =>
      if b then (elt E2).bind fun s => fun E3 => if acc.length < sizeLine then lcI bt tests elt own r (acc ++ [s.d]) (wipeE E3 own) else .bad
      else lcI bt tests elt own r acc (wipeE E2 own)
where
  allT : List (M Bool) → M Bool
    | [] => M.pure true
    | t :: r => M.bind t fun b => if b then allT r else M.pure false
/-- values of arguments; a held slot's object is handed out -/
inductive Arg where
  | slot (i : Nat)
  | ex (f : M Sl)
def evC : List Arg → M (List Sl)
  | [] => M.pure []
  | .slot i :: r => do let _ ← slotAt i; let ss ← evC r; let s ← popS i; M.pure (s :: ss)
  | .ex f :: r => do let s ← f; let ss ← evC r; M.pure (s :: ss)
/-- behind a call: the slots that were handed out are put back -/
def putBack : List Arg → List Sl → List Sl → SE → SE
  | .slot i :: r, .own _ :: ss, p :: ps, E => (putBack r ss ps E).set i p
  | _ :: r, _ :: ss, _ :: ps, E => putBack r ss ps E
  | _, _, _, E => E
def callS (F : M Sl) (as : List Arg) : M Sl := fun E => match evC as E with
  | .ok ss E1 => match F ss with
    | .ok s ps => .ok s (putBack as ss ps E1)
    | .exc C x ps => .exc C x (putBack as ss ps E1)
    | .bad => .bad
  | .exc C x E1 => .exc C x E1
  | .bad => .bad

def heardS (m : M Sl) : M Sl := fun E => match m E with
  | .ok s E1 => .ok (.val (.tup [.non, s.d])) E1
  | _ => .bad
section
variable (Φ : Nat → M Sl) (C : Nat → D)
mutual
def ev : E → M Sl
  | .non => M.pure (.val .non)
  | .bl b => M.pure (vB b)
  | .int i => M.pure (vI i)
  | .str x => M.pure (.val (.str x))
  | .tyc n => M.pure (.val (.ty n))
  | .cst c => M.pure (.val (C c))
  | .var i => varS i
  | .fz i => fzS i
  | .mv i => popS i
  | .bop o a b => M.bind (evA [opd a, opd b]) fun ds => M.opt (match ds with | [x, y] => bopS o x y | _ => none)
  | .cmp o a b => M.bind (evA [opd a, opd b]) fun ds => M.opt (match ds with | [x, y] => cmpS o x y | _ => none)
  | .neg a => M.bind (evA [opd a]) fun ds => M.opt (match ds with | [x] => negS x | _ => none)
  | .andV a b => M.bind (ev a) fun s => match s with
    | .val (.bl true) => ev b
    | .val (.bl false) => M.pure (vB false)
    | _ => M.bad
  | .orV a b => M.bind (ev a) fun s => match s with
    | .val (.bl false) => ev b
    | .val (.bl true) => M.pure (vB true)
    | _ => M.bad
  | .notV a => M.bind (ev a) fun s => match s with
    | .val (.bl b) => M.pure (vB (!b))
    | _ => M.bad
  | .ite c a b => M.bind (evT c) fun k => if k then ev a else ev b
  | .chn o o' a b c => M.bind (evA [opd a, opd b]) fun ds => match ds with
    | [.int x, .int y] => match cmpS o (.int x) (.int y) with
      | some (.val (.bl true)) => M.bind (evA [opd c]) fun es => M.opt (match es with | [.int z] => cmpS o' (.int y) (.int z) | _ => none)
      | some (.val (.bl false)) => M.pure (vB false)
      | _ => M.bad
    | _ => M.bad
  | .bi b as => M.bind (evA (opds as)) fun ds => M.opt (biS b ds)
  | .ty t as => M.bind (evA (opds as)) fun ds => M.opt (tyS t ds)
  | .mth m a as => M.bind (evA (opd a :: opds as)) fun ds => M.opt (mtP m ds)
  | .idx a b => M.bind (evA [opd a, opd b]) fun ds => M.opt (match ds with | [x, y] => ixS x y | _ => none)
  | .slc a lo hi => M.bind (evA [opd a, partO (isNonE lo) (opd lo), partO (isNonE hi) (opd hi)]) fun ds => M.opt (slP (isNonE lo) (isNonE hi) ds)
  | .rev a => M.bind (evA [opd a]) fun ds => M.opt (match ds with | [x] => revS x | _ => none)
  | .tup as => M.bind (evD as) fun ds => if ds.length ≤ sizeLine then M.pure (.val (.tup ds)) else M.bad
  | .lst as => M.bind (evD as) fun ds => if ds.length ≤ sizeLine then M.pure (.own (.lst ds)) else M.bad
  | .star _ => M.bad
  | .lc elt tg it ifs own => M.bind (evI it) fun ds => fun E => if notOwn E own then
      (match lcI (bindT tg) (evTs ifs) (ev elt) own ds [] (wipeE E own) with
      | .ok acc E1 => .ok (.own (.lst acc)) (backE E E1 own)
      | _ => .bad) else .bad
  | .call f as => callS (Φ f) (args as)
  | .heard a => heardS (ev a)
  | .dict0 => M.pure (.own (.dk [] []))
  | .dict1 k n => M.pure (.own (.dk [.inr k] [.int n]))
  | .dicti k b => M.pure (.own (.dk [.inl k] [.bl b]))
  | .sset a => M.bind (evA [opd a]) fun ds => M.opt (match ds with | [x] => ssetS x | _ => none)
  | .lr1 a => M.bind (evA [opd a]) fun ds => M.opt (match ds with | [x] => lr1S x | _ => none)
  | .lr2 a b => M.bind (evA [opd a, opd b]) fun ds => M.opt (match ds with | [x, y] => lr2S x y | _ => none)
  | .rng1 _ => M.bad
  | .rng2 _ _ => M.bad
  | .enum _ => M.bad
  | .zip _ _ => M.bad
def opd : E → Opd
  | .var i => .slot i
  | e => .ex (ev e)
def opds : List E → List Opd
  | [] => []
  | e :: r => opd e :: opds r
def args : List E → List Arg
  | [] => []
  | .var i :: r => .slot i :: args r
  | e :: r => .ex (ev e) :: args r
/-- items of a display, frozen -/
def evD : List E → M (List D)
  | [] => M.pure []
  | .star a :: r => M.bind (ev a) fun s => match s with
    | .val (.tup xs) => M.bind (evD r) fun ds => M.pure (xs ++ ds)
    | .val (.lst xs) => M.bind (evD r) fun ds => M.pure (xs ++ ds)
    | .own (.lst xs) => M.bind (evD r) fun ds => M.pure (xs ++ ds)
    | _ => M.bad
  | e :: r => M.bind (ev e) fun s => M.bind (evD r) fun ds => M.pure (s.d :: ds)
def evT : E → M Bool
  | .notV a => M.bind (evT a) fun b => M.pure (!b)
  | .andV a b => M.bind (evT a) fun k => if k then evT b else M.pure false
  | .orV a b => M.bind (evT a) fun k => if k then M.pure true else evT b
  | .ite c a b => M.bind (evT c) fun k => if k then evT a else evT b
  | e => M.bind (evA [opd e]) fun ds => M.opt (match ds with | [d] => truthD d | _ => none)
def evTs : List E → List (M Bool)
  | [] => []
  | e :: r => evT e :: evTs r
/-- what is walked -/
def evI : E → M (List D)
  | .rng1 a => M.bind (ev a) fun s => match s with
    | .val (.int n) => if -(2 ^ 62) ≤ n ∧ n < 2 ^ 62 then M.pure (rngD 0 n) else M.bad
    | _ => M.bad
  | .rng2 a b => M.bind (evA [opd a, opd b]) fun ds => match ds with
    | [.int m, .int n] => if (-(2 ^ 62) ≤ m ∧ m < 2 ^ 62) ∧ (-(2 ^ 62) ≤ n ∧ n < 2 ^ 62) then M.pure (rngD m n) else M.bad
    | _ => M.bad
  | .enum a => M.bind (evC [.ex (ev a)]) fun ss => M.opt (match ss with
    | [s] => (itemsD s.d).map enumD
    | _ => none)
  | .zip a b => M.bind (evC [.ex (ev a), .ex (ev b)]) fun ss => M.opt (match ss with
    | [s, t] => match s.d, t.d with
      | .lst xs, .lst ys => some (zipD xs ys)
      | .tup xs, .tup ys => some (zipD xs ys)
      | _, _ => none
    | _ => none)
  | e => M.bind (ev e) fun s => M.opt (itemsD s.d)
end

def SR.then (r : SR) (f : SE → SR) : SR := match r with
  | .nx E => f E
  | r => r
/-- a value, then a statement's end -/
def SR.of {α : Type} (r : R α) (f : α → SE → SR) : SR := match r with
  | .ok a E => f a E
  | .exc C x E => .exc C x E
  | .bad => .bad
def forI (bt : D → SE → Option SE) (b : SE → SR) : List D → SE → SR
  | [], E => .nx E
  | d :: r, E => match bt d E with
    | none => .bad
    | some E1 => match b E1 with
      | .nx E2 => forI bt b r E2
      | .ct E2 => forI bt b r E2
      | .bk E2 => .nx E2
      | .rt s E2 => .rt s E2
      | .exc C x E2 => .exc C x E2
      | .bad => .bad
def whlI (c : M Bool) (b : SE → SR) : Nat → SE → SR
  | 0, _ => .bad
  | n + 1, E => match c E with
    | .ok true E1 => (match b E1 with
      | .nx E2 => whlI c b n E2
      | .ct E2 => whlI c b n E2
      | .bk E2 => .nx E2
      | .rt s E2 => .rt s E2
      | .exc C x E2 => .exc C x E2
      | .bad => .bad)
    | .ok false E1 => .nx E1
    | .exc C x E1 => .exc C x E1
    | .bad => .bad
def fuel : Nat := 2 ^ 64
/-- a value is stored in a slot -/
def putS (i : Nat) (s : Sl) : SE → SR := fun E => match s with
  | .no => .bad
  | s => if i < E.length then .nx (E.set i s) else .bad
def putAll : List Nat → List Sl → SE → SR
  | [], [], E => .nx E
  | i :: r, s :: ss, E => (putS i s E).then (putAll r ss)
  | _, _, _ => .bad
def isOwnL (E : SE) (i : Nat) : Bool := match E[i]? with
  | some (.own (.lst _)) => true
  | _ => false
def appD (s : Sl) : D → Option D
  | .lst xs => if xs.length < sizeLine then some (.lst (xs ++ [s.d])) else none
  | _ => none
def extD (s : Sl) : D → Option D
  | .lst xs => (match s.d with
    | .lst ys => if xs.length + ys.length ≤ sizeLine then some (.lst (xs ++ ys)) else none
    | _ => none)
  | _ => none
/-- d[k] as a key -/
def keyD : D → Option Key
  | .int i => some (.inl i)
  | .str x => some (.inr x)
  | _ => none
def setD (d k v : D) : Option D := match d, k with
  | .lst xs, .int i => (ixN xs.length i).map fun j => .lst (xs.set j v)
  | _, _ => none
def isOwnD (E : SE) (i : Nat) : Bool := match E[i]? with
  | some (.own (.dk _ _)) => true
  | _ => false
/-- in its place, or at the end -/
def putZ {β : Type} (kvs : List (Key × β)) (k : Key) (v : β) : List (Key × β) :=
  if (kvs.any fun kv => decide (kv.1 = k)) = true then kvs.map (fun kv => if kv.1 = k then (kv.1, v) else kv) else kvs ++ [(k, v)]
def setK (d k v : D) : Option D := match d with
  | .dk ks ds => match keyD k with
    | some key => if ks.length < sizeLine ∧ ks.length = ds.length then some (.dk ((putZ (ks.zip ds) key v).map (·.1)) ((putZ (ks.zip ds) key v).map (·.2))) else none
    | none => none
  | _ => none
/-- a held slot's object is changed -/
def updS (i : Nat) (f : D → Option D) : SE → SR := fun E => match E[i]? with
  | some (.own d) => match f d with
    | some d' => .nx (E.set i (.own d'))
    | none => .bad
  | _ => .bad
def augO (o : Operator) (a b : D) : Option Sl := match o, a, b with
  | .Add, .int i, .int j => some (vI (i + j))
  | .Sub, .int i, .int j => some (vI (i - j))
  | _, _, _ => none
mutual
def ex : S → SE → SR
  | .set i e => fun E => .of (ev Φ C e E) fun s => putS i s
  | .setT tg e => fun E => .of (ev Φ C e E) fun s E1 => match s with
    | .val (.tup ds) => (match bindT tg (.tup ds) E1 with
      | some E2 => .nx E2
      | none => .bad)
    | _ => .bad
  | .par is es => fun E => .of (evC (args Φ C es) E) fun ss => putAll is ss
  | .aug i o e => fun E => .of (evA [.slot i, .ex (ev Φ C e)] E) fun ds E1 => match ds with
    | [a, b] => (match augO o a b with
      | some s => putS i s E1
      | none => .bad)
    | _ => .bad
  | .sidx i k e => fun E => if isOwnL E i then .of (evC [.ex (ev Φ C e), .ex (ev Φ C k)] E) fun ss => (match ss with
    | [v, .val k] => updS i fun d => setD d k v.d
    | _ => fun _ => .bad) else .bad
  | .dset i k e => fun E => if isOwnD E i then .of (evC [.ex (ev Φ C e), .ex (ev Φ C k)] E) fun ss => (match ss with
    | [v, .val k] => updS i fun d => setK d k v.d
    | _ => fun _ => .bad) else .bad
  | .app i e => fun E => if isOwnL E i then .of (ev Φ C e E) fun s => updS i (appD s) else .bad
  | .ext i e => fun E => if isOwnL E i then .of (ev Φ C e E) fun s => updS i (extD s) else .bad
  | .ex e => fun E => .of (ev Φ C e E) fun _ => .nx
  | .ret e => fun E => .of (ev Φ C e E) .rt
  | .retN => .rt (.val .non)
  | .ite c a b => fun E => .of (evT Φ C c E) fun k => if k then exs a else exs b
  | .whl c a => whlI (evT Φ C c) (exs a) fuel
  | .for_ tg it a => fun E => .of (evI Φ C it E) fun ds => forI (bindT tg) (exs a) ds
  | .brk => .bk
  | .cnt => .ct
  | .pas => .nx
  | .nev => fun _ => .bad
def exs : List S → SE → SR
  | [] => .nx
  | s :: r => fun E => (ex s E).then (exs r)
end
/-- a def of n slots: its parameters' values, then what it comes to; the slots in rb are stored to -/
def fnS (n : Nat) (rb : List Nat) (body : List S) : M Sl := fun ss =>
  match exs Φ C body (ss ++ List.replicate (n - ss.length) .no) with
  | .rt s E => .ok s ((wipeE E rb).take ss.length)
  | .nx E => .ok (.val .non) ((wipeE E rb).take ss.length)
  | .exc c x E => .exc c x ((wipeE E rb).take ss.length)
  | _ => .bad
end
end Lw
end

section
set_option Elab.async false
set_option linter.all false
set_option maxRecDepth 100000
set_option maxHeartbeats 4000000
/-! L7: a def's promise by its IR; calls -/
namespace Lw
open PySem L2
variable [TabInfo]

/-- a def's promise: what F comes to -/
def spF (K : PySem.W.Frag) (mg : Str → Option Value) (np : Nat) (F : M Sl) : Sp := fun vs H Q Ex => vs.length = np ∧ TEof K mg (fun c d _ H' => Ex c d H') F (vs.map some) H Q
/-- the def at f keeps the promise (by the layer's CX: it may let an exception out), where no built-in's repr runs around -/
structure FOk (P : Program) (w : World) (K : PySem.W.Frag) (mg : Str → Option Value) (base : Heap) (k : Nat) (f : Addr) (fd : FuncData) (ps : List Str) (sp : Sp) : Prop where
  len : ∀ vs H Q E, sp vs H Q E → vs.length = ps.length
  run : ∀ (A : Around) (outer : List PySem.Env) (s : Shared) (H : Hp) (args : Args) (us : List Value) (vs : List V) (Q : VK) (E : XK), Room k A → A.guards = some [] → Env0 P w K mg base A outer s H → BindsTo s fd args (ps.zip us) → Vals vs us → sp vs H Q E →
    codeAny (model P w) A (.call (.ref f) args) (CR (L2.CX P w) outer P w H s Q E) s
theorem FOk.mono {P w K mg base j k f fd ps sp} (F : FOk P w K mg base j f fd ps sp) (h : j ≤ k) : FOk P w K mg base k f fd ps sp :=
  ⟨F.len, fun A outer s H args us vs Q E hr => F.run A outer s H args us vs Q E (hr.mono h)⟩

/-- what is known of a def that is called: its name, how many parameters -/
structure FnE where
  name : Str
  np : Nat
  kws : List (Nat × List Str) := []
/-- .. as it stands -/
structure FnH (P : Program) (w : World) (K : PySem.W.Frag) (mg : Str → Option Value) (base : Heap) (k : Nat) (e : FnE) (F : M Sl) : Prop where
  ex : ∃ f fd ps, mg e.name = some (.ref f) ∧ PySem.W.keepIn K (.ref f) = true ∧ Binds K fd ps [] ∧ (∀ q ∈ e.kws, q.1 + q.2.length = e.np ∧ ∀ (s : Shared) (us ws : List Value), K.In s.heap → us.length = q.1 → ws.length = q.2.length → BindsTo s fd ⟨us, q.2.zip ws⟩ (ps.zip (us ++ ws))) ∧ ps.length = e.np ∧ FOk P w K mg base k f fd ps (spF K mg e.np F)

section
variable {X : Cx} {k : Nat} {f : Addr} {fd : FuncData} {ps : List Str} {sp : Sp} {E : XK}
/-- what is raised within is wished for at the slots σ -/
def PassesS (X : Cx) (σ : St) (E : XK) : Prop := ∀ (pins : List (Addr × Obj)) (H : Hp) (s : Shared) (e : Value) (s' : Shared), Inv X pins σ H s → L2.CX X.prog X.w X.stack H s E e s' → X.xe e s'
theorem passesS {W : WX} (tk : Takes X W) (σ : St) : PassesS X σ (fun c d H => W c d σ H) := fun pins H s e s' I c => tk e s' (XE.of_call I (fun _ _ _ z => z) c)
theorem run_fk {pins : List (Addr × Obj)} {σ : St} {H : Hp} {s : Shared} {Q : VK} {us ws : List Value} {vs : List V} {ks : List Str} (F : FOk X.prog X.w X.K X.mg X.base k f fd ps sp) (hr : Room k X.A) (hg : X.A.guards = some []) (hx : PassesS X σ E)
    (I : Inv X pins σ H s) (hbt : BindsTo s fd ⟨us, ks.zip ws⟩ (ps.zip (us ++ ws))) (r : Vals vs (us ++ ws)) (h : sp vs H Q E) : wpAny (model X.prog X.w) X.A (call (.ref f) us (ks.zip ws)) (EP X pins σ Q) X.xe s := by
  refine wpAny_call (codeAny_mono (F.run X.A X.stack s H ⟨us, ks.zip ws⟩ (us ++ ws) vs Q E hr hg I.env0 hbt r h) fun r s' hq => ?_)
  match r, hq with
  | .error e, hq => exact hx pins H s e s' I hq
  | .ok (.ret u), hq => exact I.after hq
  | .ok .next, hq => exact False.elim hq
  | .ok .brk, hq => exact False.elim hq
  | .ok .cont, hq => exact False.elim hq
theorem run_f {pins : List (Addr × Obj)} {σ : St} {H : Hp} {s : Shared} {Q : VK} {us : List Value} {vs : List V} (F : FOk X.prog X.w X.K X.mg X.base k f fd ps sp) (hr : Room k X.A) (hg : X.A.guards = some []) (hb : Binds X.K fd ps []) (hx : PassesS X σ E)
    (I : Inv X pins σ H s) (r : Vals vs us) (h : sp vs H Q E) : wpAny (model X.prog X.w) X.A (call (.ref f) us) (EP X pins σ Q) X.xe s := by
  have hl : us.length = ps.length := by rw [← r.length]; exact F.len _ _ _ _ h
  have hbt : BindsTo s fd ⟨us, []⟩ (ps.zip us) := by
    have := hb s us I.kIn (by simpa using hl)
    simpa using this
  refine wpAny_call (codeAny_mono (F.run X.A X.stack s H ⟨us, []⟩ us vs Q E hr hg I.env0 hbt r h) fun r s' hq => ?_)
  cases r with
  | error e => exact hx pins H s e s' I hq
  | ok fl =>
    cases fl with
    | ret u => exact I.after hq
    | next => exact False.elim hq
    | brk => exact False.elim hq
    | cont => exact False.elim hq
end
section
variable {K : PySem.W.Frag} {mg : Str → Option Value} {W : WX} {P P' P1 : Addr → Prop} {H H' H1 H0 : Hp} {σ σ' σ1 : St} {E E' E1 E0 : SE}
/-! ### slots changed -/
theorem getE_set {E : SE} {i j : Nat} {s : Sl} : (E.set i s)[j]? = if i = j then (if j < E.length then some s else none) else E[j]? := by
  by_cases h : i = j
  · subst h
    rw [if_pos rfl]
    by_cases hl : i < E.length
    · rw [if_pos hl, List.getElem?_set_self hl]
    · rw [if_neg hl, List.getElem?_eq_none (by simpa using hl)]
  · rw [if_neg h, List.getElem?_set_ne h]
/-- a slot's value is forgotten; its object is protected -/
theorem Good.out (g : Good K P H σ E) (i : Nat) : Good K (fun a => P a ∨ (∃ d, E[i]? = some (.own d) ∧ σ[i]? = some (some (.ref a)))) H σ (E.set i .no) := by
  have sub : ∀ a, OwnS σ (E.set i .no) a → OwnS σ E a ∧ ∀ d, E[i]? = some (.own d) → σ[i]? ≠ some (some (.ref a)) := fun a ⟨j, d, e1, e2⟩ => by
    rw [getE_set] at e1
    split at e1
    · split at e1 <;> cases e1
    · rename_i hij
      exact ⟨⟨j, d, e1, e2⟩, fun d' e3 e4 => hij (g.inj i j d' d a e3 e1 e4 e2)⟩
  have fz : ∀ a, Fz P σ E a → Fz (fun a => P a ∨ (∃ d, E[i]? = some (.own d) ∧ σ[i]? = some (some (.ref a)))) σ (E.set i .no) a := fun a h =>
    ⟨fun q => q.elim h.1 fun ⟨d, e1, e2⟩ => h.2 ⟨i, d, e1, e2⟩, fun q => h.2 (sub a q).1⟩
  refine ⟨by rw [List.length_set]; exact g.len, fun a q => q.elim (g.dom a) fun ⟨d, e1, e2⟩ => let ⟨o, e, _⟩ := g.ownD ⟨i, d, e1, e2⟩; ⟨o, e⟩, fun j d e => ?_, fun j d e => ?_, fun a q q' => ?_, fun j l d d' a e1 e2 e3 e4 => ?_, g.tab⟩
  · rw [getE_set] at e
    split at e
    · split at e <;> cases e
    · obtain ⟨v, e1, r⟩ := g.val j d e
      exact ⟨v, e1, r.mono fz⟩
  · rw [getE_set] at e
    split at e
    · split at e <;> cases e
    · obtain ⟨v, e1, r⟩ := g.own j d e
      exact ⟨v, e1, r.monoD fun b _ _ z => fz b z⟩
  · exact q'.elim (g.dis a (sub a q).1) fun ⟨d, e1, e2⟩ => (sub a q).2 d e1 e2
  · rw [getE_set] at e1 e2
    split at e1
    · split at e1 <;> cases e1
    · split at e2
      · split at e2 <;> cases e2
      · exact g.inj j l d d' a e1 e2 e3 e4
/-- a slot takes a value (of σ' there) -/
theorem Good.put (g : Good K (Pl P v s) H σ E) (r : ResR K (Pl P v s) σ E H v s) (hn : ∀ a, HeldBy v s a → ¬ P a) {i : Nat} (hi : i < E.length) : Good K P H (σ.set i (some v)) (E.set i s) := by
  have hiσ : i < σ.length := by rw [g.len]; exact hi
  have gσ : ∀ (j : Nat), (σ.set i (some v))[j]? = if i = j then some (some v) else σ[j]? := fun j => by
    by_cases h : i = j
    · subst h; rw [if_pos rfl, List.getElem?_set_self hiσ]
    · rw [if_neg h, List.getElem?_set_ne h]
  have gE : ∀ (j : Nat), (E.set i s)[j]? = if i = j then some s else E[j]? := fun j => by
    rw [getE_set]
    by_cases h : i = j
    · subst h; rw [if_pos rfl, if_pos rfl, if_pos hi]
    · rw [if_neg h, if_neg h]
  have sub : ∀ a, OwnS (σ.set i (some v)) (E.set i s) a → OwnS σ E a ∨ HeldBy v s a := fun a ⟨j, d, e1, e2⟩ => by
    rw [gE] at e1; rw [gσ] at e2
    by_cases h : i = j
    · rw [if_pos h] at e1 e2
      cases e1; cases e2
      exact .inr rfl
    · rw [if_neg h] at e1 e2
      exact .inl ⟨j, d, e1, e2⟩
  have fz : ∀ a, Fz (Pl P v s) σ E a → Fz P (σ.set i (some v)) (E.set i s) a := fun a h => ⟨fun q => h.1 (.inl q), fun q => (sub a q).elim h.2 fun z => h.1 (.inr z)⟩
  refine ⟨by simp [g.len], fun a q => g.dom a (.inl q), fun j d e => ?_, fun j d e => ?_, fun a q q' => ?_, fun j l d d' a e1 e2 e3 e4 => ?_, g.tab⟩
  · rw [gE] at e; rw [gσ]
    by_cases h : i = j
    · rw [if_pos h] at e ⊢
      cases e
      exact ⟨v, rfl, RepB.mono r fz⟩
    · rw [if_neg h] at e ⊢
      obtain ⟨w, e1, r⟩ := g.val j d e
      exact ⟨w, e1, r.mono fz⟩
  · rw [gE] at e; rw [gσ]
    by_cases h : i = j
    · rw [if_pos h] at e ⊢
      cases e
      obtain ⟨a, rfl, r⟩ := r
      exact ⟨a, rfl, r.monoD fun b _ _ z => fz b z⟩
    · rw [if_neg h] at e ⊢
      obtain ⟨w, e1, r⟩ := g.own j d e
      exact ⟨w, e1, r.monoD fun b _ _ z => fz b z⟩
  · exact (sub a q).elim (fun z => g.dis a z (.inl q')) fun z => hn a z q'
  · rw [gE] at e1 e2; rw [gσ] at e3 e4
    by_cases h : i = j
    · by_cases h' : i = l
      · exact h.symm.trans h'
      · rw [if_pos h] at e1 e3
        rw [if_neg h'] at e2 e4
        cases e1; cases e3
        exact absurd (Or.inr rfl) (g.dis a ⟨l, d', e2, e4⟩)
    · by_cases h' : i = l
      · rw [if_neg h] at e1 e3
        rw [if_pos h'] at e2 e4
        cases e2; cases e4
        exact absurd (Or.inr rfl) (g.dis a ⟨j, d, e1, e3⟩)
      · rw [if_neg h] at e1 e3
        rw [if_neg h'] at e2 e4
        exact g.inj j l d d' a e1 e2 e3 e4
end
end Lw
end

section
set_option Elab.async false
set_option linter.all false
set_option maxRecDepth 100000
set_option maxHeartbeats 4000000
/-! L8: readings of operations -/
namespace Lw
open PySem L2
variable [TabInfo]
theorem PE.imp {X : Cx} {e : Expr} {t t' : TE} (h : PE X e t) (i : ∀ σ H Q, t' σ H Q → t σ H Q) : PE X e t' := ⟨fun pins s σ H Q I q => h.run pins s σ H Q I (i σ H Q q)⟩
theorem PT.imp {X : Cx} {e : Expr} {t t' : TT} (h : PT X e t) (i : ∀ σ H Q, t' σ H Q → t σ H Q) : PT X e t' := ⟨fun pins s σ H Q I q => h.run pins s σ H Q I (i σ H Q q)⟩
theorem PS.imp {X : Cx} {e : Stmt} {t t' : TS} (h : PS X e t) (i : ∀ D σ H, t' D σ H → t D σ H) : PS X e t' := ⟨fun pins s σ H D I q => h.run pins s σ H D I (i D σ H q)⟩
section
variable {K : PySem.W.Frag} {mg : Str → Option Value} {W : WX} {P P' P1 : Addr → Prop} {H H' H1 H0 : Hp} {σ σ' σ1 : St} {E E' E1 E0 : SE}
theorem ExcR.less {T T' : Addr → Prop} {C : Str} {x : D} {cls : Value} {d : Option Addr} (h : ExcR K mg T H C x cls d) (m : ∀ a, T a → T' a) : ExcR K mg T' H C x cls d := by
  obtain ⟨a, b, w, q1, q2, q3, q4, q5⟩ := h
  exact ⟨a, b, w, q1, q2, q3, q4, q5.mono m⟩
/-- a result of an operation, as an expression's -/
theorem post_of {s : Sl} {v : V} {Q : VK} (g : Good K P H σ E) (g1 : Good K P1 H1 σ E1) (l1 : Lnk P σ E H P1 σ E1 H1) (hp : ∀ a, P a → P1 a) (ext : ∀ a o, H1 a = some o → H' a = some o) (r : PRes K H1 H' (Fz P1 σ E1) v s)
    (h : PostE K mg W P σ E H Q (.ok s E1)) : Q v H' := by
  cases s with
  | no => exact r.elim
  | val d =>
    refine h v H' ((g1.ext ext).less fun a z => z.elim (hp a) False.elim) ((l1.trans (Lnk.ext ext)).less fun a z => z.elim (hp a) False.elim) ?_ fun a z => z.elim
    exact RepB.mono r fun a z => ⟨fun q => z.1 (q.elim (hp a) False.elim), z.2⟩
  | own d =>
    obtain ⟨a, rfl, ha, hr⟩ := r
    have hh : ∀ b, HeldBy (.ref a) (.own d) b → b = a := fun b z => by
      have z' : V.ref a = .ref b := z
      cases z'; rfl
    obtain ⟨S, hr1, hr2⟩ := id hr
    obtain ⟨o, eo, _⟩ := hr1.mu
    have g2 := g1.fresh ha ext eo
    have np : ∀ b, HeldBy (.ref a) (.own d) b → ¬ P b := fun b z p => by
      rw [hh b z] at p
      obtain ⟨o, e⟩ := g1.dom a (hp a p)
      rw [ha] at e; cases e
    refine h _ H' (g2.less fun b z => z.elim (fun z => .inl (hp b z)) fun z => .inr (hh b z)) ⟨fun b o e t n => ext _ _ (l1.keep b o e t n), l1.new, fun b z => z.elim .inl fun z => .inr (by rw [hh b z]; exact l1.none ha), fun b e => l1.tbs b (none_ext ext e)⟩ ⟨a, rfl, ?_⟩ np
    exact hr.monoD fun b _ _ z => ⟨fun q => q.elim (fun q => z.1.1 (hp b q)) fun q => z.2 (hh b q), z.1.2⟩
theorem bind_bad {α β} {f : α → M β} : R.bind (.bad : R α) f = .bad := rfl
theorem bind_exc {α β} {f : α → M β} {C : Str} {x : D} {E : SE} : R.bind (.exc C x E : R α) f = .exc C x E := rfl
theorem bind_ok {α β} {f : α → M β} {a : α} {E : SE} : R.bind (.ok a E) f = f a E := rfl
theorem mbind {α β} {m : M α} {f : α → M β} {E : SE} : M.bind m f E = (m E).bind f := rfl
/-- an operation on operands -/
theorem prim_sound {ops : List Opd} {p : List D → Option Sl} {r : VK → List V → Hp → Prop} (hr : ∀ vs H Q T ds, TopsB K H T vs ds → PostP K H T Q (p ds) → r Q vs H) :
    ∀ σ H Q, TEof K mg W (M.bind (evA ops) fun ds => M.opt (p ds)) σ H Q → tOpds K mg W ops σ H (r Q) := by
  intro σ H Q ⟨P, E, g, h⟩
  refine argsL ops σ H _ ⟨P, E, g, ?_⟩
  rw [mbind] at h
  cases e : evA ops E with
  | bad => rw [e] at h; exact h
  | exc C x E1 => rw [e] at h; exact h
  | ok ds E1 =>
    rw [e, bind_ok] at h
    intro vs H1 P1 hp g1 l1 ts
    refine hr vs H1 Q (Fz P1 σ E1) ds ts ?_
    cases ep : p ds with
    | none => rw [ep] at h; exact h
    | some s =>
      rw [ep] at h
      intro v H' ext pr
      exact post_of g g1 l1 hp ext pr h
end
end Lw
end

section
set_option Elab.async false
set_option linter.all false
set_option maxRecDepth 100000
set_option maxHeartbeats 4000000
/-! L9: displays, arguments, calls -/
namespace Lw
open PySem L2
variable [TabInfo]
section
variable {K : PySem.W.Frag} {mg : Str → Option Value} {W : WX} {P P' P1 : Addr → Prop} {H H' H1 H0 : Hp} {σ σ' σ1 : St} {E E' E1 E0 : SE} {Φ : Nat → M Sl} {C : Nat → D}
/-- a result, frozen -/
theorem ResR.frz {s : Sl} {v : V} (r : ResR K P1 σ E H v s) (g : Good K P1 H σ E) (l : Lnk P1 σ E H P1 σ E' H') (g' : Good K P1 H' σ E') (hp : ∀ a, P a → P1 a) (hn : ∀ a, HeldBy v s a → P1 a ∧ ¬ P a) : RepB K H' (Fz P σ E') v s.d := by
  cases s with
  | no => exact r.elim
  | val d => exact (RepB.lnk r g l).mono fun a z => ⟨fun q => z.1 (hp a q), z.2⟩
  | own d =>
    obtain ⟨a, rfl, r⟩ := r
    obtain ⟨h1, h2⟩ := hn a rfl
    obtain ⟨S, q1, q2⟩ := r.lnk g l fun q => g.dis a q h1
    refine ⟨_, q1.rep, fun b hb => ?_⟩
    rcases List.mem_cons.mp hb with rfl | hb
    · exact ⟨h2, fun q => g'.dis b q h1⟩
    · exact ⟨fun q => (q2 b hb).1 (hp b q), (q2 b hb).2⟩
theorem ResR.frz0 {s : Sl} {v : V} (r : ResR K (Pl P v s) σ E H v s) (g : Good K (Pl P v s) H σ E) (hn : ∀ a, HeldBy v s a → ¬ P a) : RepB K H (Fz P σ E) v s.d :=
  r.frz g Lnk.refl g (fun _ z => .inl z) fun a z => ⟨.inr z, hn a z⟩
def PostD (K : PySem.W.Frag) (mg : Str → Option Value) (W : WX) (P : Addr → Prop) (σ : St) (E : SE) (H : Hp) (Q : List V → Hp → Prop) : R (List D) → Prop
  | .ok ds E' => ∀ vs H', Good K P H' σ E' → Lnk P σ E H P σ E' H' → RepsB K H' (Fz P σ E') vs ds → Q vs H'
  | .exc C x E' => ∀ H' cls d, Good K P H' σ E' → Lnk P σ E H P σ E' H' → ExcR K mg (Fz P σ E') H' C x cls d → W cls d σ H'
  | .bad => False
def TDof (K : PySem.W.Frag) (mg : Str → Option Value) (W : WX) (f : M (List D)) : TA := fun σ H Q => ∃ P E, Good K P H σ E ∧ PostD K mg W P σ E H Q (f E)
def tDisp (K : PySem.W.Frag) (mg : Str → Option Value) (W : WX) (Φ : Nat → M Sl) (C : Nat → D) : List Lw.E → TA
  | [] => tNil
  | .star a :: r => StX.tStar K (TEof K mg W (ev Φ C a)) (tDisp K mg W Φ C r)
  | e :: r => tCons (TEof K mg W (ev Φ C e)) (tDisp K mg W Φ C r)
/-- an exception behind a first part -/
theorem exc_after {P1 : Addr → Prop} {Cn : Str} {x : D} (g : Good K P H σ E) (l1 : Lnk P σ E H P1 σ E1 H1) (hp : ∀ a, P a → P1 a)
    (h : ∀ H' cls d, Good K P H' σ E' → Lnk P σ E H P σ E' H' → ExcR K mg (Fz P σ E') H' Cn x cls d → W cls d σ H') :
    ∀ H' cls d, Good K P1 H' σ E' → Lnk P1 σ E1 H1 P1 σ E' H' → ExcR K mg (Fz P1 σ E') H' Cn x cls d → W cls d σ H' := fun H' cls d g' l x =>
  h H' cls d (g'.less hp) ((l1.trans l).less hp) (x.less fun a z => ⟨fun q => z.1 (hp a q), z.2⟩)
theorem seqOf {v : V} {s : Sl} {xs : List D} (r : RepB K H (Fz P σ E) v s.d) (e : s.d = .tup xs ∨ s.d = .lst xs) : ∃ p vs, v = .ref p ∧ (SqT K H p vs ∨ SqL K H p vs) ∧ RepsB K H (Fz P σ E) vs xs := by
  rcases e with e | e
  · rw [e] at r
    obtain ⟨a, vs, rfl, h1, h2⟩ := r.top.tup
    exact ⟨a, vs, rfl, .inl h1, h2⟩
  · rw [e] at r
    obtain ⟨a, vs, rfl, h1, h2⟩ := r.top.lst
    exact ⟨a, vs, rfl, .inr (SqL.of h1), h2⟩
theorem evD_cons (e : Lw.E) (r : List Lw.E) (h : ∀ a, e ≠ .star a) : evD Φ C (e :: r) = M.bind (ev Φ C e) fun s => M.bind (evD Φ C r) fun ds => M.pure (s.d :: ds) := by
  cases e
  case star a => exact (h a rfl).elim
  all_goals simp only [evD]
theorem tDisp_cons (e : Lw.E) (r : List Lw.E) (h : ∀ a, e ≠ .star a) : tDisp K mg W Φ C (e :: r) = tCons (TEof K mg W (ev Φ C e)) (tDisp K mg W Φ C r) := by
  cases e
  case star a => exact (h a rfl).elim
  all_goals simp only [tDisp]
theorem dispL : ∀ (as : List Lw.E) (σ : St) (H : Hp) (Q : List V → Hp → Prop), TDof K mg W (evD Φ C as) σ H Q → tDisp K mg W Φ C as σ H Q := by
  intro as
  induction as with
  | nil =>
    intro σ H Q ⟨P, E, g, h⟩
    rw [evD] at h
    rw [tDisp]
    exact h [] H g Lnk.refl .nil
  | cons e r ih =>
    intro σ H Q ⟨P, E, g, h⟩
    by_cases hs : ∃ a, e = .star a
    · obtain ⟨a, rfl⟩ := hs
      rw [evD, mbind] at h
      rw [tDisp]
      refine ⟨P, E, g, ?_⟩
      cases e1 : ev Φ C a E with
      | bad => rw [e1] at h; exact h
      | exc Cn x E1 => rw [e1] at h; exact h
      | ok s E1 =>
        rw [e1, bind_ok] at h
        intro v H1 g1 l1 r1 n1
        have go : ∀ xs, (s.d = .tup xs ∨ s.d = .lst xs) → PostD K mg W P σ E H Q (M.bind (evD Φ C r) (fun ds => M.pure (xs ++ ds)) E1) →
            ∃ p vs, v = .ref p ∧ (SqT K H1 p vs ∨ SqL K H1 p vs) ∧ tDisp K mg W Φ C r σ H1 fun ys H2 => Q (vs ++ ys) H2 := by
          intro xs hd h
          obtain ⟨p, vs, rfl, h1, h2⟩ := seqOf (r1.frz0 g1 n1) hd
          refine ⟨p, vs, rfl, h1, ih σ H1 _ ⟨P, E1, g1.less fun a z => .inl z, ?_⟩⟩
          rw [mbind] at h
          cases e2 : evD Φ C r E1 with
          | bad => rw [e2] at h; exact h
          | exc Cn x E2 =>
            rw [e2] at h
            exact fun H' cls d g' l x => h H' cls d g' ((l1.less fun a z => .inl z).trans l) x
          | ok ds E2 =>
            rw [e2, bind_ok] at h
            intro ys H2 g2 l2 r2
            exact h _ H2 g2 ((l1.less fun a z => .inl z).trans l2) ((h2.lnk (g1.less fun a z => .inl z) l2).append r2)
        split at h
        · exact go _ (.inl rfl) h
        · exact go _ (.inr rfl) h
        · exact go _ (.inr rfl) h
        · exact h.elim
    · have hs' : ∀ a, e ≠ .star a := fun a q => hs ⟨a, q⟩
      rw [evD_cons e r hs', mbind] at h
      rw [tDisp_cons e r hs']
      refine ⟨P, E, g, ?_⟩
      cases e1 : ev Φ C e E with
      | bad => rw [e1] at h; exact h
      | exc Cn x E1 => rw [e1] at h; exact h
      | ok s E1 =>
        rw [e1, bind_ok, mbind] at h
        intro v H1 g1 l1 r1 n1
        refine ih σ H1 _ ⟨_, E1, g1, ?_⟩
        cases e2 : evD Φ C r E1 with
        | bad => rw [e2] at h; exact h
        | exc Cn x E2 =>
          rw [e2] at h
          exact exc_after g l1 (fun a z => .inl z) h
        | ok ds E2 =>
          rw [e2, bind_ok] at h
          intro ys H2 g2 l2 r2
          refine h (v :: ys) H2 (g2.less fun a z => .inl z) ((l1.trans l2).less fun a z => .inl z) (.cons ?_ (r2.mono fun a z => ⟨fun q => z.1 (.inl q), z.2⟩))
          exact r1.frz g1 l2 g2 (fun _ z => .inl z) fun a z => ⟨.inr z, n1 a z⟩
/-! ### arguments -/
/-- values of arguments; P: what is protected without them -/
structure ArgsR (K : PySem.W.Frag) (P P' : Addr → Prop) (σ : St) (E : SE) (H : Hp) (vs : List V) (ss : List Sl) : Prop where
  len : vs.length = ss.length
  res : ∀ (j : Nat) v s, vs[j]? = some v → ss[j]? = some s → ResR K P' σ E H v s
  held : ∀ (j : Nat) (d : D) (a : Addr), ss[j]? = some (.own d) → vs[j]? = some (.ref a) → P' a ∧ ¬ P a
  inj : ∀ (i j : Nat) (d d' : D) (a : Addr), ss[i]? = some (.own d) → ss[j]? = some (.own d') → vs[i]? = some (.ref a) → vs[j]? = some (.ref a) → i = j
/-- an argument that is a slot has the slot's value -/
def SlA (as : List Arg) (σ : St) (vs : List V) : Prop := ∀ (j i : Nat), as[j]? = some (.slot i) → ∃ v, vs[j]? = some v ∧ σ[i]? = some (some v)
def PostC (K : PySem.W.Frag) (mg : Str → Option Value) (W : WX) (as : List Arg) (P : Addr → Prop) (σ : St) (E : SE) (H : Hp) (Q : List V → Hp → Prop) : R (List Sl) → Prop
  | .ok ss E' => ∀ vs H' P', (∀ a, P a → P' a) → Good K P' H' σ E' → Lnk P σ E H P' σ E' H' → ArgsR K P P' σ E' H' vs ss → SlA as σ vs → Q vs H'
  | .exc C x E' => ∀ H' cls d, Good K P H' σ E' → Lnk P σ E H P σ E' H' → ExcR K mg (Fz P σ E') H' C x cls d → W cls d σ H'
  | .bad => False
def tArg (K : PySem.W.Frag) (mg : Str → Option Value) (W : WX) : Arg → TE
  | .slot i => tVar i
  | .ex f => TEof K mg W f
def tArgs (K : PySem.W.Frag) (mg : Str → Option Value) (W : WX) : List Arg → TA
  | [] => tNil
  | o :: r => tCons (tArg K mg W o) (tArgs K mg W r)
theorem ResR.lnk {s : Sl} {v : V} (r : ResR K P σ E H v s) (g : Good K P H σ E) (l : Lnk P σ E H P' σ E' H') (hn : ∀ a, HeldBy v s a → P a) : ResR K P' σ E' H' v s := by
  cases s with
  | no => exact r.elim
  | val d => exact RepB.lnk r g l
  | own d =>
    obtain ⟨a, rfl, r⟩ := r
    exact ⟨a, rfl, r.lnk g l fun q => g.dis a q (hn a rfl)⟩
theorem ArgsR.cons {v : V} {s : Sl} {vs : List V} {ss : List Sl} (r : ResR K P' σ E H v s) (hh : ∀ a, HeldBy v s a → P' a ∧ ¬ P a) (hd : ∀ (a : Addr) (j : Nat) (d : D), HeldBy v s a → ss[j]? = some (.own d) → vs[j]? = some (.ref a) → False) (h : ArgsR K P P' σ E H vs ss) : ArgsR K P P' σ E H (v :: vs) (s :: ss) where
  len := by simp [h.len]
  res := fun j w t e1 e2 => by
    cases j with
    | zero => cases e1; cases e2; exact r
    | succ j => exact h.res j w t (by simpa using e1) (by simpa using e2)
  held := fun j d a e1 e2 => by
    cases j with
    | zero => cases e1; cases e2; exact hh a rfl
    | succ j => exact h.held j d a (by simpa using e1) (by simpa using e2)
  inj := fun i j d d' a e1 e2 e3 e4 => by
    cases i with
    | zero =>
      cases j with
      | zero => rfl
      | succ j =>
        cases e1; cases e3
        exact (hd a j d' rfl (by simpa using e2) (by simpa using e4)).elim
    | succ i =>
      cases j with
      | zero =>
        cases e2; cases e4
        exact (hd a i d rfl (by simpa using e1) (by simpa using e3)).elim
      | succ j => rw [h.inj i j d d' a (by simpa using e1) (by simpa using e2) (by simpa using e3) (by simpa using e4)]
theorem ArgsR.base {P1 : Addr → Prop} {vs : List V} {ss : List Sl} (h : ArgsR K P1 P' σ E H vs ss) (hp : ∀ a, P a → P1 a) : ArgsR K P P' σ E H vs ss :=
  ⟨h.len, h.res, fun j d a e1 e2 => let ⟨q1, q2⟩ := h.held j d a e1 e2; ⟨q1, fun p => q2 (hp a p)⟩, h.inj⟩
theorem ArgsR.nil {P P' : Addr → Prop} : ArgsR K P P' σ E H [] [] := ⟨rfl, fun j _ _ e => by simp at e, fun j _ _ e => by simp at e, fun j _ _ _ _ e => by simp at e⟩
/-- slots are left out -/
theorem ArgsR.out {vs : List V} {ss : List Sl} (h : ArgsR K P P' σ E H vs ss) (g : Good K P' H σ E) (g' : Good K P1 H σ E') (l : Lnk P' σ E H P1 σ E' H) (hp : ∀ a, P' a → P1 a) : ArgsR K P P1 σ E' H vs ss where
  len := h.len
  res := fun j v s e1 e2 => (h.res j v s e1 e2).lnk g l fun a z => by
    cases s with
    | own d =>
      have z' : v = .ref a := z
      subst z'
      exact (h.held j d a e2 e1).1
    | _ => exact z.elim
  held := fun j d a e1 e2 => let ⟨q1, q2⟩ := h.held j d a e1 e2; ⟨hp a q1, q2⟩
  inj := h.inj
theorem evC_slot {i : Nat} {r : List Arg} {E : SE} : evC (.slot i :: r) E = (slotAt i E).bind fun _ => fun E1 => (evC r E1).bind fun ss => fun E2 => (popS i E2).bind fun s => fun E3 => .ok (s :: ss) E3 := rfl
theorem evC_ex {f : M Sl} {r : List Arg} {E : SE} : evC (.ex f :: r) E = (f E).bind fun s => fun E1 => (evC r E1).bind fun ss => fun E2 => .ok (s :: ss) E2 := rfl
theorem Lnk.out (g : Good K P H σ E) (i : Nat) : Lnk P σ E H (fun a => P a ∨ (∃ d, E[i]? = some (.own d) ∧ σ[i]? = some (some (.ref a)))) σ (E.set i .no) H :=
  ⟨fun _ _ e _ _ => e, fun a ⟨j, d, e1, e2⟩ => by
    rw [getE_set] at e1
    split at e1
    · split at e1 <;> cases e1
    · exact .inl ⟨j, d, e1, e2⟩, fun a h => h.imp id fun ⟨d, e1, e2⟩ => .inl ⟨i, d, e1, e2⟩, fun _ e => e⟩
theorem argsC : ∀ (as : List Arg) (σ : St) (H : Hp) (Q : List V → Hp → Prop) (P : Addr → Prop) (E : SE), Good K P H σ E → PostC K mg W as P σ E H Q (evC as E) → tArgs K mg W as σ H Q := by
  intro as
  induction as with
  | nil =>
    intro σ H Q P E g h
    exact h [] H P (fun _ z => z) g Lnk.refl .nil fun j i e => by simp at e
  | cons o r ih =>
    intro σ H Q P E g h
    cases o with
    | slot i =>
      rw [evC_slot] at h
      rcases slotAt_cases i E with ⟨d0, e0⟩ | e0
      · rw [e0, bind_ok] at h
        obtain ⟨_, v, ev, tv⟩ := g.slotV e0
        refine ⟨v, ev, ih σ H _ P E g ?_⟩
        cases e1 : evC r E with
        | bad => rw [e1] at h; exact h
        | exc Cn x E1 => rw [e1] at h; exact h
        | ok ss E1 =>
          rw [e1, bind_ok] at h
          intro vs H1 P1 hp g1 l1 ar sa
          have sa' : ∀ w, σ[i]? = some (some w) → SlA (.slot i :: r) σ (w :: vs) := fun w ew j l e => by
            cases j with
            | zero => cases e; exact ⟨w, rfl, ew⟩
            | succ j => exact sa j l (by simpa using e)
          unfold popS at h
          split at h
          · rename_i d e2
            obtain ⟨a, e3, q⟩ := g1.own i d e2
            rw [ev] at e3; cases e3
            have hout := g1.out i
            have lout := Lnk.out g1 i
            have hh : OwnS σ E1 a := ⟨i, d, e2, ev⟩
            have hP : ∀ b, (P1 b ∨ (∃ d, E1[i]? = some (.own d) ∧ σ[i]? = some (some (.ref b)))) → P1 b ∨ b = a := fun b z => z.imp id fun ⟨d', q1, q2⟩ => by
              rw [ev] at q2; cases q2; rfl
            have hb : ∀ b, HeldBy (.ref a) (.own d) b → b = a := fun b z => by
              have z' : V.ref a = .ref b := z
              cases z'; rfl
            refine h (.ref a :: vs) H1 _ (fun b z => .inl (hp b z)) hout (l1.trans lout) (.cons ?_ (fun b z => ?_) (fun b j d' z e4 e5 => ?_) (ArgsR.out ar g1 hout lout fun b z => .inl z)) (sa' _ ev)
            · refine ⟨a, rfl, (q.monoD fun b o e z => ⟨fun p => ?_, fun p => z.2 ?_⟩)⟩
              · rcases hP b p with p | p
                · exact z.1 p
                · exact z.2 (p ▸ hh)
              · obtain ⟨j, d', q1, q2⟩ := p
                rw [getE_set] at q1
                split at q1
                · split at q1 <;> cases q1
                · exact ⟨j, d', q1, q2⟩
            · rw [hb b z]
              exact ⟨.inr ⟨d, e2, ev⟩, fun p => g1.dis a hh (hp a p)⟩
            · rw [hb b z] at e5
              exact g1.dis a hh (ar.held j d' a e4 e5).1
          · rename_i d e2
            obtain ⟨w, e3, q⟩ := g1.val i d e2
            rw [ev] at e3; cases e3
            exact h (v :: vs) H1 P1 hp g1 l1 (.cons q (fun b z => z.elim) (fun b j d' z => z.elim) ar) (sa' _ ev)
          · exact h.elim
      · rw [e0] at h; exact h.elim
    | ex f =>
      rw [evC_ex] at h
      refine ⟨P, E, g, ?_⟩
      cases e1 : f E with
      | bad => rw [e1] at h; exact h
      | exc Cn x E1 => rw [e1] at h; exact h
      | ok s E1 =>
        rw [e1, bind_ok] at h
        intro v H1 g1 l1 r1 n1
        refine ih σ H1 _ _ E1 g1 ?_
        cases e2 : evC r E1 with
        | bad => rw [e2] at h; exact h
        | exc Cn x E2 =>
          rw [e2] at h
          exact exc_after g l1 (fun a z => .inl z) h
        | ok ss E2 =>
          rw [e2, bind_ok] at h
          intro vs H2 P2 hp g2 l2 ar sa
          refine h (v :: vs) H2 P2 (fun a z => hp a (.inl z)) g2 (l1.trans l2) (.cons (r1.lnk g1 l2 fun a z => .inr z) (fun a z => ⟨hp a (.inr z), n1 a z⟩) (fun a j d z e4 e5 => (ar.held j d a e4 e5).2 (.inr z)) (ar.base fun a z => .inl z)) fun j l e => by
            cases j with
            | zero => cases e
            | succ j => exact sa j l (by simpa using e)

/-! ### calls -/
theorem putBack_at : ∀ (as : List Arg) (ss ps : List Sl) (E : SE), (putBack as ss ps E).length = E.length ∧ ∀ (i : Nat) s, (putBack as ss ps E)[i]? = some s → E[i]? = some s ∨ ∃ (j : Nat) (d : D), as[j]? = some (.slot i) ∧ ss[j]? = some (.own d) ∧ ps[j]? = some s := by
  intro as
  induction as with
  | nil => intro ss ps E; exact ⟨by simp [putBack], fun i s e => .inl (by simpa [putBack] using e)⟩
  | cons o r ih =>
    intro ss ps E
    cases ss with
    | nil => exact ⟨by cases o <;> simp [putBack], fun i s e => .inl (by cases o <;> simpa [putBack] using e)⟩
    | cons s0 ss =>
      cases ps with
      | nil => exact ⟨by cases o <;> cases s0 <;> simp [putBack], fun i s e => .inl (by cases o <;> cases s0 <;> simpa [putBack] using e)⟩
      | cons p ps =>
        obtain ⟨h1, h2⟩ := ih ss ps E
        have skip : ∀ i s, (putBack r ss ps E)[i]? = some s → E[i]? = some s ∨ ∃ (j : Nat) (d : D), (o :: r)[j]? = some (.slot i) ∧ (s0 :: ss)[j]? = some (.own d) ∧ (p :: ps)[j]? = some s := fun i s e =>
          (h2 i s e).imp id fun ⟨j, d, q1, q2, q3⟩ => ⟨j + 1, d, by simpa using q1, by simpa using q2, by simpa using q3⟩
        cases o with
        | ex f => exact ⟨by simpa [putBack] using h1, fun i s e => skip i s (by simpa [putBack] using e)⟩
        | slot k =>
          cases s0 with
          | no => exact ⟨by simpa [putBack] using h1, fun i s e => skip i s (by simpa [putBack] using e)⟩
          | val d => exact ⟨by simpa [putBack] using h1, fun i s e => skip i s (by simpa [putBack] using e)⟩
          | own d =>
            refine ⟨by simpa [putBack] using h1, fun i s e => ?_⟩
            have e : ((putBack r ss ps E).set k p)[i]? = some s := e
            rw [getE_set] at e
            split at e
            · rename_i hk
              split at e
              · cases e
                exact .inr ⟨0, d, by rw [hk]; rfl, rfl, rfl⟩
              · cases e
            · exact skip i s e
theorem call_back {as : List Arg} {vs : List V} {ss ps : List Sl} {Pc B : Addr → Prop} (g : Good K P H σ E) (hp : ∀ a, P a → P1 a) (g1 : Good K P1 H1 σ E1) (l1 : Lnk P σ E H P1 σ E1 H1) (ar : ArgsR K P P1 σ E1 H1 vs ss) (sa : SlA as σ vs)
    (hPc : ∀ a, Pc a ↔ (P1 a ∧ ¬ OwnS (vs.map some) ss a) ∨ OwnS σ E1 a) (gc : Good K Pc H1 (vs.map some) ss)
    (g' : Good K (fun a => Pc a ∨ B a) H' (vs.map some) ps) (l' : Lnk Pc (vs.map some) ss H1 (fun a => Pc a ∨ B a) (vs.map some) ps H') (hB : ∀ a, B a → ¬ Pc a) :
    Good K (fun a => P a ∨ B a) H' σ (putBack as ss ps E1) ∧ Lnk P σ E H (fun a => P a ∨ B a) σ (putBack as ss ps E1) H' ∧ (∀ b, Fz (fun a => Pc a ∨ B a) (vs.map some) ps b → Fz (fun a => P a ∨ B a) σ (putBack as ss ps E1) b) ∧ ∀ a, B a → ¬ P a := by
  obtain ⟨hlen, hat⟩ := putBack_at as ss ps E1
  have held : ∀ a, OwnS (vs.map some) ss a → P1 a ∧ ¬ P a := fun a ⟨j, d, e1, e2⟩ => by
    rw [List.getElem?_map] at e2
    cases e3 : vs[j]? with
    | none => rw [e3] at e2; cases e2
    | some v =>
      rw [e3] at e2
      have : v = .ref a := by simpa using e2
      subst this
      exact ar.held j d a e1 e3
  have PPc : ∀ a, P a → Pc a := fun a p => (hPc a).mpr (.inl ⟨hp a p, fun q => (held a q).2 p⟩)
  have back : ∀ {i j : Nat} {d : D} {s : Sl}, as[j]? = some (.slot i) → ss[j]? = some (.own d) → ps[j]? = some s → ∃ v, (vs.map some)[j]? = some (some v) ∧ σ[i]? = some (some v) := fun {i j d s} q1 q2 q3 => by
    obtain ⟨v, e1, e2⟩ := sa j i q1
    exact ⟨v, by rw [List.getElem?_map, e1]; rfl, e2⟩
  have sub : ∀ a, OwnS σ (putBack as ss ps E1) a → OwnS σ E1 a ∨ OwnS (vs.map some) ps a := fun a ⟨i, d, e1, e2⟩ => by
    rcases hat i _ e1 with q | ⟨j, d', q1, q2, q3⟩
    · exact .inl ⟨i, d, q, e2⟩
    · obtain ⟨v, e3, e4⟩ := back q1 q2 q3
      rw [e2] at e4; cases e4
      exact .inr ⟨j, d, q3, e3⟩
  have fz : ∀ b, Fz (fun a => Pc a ∨ B a) (vs.map some) ps b → Fz (fun a => P a ∨ B a) σ (putBack as ss ps E1) b := fun b z =>
    ⟨fun q => z.1 (q.imp (PPc b) id), fun q => (sub b q).elim (fun q => z.1 (.inl ((hPc b).mpr (.inr q)))) z.2⟩
  have old : ∀ b o, H1 b = some o → Fz P1 σ E1 b → Fz (fun a => P a ∨ B a) σ (putBack as ss ps E1) b := fun b o e z => by
    have nh : ¬ OwnS (vs.map some) ss b := fun q => z.1 (held b q).1
    refine ⟨fun q => q.elim (fun q => z.1 (hp b q)) fun q => ?_, fun q => (sub b q).elim z.2 fun q => ?_⟩
    · rcases l'.pr b (.inr q) with p | p | p
      · exact hB b q p
      · exact nh p
      · rw [e] at p; cases p
    · rcases l'.new b q with p | p
      · exact nh p
      · rw [e] at p; cases p
  have kpc := gc.kp l'
  have held2 : ∀ a, OwnS (vs.map some) ss a → OwnS σ E a ∨ H a = Option.none := fun a q => by
    obtain ⟨q1, q2⟩ := held a q
    exact (l1.pr a q1).elim (fun z => absurd z q2) id
  refine ⟨⟨by rw [hlen]; exact g1.len, fun a p => ?_, fun i d e => ?_, fun i d e => ?_, fun a q p => ?_, fun i j d d' a e1 e2 e3 e4 => ?_, g'.tab⟩, ⟨fun a o e t n => ?_, fun a q => ?_, fun a q => ?_, fun a e => l1.tbs a (l'.tbs a e)⟩, fz, fun a q p => hB a q (PPc a p)⟩
  · exact g'.dom a (p.imp (PPc a) id)
  · rcases hat i _ e with q | ⟨j, d', q1, q2, q3⟩
    · obtain ⟨v, e1, r⟩ := g1.val i d q
      refine ⟨v, e1, ((r.monoD fun b o eo z => ⟨z, old b o eo z⟩ : RepB K H1 (fun b => Fz P1 σ E1 b ∧ Fz (fun a => P a ∨ B a) σ (putBack as ss ps E1) b) v d).keep fun b o eo t z => kpc b o eo t (z.imp (fun z q => z.1.1 (held b q).1) id)).mono fun _ z => z.2⟩
    · obtain ⟨v, e3, e4⟩ := back q1 q2 q3
      obtain ⟨w, e5, r⟩ := g'.val j d q3
      rw [e3] at e5; cases e5
      exact ⟨v, e4, r.mono fz⟩
  · rcases hat i _ e with q | ⟨j, d', q1, q2, q3⟩
    · obtain ⟨v, e1, r⟩ := g1.own i d q
      have hv : OwnS σ E1 v := ⟨i, d, q, e1⟩
      refine ⟨v, e1, ((r.monoD fun b o eo z => ⟨z, old b o eo z⟩ : OwnB K H1 (fun b => Fz P1 σ E1 b ∧ Fz (fun a => P a ∨ B a) σ (putBack as ss ps E1) b) v d).keep fun b o eo t z => kpc b o eo t (z.imp (fun z q => z.elim (fun z => z.1.1 (held b q).1) fun z => by rw [z] at q; exact g1.dis v hv (held v q).1) id)).monoD fun _ _ _ z => z.2⟩
    · obtain ⟨v, e3, e4⟩ := back q1 q2 q3
      obtain ⟨w, e5, r⟩ := g'.own j d q3
      rw [e3] at e5; cases e5
      exact ⟨w, e4, r.monoD fun b _ _ z => fz b z⟩
  · rcases sub a q with q | q
    · exact p.elim (fun p => g1.dis a q (hp a p)) fun p => hB a p ((hPc a).mpr (.inr q))
    · exact g'.dis a q (p.imp (PPc a) id)
  · have own : ∀ {i : Nat} {d : D}, (putBack as ss ps E1)[i]? = some (.own d) → σ[i]? = some (some (.ref a)) → E1[i]? = some (.own d) ∨ (∃ (j : Nat), as[j]? = some (Arg.slot i) ∧ ps[j]? = some (Sl.own d) ∧ (vs.map some)[j]? = some (some (V.ref a))) := fun {i d} e1 e3 => by
      rcases hat i _ e1 with q | ⟨j, d', q1, q2, q3⟩
      · exact .inl q
      · obtain ⟨v, e5, e6⟩ := back q1 q2 q3
        rw [e3] at e6; cases e6
        exact .inr ⟨j, q1, q3, e5⟩
    rcases own e1 e3 with q | ⟨j1, q1, q2, q3⟩
    · rcases own e2 e4 with p | ⟨j2, p1, p2, p3⟩
      · exact g1.inj i j d d' a q p e3 e4
      · exact absurd (.inl ((hPc a).mpr (.inr ⟨i, d, q, e3⟩))) (g'.dis a ⟨j2, d', p2, p3⟩)
    · rcases own e2 e4 with p | ⟨j2, p1, p2, p3⟩
      · exact absurd (.inl ((hPc a).mpr (.inr ⟨j, d', p, e4⟩))) (g'.dis a ⟨j1, d, q2, q3⟩)
      · have := g'.inj j1 j2 d d' a q2 p2 q3 p3
        subst this
        rw [q1] at p1
        cases p1; rfl
  · refine l'.keep a o (l1.keep a o e t n) t fun q => ?_
    rcases held2 a q with z | z
    · exact n z
    · rw [e] at z; cases z
  · rcases sub a q with q | q
    · exact l1.new a q
    · exact (l'.new a q).elim (held2 a) l1.none
  · rcases q with q | q
    · exact .inl q
    · rcases l'.pr a (.inr q) with p | p | p
      · exact absurd p (hB a q)
      · exact .inr (held2 a p)
      · exact .inr (l1.none p)
theorem evC_length : ∀ {as : List Arg} {E : SE} {ss : List Sl} {E1 : SE}, evC as E = .ok ss E1 → ss.length = as.length := by
  intro as
  induction as with
  | nil => intro E ss E1 h; cases h; rfl
  | cons o r ih =>
    intro E ss E1 h
    cases o with
    | slot i =>
      rw [evC_slot] at h
      obtain ⟨_, E2, _, h⟩ := R.bind_ok h
      obtain ⟨ss', E3, h1, h⟩ := R.bind_ok (f := fun ss => fun E2 => (popS i E2).bind fun s => fun E3 => .ok (s :: ss) E3) h
      obtain ⟨s, E4, _, h⟩ := R.bind_ok (f := fun s => fun E3 => .ok (s :: ss') E3) h
      cases h
      simp [ih h1]
    | ex f =>
      rw [evC_ex] at h
      obtain ⟨s, E2, _, h⟩ := R.bind_ok h
      obtain ⟨ss', E3, h1, h⟩ := R.bind_ok (f := fun ss => fun E2 => .ok (s :: ss) E2) h
      cases h
      simp [ih h1]
theorem call_sound (F : M Sl) (as : List Arg) (np : Nat) (hn : as.length = np) :
    ∀ σ H Q, TEof K mg W (callS F as) σ H Q → tArgs K mg W as σ H (fun vs H1 => spF K mg np F vs H1 Q (fun c d H' => W c d σ H')) := by
  intro σ H Q ⟨P, E, g, h⟩
  refine argsC as σ H _ P E g ?_
  unfold callS at h
  cases e : evC as E with
  | bad => rw [e] at h; exact h
  | exc Cn x E1 => rw [e] at h; exact h
  | ok ss E1 =>
    rw [e] at h
    intro vs H1 P1 hp g1 l1 ar sa
    have ln : vs.length = np := by rw [ar.len, evC_length e, hn]
    have held : ∀ a, OwnS (vs.map some) ss a → P1 a ∧ ¬ P a := fun a ⟨j, d, e1, e2⟩ => by
      rw [List.getElem?_map] at e2
      cases e3 : vs[j]? with
      | none => rw [e3] at e2; cases e2
      | some v =>
        rw [e3] at e2
        have : v = .ref a := by simpa using e2
        subst this
        exact ar.held j d a e1 e3
    suffices gc : Good K (fun a => (P1 a ∧ ¬ OwnS (vs.map some) ss a) ∨ OwnS σ E1 a) H1 (vs.map some) ss by
      refine ⟨ln, fun a => (P1 a ∧ ¬ OwnS (vs.map some) ss a) ∨ OwnS σ E1 a, ss, gc, ?_⟩
      dsimp only at h
      cases eF : F ss with
      | bad => rw [eF] at h; exact h
      | exc Cn x ps =>
        rw [eF] at h
        intro H' cls d g' l' x'
        have hz : ∀ a, ((P1 a ∧ ¬ OwnS (vs.map some) ss a) ∨ OwnS σ E1 a) ∨ False → ((P1 a ∧ ¬ OwnS (vs.map some) ss a) ∨ OwnS σ E1 a) := fun a z => z.elim id False.elim
        obtain ⟨q1, q2, q3, q4⟩ := call_back (Pc := fun a => (P1 a ∧ ¬ OwnS (vs.map some) ss a) ∨ OwnS σ E1 a) (B := fun _ => False) g hp g1 l1 ar sa (fun _ => Iff.rfl) gc (g'.less hz) (l'.less hz) fun _ z => z.elim
        refine h H' cls d (q1.less fun a z => .inl z) (q2.less fun a z => .inl z) (x'.less fun b z => ?_)
        have := q3 b ⟨fun q => z.1 (hz b q), z.2⟩
        exact ⟨fun q => this.1 (.inl q), this.2⟩
      | ok s ps =>
        rw [eF] at h
        intro v H' g' l' r' n'
        obtain ⟨q1, q2, q3, q4⟩ := call_back (Pc := fun a => (P1 a ∧ ¬ OwnS (vs.map some) ss a) ∨ OwnS σ E1 a) (B := HeldBy v s) g hp g1 l1 ar sa (fun _ => Iff.rfl) gc g' l' n'
        refine h v H' q1 q2 ?_ q4
        cases s with
        | no => exact r'
        | val d => exact RepB.mono r' q3
        | own d =>
          obtain ⟨a, rfl, r⟩ := r'
          exact ⟨a, rfl, r.monoD fun b _ _ z => q3 b z⟩
    have vv : ∀ {j : Nat} {v : V}, vs[j]? = some v → (vs.map some)[j]? = some (some v) := fun {j v} e => by rw [List.getElem?_map, e]; rfl
    have get : ∀ {j : Nat} {s : Sl}, ss[j]? = some s → ∃ v, vs[j]? = some v := fun {j s} e => by
      have hj : j < vs.length := by rw [ar.len]; exact (List.getElem?_eq_some_iff.mp e).1
      exact ⟨vs[j], by simp [hj]⟩
    have fz : ∀ b, Fz P1 σ E1 b → Fz (fun a => (P1 a ∧ ¬ OwnS (vs.map some) ss a) ∨ OwnS σ E1 a) (vs.map some) ss b := fun b z => ⟨fun q => q.elim (fun q => z.1 q.1) z.2, fun q => z.1 (held b q).1⟩
    refine ⟨by simp [ar.len], fun a q => q.elim (fun q => g1.dom a q.1) fun q => let ⟨o, e, _⟩ := g1.ownD q; ⟨o, e⟩, fun j d e1 => ?_, fun j d e1 => ?_, fun a q q' => ?_, fun i j d d' a e1 e2 e3 e4 => ?_, g1.tab⟩
    · obtain ⟨v, ev⟩ := get e1
      exact ⟨v, vv ev, RepB.mono (ar.res j v _ ev e1) fz⟩
    · obtain ⟨v, ev⟩ := get e1
      obtain ⟨a, rfl, r⟩ := ar.res j v _ ev e1
      exact ⟨a, vv ev, r.monoD fun b _ _ z => fz b z⟩
    · exact q'.elim (fun z => z.2 q) fun z => g1.dis a z (held a q).1
    · have un : ∀ {j : Nat}, (vs.map some)[j]? = some (some (V.ref a)) → vs[j]? = some (V.ref a) := fun {j} e => by
        rw [List.getElem?_map] at e
        cases e5 : vs[j]? with
        | none => rw [e5] at e; cases e
        | some v => rw [e5] at e; simpa using e
      exact ar.inj i j d d' a e1 e2 (un e3) (un e4)
end
end Lw
end

section
set_option Elab.async false
set_option linter.all false
set_option maxRecDepth 100000
set_option maxHeartbeats 4000000
/-! LT: enumerate of a tuple -/
namespace Lw
open PySem PySem.Spec PyProof.Rows L2
section
theorem enum_new1 {v : Value} {o : Obj} {S : Heap → Prop} (B : Begins v o S) :
    Meets (Builtin.«enumerate.__new__» ⟨[.type "enumerate", v], []⟩) (fun _ R s => S s.heap ∧
      R (.ok (.ret (.ref (s.heap.push o).objs.size))) { s with heap := (s.heap.push o).push ⟨.type "enumerate", none, .fields #[.none, .bool false, .ref s.heap.objs.size, rawInt 0, .none, .none], #[]⟩ }) :=
  .of_wp fun prog w A R s h => by
    obtain ⟨hp, gs, dr, tk, os⟩ := s
    obtain ⟨h1, h⟩ := h
    have hsub := sub_enumerate
    have it : ∀ {A' : Around} {E Q : Value → Shared → Prop}, Q (.ref hp.objs.size) ⟨hp.push o, gs, dr, tk, os⟩ → wpAny (model prog w) A' (pyIter v) Q E ⟨hp, gs, dr, tk, os⟩ :=
      fun q => B.iter prog w _ _ ⟨hp, gs, dr, tk, os⟩ _ h1 q
    wp_walk using it
    refine wpAny_stack_any fun st => wpAny_pure ?_
    split
    · rename_i c _ _ _ _ _
      cases (c == Value.type "enumerate") <;> (wp_walk using it; exact ⟨_, rfl, h⟩)
    · wp_walk using it
      exact ⟨_, rfl, h⟩
variable {prog : Program} {w : World} {A : Around} {E : Value → Shared → Prop} {s : Shared}
theorem enum_call1 {v : Value} {o : Obj} {S : Heap → Prop} {Q : Value → Shared → Prop} (B : Begins v o S) (h1 : S s.heap)
    (h : ∀ g, IsEnum g (s.heap.objs.size + 1) s.heap.objs.size 0 .none ∧ g.get? s.heap.objs.size = some o ∧ (∀ b u, s.heap.get? b = some u → g.get? b = some u) → Q (.ref (s.heap.objs.size + 1)) { s with heap := g }) :
    wpAny (model prog w) A (call (.type "enumerate") [v]) Q E s := by
  refine callType_new F.called_enumerate (by decide) (F.typeCall_enumerate_1 _) (F.newCall_enumerate_1 _) (fun obj => F.args_object_init_2 obj _) F.entry_enumerate_new (enum_new1 B) ⟨h1, ?_⟩
  have z1 : (s.heap.push o).objs.size = s.heap.objs.size + 1 := Heap.size_push ..
  show _ ∧ _
  rw [z1]
  have he := Heap.get?_push_size (s.heap.push o) (o := ⟨.type "enumerate", none, .fields #[.none, .bool false, .ref s.heap.objs.size, rawInt 0, .none, .none], #[]⟩) rfl
  rw [z1] at he
  exact ⟨⟨_, he, rfl⟩, h _ ⟨he, Heap.get?_push_of_some _ (Heap.get?_push_size _ B.free), fun b u x => Heap.get?_push_of_some _ (Heap.get?_push_of_some _ x)⟩⟩
end
/-- the end -/
theorem enum_endT {prog : Program} {w : World} {A : Around} {E : Value → Shared → Prop} {s : Shared} {e it l : Addr} {i : Nat} {items : Array Value} {old : Value} {k : Int} {Q : Option Value → Shared → Prop} (hh : A.handled = none)
    (he : IsEnum s.heap e it k old) (hit : s.heap.IsTupleIter it l i) (hl : s.heap.IsTuple l items) (hx : items[i]? = none) (hQ : ∀ g, Heap.ExtBut it s.heap g → Q none { s with heap := g }) :
    wpAny (model prog w) A (pyNext (.ref e)) Q E s := by
  have ty : s.TypeIs (.ref e) "enumerate" := ⟨_, he, rfl⟩
  unfold pyNext
  refine wpAny_bind (wpAny_attempt (wpAny_callSpecial?_slot (name := Str.ofString "__next__") ty
    F.slot_enumerate_next (wpAny_call_entry F.slot_enumerate_next ty F.entry_enumerate_next ?_ (F.args_enumerate_next_1 _))))
  show wpAny _ _ (field (.ref e) 2 >>= _) _ _ s
  refine wpAny_bind (wpAny_field he rfl (x := .ref it) rfl <|
    wpAny_bind (wpAny_nextOf_tuple_end hh hit hl hx fun g x eb ⟨o, ho, hc⟩ => ?_))
  exact wpAny_bind (wpAny_isInstance (T := "StopIteration") (b := true) ⟨o, ho, hc⟩ isSubtype_stop (wpAny_pure (hQ _ eb)))
/-- the tuple at a, each item in a new pair with its number -/
def IteT (K : PySem.W.Frag) (a : Addr) : It :=
  ⟨fun i H => ∃ (xs : List V) (x : V), SqT K H a xs ∧ xs[i]? = some x, fun i H v H' => ∃ T x, v = .ref T ∧ H T = none ∧ H' = upd H T (.tup [.int (i : Nat), x]) ∧ ∀ xs, SqT K H a xs → xs[i]? = some x, fun i H => ∃ xs : List V, SqT K H a xs ∧ xs.length ≤ i⟩
theorem turn_enumT {P : Program} {w : World} {K : PySem.W.Frag} {elts : List Expr} {kk : Nat} {tpos : Pos} (a e it : Addr) (ha : a ≠ it) (hb : e ≠ it) (hc : e ≠ a) :
    Turn P w K (.Tuple elts kk tpos) (IteT K a) [e, it] e (fun i h => (∃ old, IsEnum h e it ((i : Nat) : Int) old) ∧ h.IsTupleIter it a i) where
  mem := by simp
  obj := fun i h st b hb => by
    obtain ⟨⟨old, he⟩, o, ho, _, hd⟩ := st
    simp only [List.mem_cons, List.not_mem_nil, or_false] at hb
    rcases hb with rfl | rfl
    · exact ⟨_, he, fun v q => nomatch q⟩
    · exact ⟨o, ho, fun v q => by rw [hd] at q; cases q⟩
  keep := fun i h h' st k => let ⟨⟨old, he⟩, hi⟩ := st; ⟨⟨old, k e (by simp) _ he⟩, hi.at fun o q => k it (by simp) o q⟩
  item := by
    intro X hP hw hK hc' i pins s σ H E I hf st hg
    subst hP hw hK
    obtain ⟨⟨old, he⟩, hit⟩ := st
    obtain ⟨xs, x, hq, hx⟩ := hg
    obtain ⟨its, rv, p, _⟩ := I.tuple hq
    obtain ⟨u, hu, ru⟩ := rv.get hx
    have le : e < s.heap.objs.size := Heap.lt_size he
    have li : it < s.heap.objs.size := by obtain ⟨_, q, _⟩ := hit; exact Heap.lt_size q
    have hi : i < its.toArray.size := by
      rcases Nat.lt_or_ge i its.length with q | q
      · simpa using q
      · rw [List.getElem?_eq_none q] at hu; cases hu
    refine wpAny_pyNext_enum_itemD (Draws.tuple (A := X.A.in1) (I.ok.hd hc') it a ha its.toArray) he ⟨hit, p⟩ hi hb (by simp [hb, hc]) fun y h' tk hy ho st' hT hsz hk => ?_
    have hyu : y = u := by
      have : its[i]? = some y := by simpa using hy
      rw [hu] at this; exact (Option.some.inj this).symm
    subst hyu
    refine ⟨_, rfl, wpAny_letOwnedTupleGo_enum (s := { s with heap := h', toks := tk + 1 }) ho fun h'' he' sb => ?_⟩
    have hT2 : h''.get? s.heap.objs.size = some { cls := .type "tuple", data := .seq #[.int i tk, y] } := (sb.2 _ (Nat.ne_of_gt le)).trans hT
    have I1 : Inv X pins σ (upd H s.heap.objs.size (.tup [.int (i : Nat), x])) { s with heap := h'', toks := tk + 1 } :=
      I.turnedNew (ch := [e, it]) (fun b ob hb q => (sb.2 b (fun z => hb (by simp [z]))).trans (hk b ob (fun z => hb (by simp [z])) (fun z => hb (by simp [z])) q)) hf (Nat.le_refl _)
        ⟨by show 2 ≤ sizeLine; decide, [.int i tk, y], .cons ⟨_, rfl⟩ (.cons ru .nil), ⟨_, hT2, rfl, _, rfl⟩⟩
    refine ⟨.ref s.heap.objs.size, _, I1, rfl, ⟨_, x, rfl, I.hok.fresh (Nat.le_refl _), rfl, fun ys hy => by rw [I.tuple_inj hy hq]; exact hx⟩, ⟨⟨y, ?_⟩, st'.1.at fun o q => (sb.2 it (Ne.symm hb)).trans q⟩, fun b hb => ?_⟩
    · rw [show ((i + 1 : Nat) : Int) = (i : Int) + 1 by omega]; exact he'
    · have lb : b < s.heap.objs.size := by
        simp only [List.mem_cons, List.not_mem_nil, or_false] at hb
        rcases hb with rfl | rfl
        · exact le
        · exact li
      rw [upd_ne (Nat.ne_of_lt lb)]
      exact (hf b hb).1
  done := by
    intro X hP hw hK hc' i pins s σ H E I hf st hg
    subst hP hw hK
    obtain ⟨⟨old, he⟩, hit⟩ := st
    obtain ⟨xs, hq, hx⟩ := hg
    obtain ⟨its, rv, p, _⟩ := I.tuple hq
    obtain ⟨f0, f1, f2, f3, f4, f5⟩ := hf it (by simp)
    have hl := rv.length
    exact enum_endT (I.ok.hd hc') he hit p (by simp; omega) fun h' eb => ⟨rfl, I.turned (t' := s.toks) (fun b o hb q => eb b o hb q) f0 f1 f3 f4 f5⟩
  self := fun A i s Q E st h => let ⟨⟨_, he⟩, _⟩ := st; wpAny_pyIter_enum he h
/-- enumerate of a list or a tuple -/
def iEnumA (K : PySem.W.Frag) (ta : TA) : TI := fun σ H R => ta σ H fun vs H1 => ∃ a xs, vs = [.ref a] ∧ ((SqL K H1 a xs ∧ R (Ite K a) H1) ∨ (SqT K H1 a xs ∧ R (IteT K a) H1))
theorem pi_enumA {X : Cx} {e : Expr} {ta : TA} {p pos tpos : Pos} {elts : List Expr} {kk : Nat} (hg : Gl X "enumerate") (hm : X.mg "enumerate" = none) (ha : PA X [e] ta) (hs : starEach [e] X.env = [(false, eval e X.env)]) :
    PI X (.Tuple elts kk tpos) (.Call (.Name "enumerate" p) [e] [] pos) (iEnumA X.K ta) := by
  refine ⟨fun pins s σ H R I h => ?_⟩
  refine Call_ (ld_blt I hg hm boot_enumerate (PyProof.Rows.callWith_type1 (thn (ha.run pos pins s σ H _ I h) fun us s1 ⟨vs, H1, I1, r1, a, xs, ex, hq⟩ => ?_) hs rfl))
  subst ex
  have above : ∀ {b : Addr}, b ∈ [s1.heap.objs.size + 1, s1.heap.objs.size] → s1.heap.objs.size ≤ b := fun {b} hb => by
    simp only [List.mem_cons, List.not_mem_nil, or_false] at hb
    rcases hb with rfl | rfl
    · exact Nat.le_succ _
    · exact Nat.le_refl _
  cases r1 with
  | cons r rr =>
    cases rr
    cases r
    rcases hq with ⟨hq, q⟩ | ⟨hq, q⟩
    · obtain ⟨its, rv, p', _⟩ := I1.list hq
      refine call_enumerate_list p'.isList fun g he hit _ hk => wpAny_pyIter_enum he ?_
      exact ⟨s1.heap.objs.size + 1, [s1.heap.objs.size + 1, s1.heap.objs.size], _, _, H1, rfl, I1.kept (t' := s1.toks) hk, turn_enum a (s1.heap.objs.size + 1) s1.heap.objs.size, ⟨⟨.none, he⟩, hit, Nat.succ_ne_self _⟩, fun b hb => I1.fpOk (above hb) (I1.hok.fresh (above hb)), q⟩
    · obtain ⟨its, rv, p', _⟩ := I1.tuple hq
      have la : a < s1.heap.objs.size := by obtain ⟨_, q, _⟩ := p'; exact Heap.lt_size q
      refine enum_call1 (begins_tuple a its.toArray) p' fun g ⟨he, hit, hk⟩ => wpAny_pyIter_enum he ?_
      exact ⟨s1.heap.objs.size + 1, [s1.heap.objs.size + 1, s1.heap.objs.size], _, _, H1, rfl, I1.kept (t' := s1.toks) hk, turn_enumT a (s1.heap.objs.size + 1) s1.heap.objs.size (Nat.ne_of_lt la) (Nat.succ_ne_self _) (Nat.ne_of_gt (Nat.lt_succ_of_lt la)), ⟨⟨.none, he⟩, _, hit, rfl, rfl⟩, fun b hb => I1.fpOk (above hb) (I1.hok.fresh (above hb)), q⟩
end Lw
end

section
set_option Elab.async false
set_option linter.all false
set_option maxRecDepth 100000
set_option maxHeartbeats 4000000
/-! L10: what is walked; comprehensions; for, while -/
namespace Lw
open PySem L2
variable [TabInfo]
section
variable {K : PySem.W.Frag} {mg : Str → Option Value} {W : WX} {P P' P1 : Addr → Prop} {H H' H1 H0 : Hp} {σ σ' σ1 : St} {E E' E1 E0 : SE} {Φ : Nat → M Sl} {C : Nat → D}
/-- J walks ds, as long as what is protected or frozen stays -/
def Wk (K : PySem.W.Frag) (T : Addr → Prop) (P : Addr → Prop) (J : It) (H : Hp) (ds : List D) : Prop :=
  ∀ H2, Kp (fun a => P a ∨ T a) H H2 → (∀ i, ds.length ≤ i → J.stop i H2) ∧ ∀ (i : Nat) (d : D), ds[i]? = some d → J.go i H2 ∧ ∀ x H3, J.yld i H2 x H3 → (∀ a o, H2 a = some o → H3 a = some o) ∧ RepB K H3 (fun b => T b ∧ ∃ o, H b = some o) x d
/-- a list or tuple that stays -/
def StL (T P : Addr → Prop) (K : PySem.W.Frag) (H : Hp) (a : Addr) (vs : List V) (ds : List D) : Prop := H a = some (.lst vs) ∧ (P a ∨ T a) ∧ RepsB K H T vs ds
def StT (T P : Addr → Prop) (K : PySem.W.Frag) (H : Hp) (a : Addr) (vs : List V) (ds : List D) : Prop := SqT K H a vs ∧ RepsB K H T vs ds
theorem RepsB.kp2 {T P : Addr → Prop} {vs ds} {H2 : Hp} (r : RepsB K H T vs ds) (k : Kp (fun a => P a ∨ T a) H H2) : RepsB K H2 (fun b => T b ∧ ∃ o, H b = some o) vs ds :=
  (r.monoD fun a o e z => ⟨z, o, e⟩ : RepsB K H (fun b => T b ∧ ∃ o, H b = some o) vs ds).keep fun a o e t z => k a o e t (z.imp (fun z => .inr z.1) id)
theorem StL.at {T P : Addr → Prop} {a vs ds} {H2 : Hp} (s : StL T P K H a vs ds) (k : Kp (fun a => P a ∨ T a) H H2) : H2 a = some (.lst vs) ∧ RepsB K H2 (fun b => T b ∧ ∃ o, H b = some o) vs ds :=
  ⟨k a _ s.1 (fun _ z => nomatch z) (.inl s.2.1), s.2.2.kp2 k⟩
theorem StT.at {T P : Addr → Prop} {a vs ds} {H2 : Hp} (s : StT T P K H a vs ds) (k : Kp (fun a => P a ∨ T a) H H2) : SqT K H2 a vs ∧ RepsB K H2 (fun b => T b ∧ ∃ o, H b = some o) vs ds :=
  ⟨k.sqT s.1, s.2.kp2 k⟩
theorem sqL_inj {a vs ws} (h : H a = some (.lst vs)) (h' : SqL K H a ws) (hk : K.lookup a = none) : ws = vs := by
  rcases h' with (h' | ⟨o, h'⟩) | ⟨o, its, n, h', _⟩
  · rw [h] at h'; cases h'; rfl
  · rw [h] at h'; cases h'
  · rw [hk] at h'; cases h'
theorem wk_list {T P : Addr → Prop} {a vs ds} (s : StL T P K H a vs ds) : Wk K T P (Itl K a) H ds := fun H2 k => by
  obtain ⟨h1, h2⟩ := s.at k
  refine ⟨fun i hi => ⟨vs, SqL.of h1, by rw [h2.length]; exact hi⟩, fun i d e => ?_⟩
  obtain ⟨v, ev, r⟩ := h2.get e
  refine ⟨⟨vs, v, SqL.of h1, ev⟩, fun x H3 y => ?_⟩
  obtain ⟨rfl, y⟩ := y
  refine ⟨fun _ _ z => z, ?_⟩
  have := y vs (SqL.of h1)
  rw [ev] at this; cases this
  exact r
theorem wk_tup {T P : Addr → Prop} {a vs ds} (s : StT T P K H a vs ds) : Wk K T P (Itt K a) H ds := fun H2 k => by
  obtain ⟨h1, h2⟩ := s.at k
  refine ⟨fun i hi => ⟨vs, h1, by rw [h2.length]; exact hi⟩, fun i d e => ?_⟩
  obtain ⟨v, ev, r⟩ := h2.get e
  refine ⟨⟨vs, v, h1, ev⟩, fun x H3 y => ?_⟩
  obtain ⟨rfl, y⟩ := y
  refine ⟨fun _ _ z => z, ?_⟩
  have := y vs h1
  rw [ev] at this; cases this
  exact r
theorem wk_rng {T P : Addr → Prop} (lo hi : Int) : Wk K T P (Itr lo (hi - lo).toNat) H (rngD lo hi) := fun H2 k => by
  refine ⟨fun i h => (by rw [show (rngD lo hi).length = (hi - lo).toNat by simp [rngD]] at h; exact h), fun i d e => ?_⟩
  unfold rngD at e
  rw [List.getElem?_map] at e
  obtain ⟨j, e1, rfl⟩ := Option.map_eq_some_iff.mp e
  have hj : i < (hi - lo).toNat ∧ j = i := by
    obtain ⟨h1, h2⟩ := List.getElem?_eq_some_iff.mp e1
    rw [List.getElem_range] at h2
    exact ⟨by simpa using h1, h2.symm⟩
  obtain ⟨h1, rfl⟩ := hj
  refine ⟨h1, fun x H3 y => ?_⟩
  obtain ⟨rfl, rfl⟩ := y
  exact ⟨fun _ _ z => z, .int _⟩
theorem zip_get {xs ys : List D} {i : Nat} {d : D} (e : (zipD xs ys)[i]? = some d) : ∃ x y, xs[i]? = some x ∧ ys[i]? = some y ∧ d = .tup [x, y] := by
  unfold zipD at e
  rw [List.getElem?_map] at e
  obtain ⟨p, e1, rfl⟩ := Option.map_eq_some_iff.mp e
  rw [List.getElem?_zip_eq_some] at e1
  exact ⟨p.1, p.2, e1.1, e1.2, rfl⟩
theorem pair_new {T : Addr → Prop} {H2 : Hp} {p : Addr} {x y : V} {c d : D} (hp : H2 p = none) (r1 : RepB K H2 T x c) (r2 : RepB K H2 T y d) : RepB K (upd H2 p (.tup [x, y])) T (.ref p) (.tup [c, d]) :=
  .tup (SqT.of upd_same) (.cons (r1.keep (Kp.of (ext_upd hp))) (.cons (r2.keep (Kp.of (ext_upd hp))) .nil))
theorem wk_zip {T P : Addr → Prop} {a b vs ws ds es} (s : StL T P K H a vs ds) (t : StL T P K H b ws es) : Wk K T P (Itz K a b) H (zipD ds es) := fun H2 k => by
  obtain ⟨h1, h2⟩ := s.at k
  obtain ⟨h3, h4⟩ := t.at k
  refine ⟨fun i hi => ⟨vs, ws, SqL.of h1, SqL.of h3, ?_⟩, fun i d e => ?_⟩
  · rw [h2.length, h4.length]
    unfold zipD at hi
    rw [List.length_map, List.length_zip] at hi
    omega
  · obtain ⟨x, y, e1, e2, rfl⟩ := zip_get e
    obtain ⟨v, ev, r⟩ := h2.get e1
    obtain ⟨w, ew, r'⟩ := h4.get e2
    refine ⟨⟨vs, ws, v, w, SqL.of h1, SqL.of h3, ev, ew⟩, fun z H3 q => ?_⟩
    obtain ⟨p, v', w', rfl, hp, rfl, q1, q2⟩ := q
    have := q1 vs (SqL.of h1); rw [ev] at this; cases this
    have := q2 ws (SqL.of h3); rw [ew] at this; cases this
    exact ⟨ext_upd hp, pair_new hp r r'⟩
theorem wk_zipT {T P : Addr → Prop} {a b vs ws ds es} (s : StT T P K H a vs ds) (t : StT T P K H b ws es) : Wk K T P (RZ.ItzT K a b) H (zipD ds es) := fun H2 k => by
  obtain ⟨h1, h2⟩ := s.at k
  obtain ⟨h3, h4⟩ := t.at k
  refine ⟨fun i hi => ⟨vs, ws, h1, h3, ?_⟩, fun i d e => ?_⟩
  · rw [h2.length, h4.length]
    unfold zipD at hi
    rw [List.length_map, List.length_zip] at hi
    omega
  · obtain ⟨x, y, e1, e2, rfl⟩ := zip_get e
    obtain ⟨v, ev, r⟩ := h2.get e1
    obtain ⟨w, ew, r'⟩ := h4.get e2
    refine ⟨⟨vs, ws, v, w, h1, h3, ev, ew⟩, fun z H3 q => ?_⟩
    obtain ⟨p, v', w', rfl, hp, rfl, q1, q2⟩ := q
    have := q1 vs h1; rw [ev] at this; cases this
    have := q2 ws h3; rw [ew] at this; cases this
    exact ⟨ext_upd hp, pair_new hp r r'⟩
theorem wk_enum {T P : Addr → Prop} {a vs ds} (s : StL T P K H a vs ds) : Wk K T P (Ite K a) H (enumD ds) := fun H2 k => by
  obtain ⟨h1, h2⟩ := s.at k
  refine ⟨fun i hi => ⟨vs, SqL.of h1, ?_⟩, fun i d e => ?_⟩
  · rw [h2.length]; simpa [enumD] using hi
  · unfold enumD at e
    rw [List.getElem?_map] at e
    obtain ⟨p, e1, rfl⟩ := Option.map_eq_some_iff.mp e
    rw [List.getElem?_zipIdx] at e1
    obtain ⟨c, e2, rfl⟩ := Option.map_eq_some_iff.mp e1
    obtain ⟨v, ev, r⟩ := h2.get e2
    refine ⟨⟨vs, v, SqL.of h1, ev⟩, fun z H3 q => ?_⟩
    obtain ⟨p, v', rfl, hp, rfl, q1⟩ := q
    have := q1 vs (SqL.of h1); rw [ev] at this; cases this
    refine ⟨ext_upd hp, ?_⟩
    have := pair_new hp (RepB.int (K := K) (H := H2) (T := fun b => T b ∧ ∃ o, H b = some o) ((i : Nat) : Int)) r
    simpa using this
theorem wk_enumT {T P : Addr → Prop} {a vs ds} (s : StT T P K H a vs ds) : Wk K T P (IteT K a) H (enumD ds) := fun H2 k => by
  obtain ⟨h1, h2⟩ := s.at k
  refine ⟨fun i hi => ⟨vs, h1, ?_⟩, fun i d e => ?_⟩
  · rw [h2.length]; simpa [enumD] using hi
  · unfold enumD at e
    rw [List.getElem?_map] at e
    obtain ⟨p, e1, rfl⟩ := Option.map_eq_some_iff.mp e
    rw [List.getElem?_zipIdx] at e1
    obtain ⟨c, e2, rfl⟩ := Option.map_eq_some_iff.mp e1
    obtain ⟨v, ev, r⟩ := h2.get e2
    refine ⟨⟨vs, v, h1, ev⟩, fun z H3 q => ?_⟩
    obtain ⟨p, v', rfl, hp, rfl, q1⟩ := q
    have := q1 vs h1; rw [ev] at this; cases this
    refine ⟨ext_upd hp, ?_⟩
    have := pair_new hp (RepB.int (K := K) (H := H2) (T := fun b => T b ∧ ∃ o, H b = some o) ((i : Nat) : Int)) r
    simpa using this
def PostI (K : PySem.W.Frag) (mg : Str → Option Value) (W : WX) (P : Addr → Prop) (σ : St) (E : SE) (H : Hp) (R' : It → Hp → Prop) : R (List D) → Prop
  | .ok ds E' => ∀ J H' P', (∀ a, P a → P' a) → Good K P' H' σ E' → Lnk P σ E H P' σ E' H' → Wk K (Fz P' σ E') P' J H' ds → R' J H'
  | .exc C x E' => ∀ H' cls d, Good K P H' σ E' → Lnk P σ E H P σ E' H' → ExcR K mg (Fz P σ E') H' C x cls d → W cls d σ H'
  | .bad => False
def TIof (K : PySem.W.Frag) (mg : Str → Option Value) (W : WX) (f : M (List D)) : TI := fun σ H R' => ∃ P E, Good K P H σ E ∧ PostI K mg W P σ E H R' (f E)
/-- a list that is a result stays -/
theorem ResR.stL {v : V} {s : Sl} {ds : List D} (r : ResR K P σ E H v s) (hh : ∀ a, HeldBy v s a → P a) (e : s.d = .lst ds) : ∃ a vs, v = .ref a ∧ StL (Fz P σ E) P K H a vs ds := by
  cases s with
  | no => exact r.elim
  | val d =>
    have e : d = .lst ds := e
    subst e
    obtain ⟨S, r, hS⟩ := r
    cases r with
    | lst h1 h2 => exact ⟨_, _, rfl, h1, .inr (hS _ (List.mem_cons_self ..)), _, h2, fun b hb => hS b (List.mem_cons_of_mem _ hb)⟩
  | own d =>
    have e : d = .lst ds := e
    subst e
    obtain ⟨a, rfl, S, r, hS⟩ := r
    cases r with
    | lst h1 h2 => exact ⟨_, _, rfl, h1, .inl (hh a rfl), _, h2, hS⟩
theorem ResR.stT {v : V} {s : Sl} {ds : List D} (r : ResR K P σ E H v s) (e : s.d = .tup ds) : ∃ a vs, v = .ref a ∧ StT (Fz P σ E) P K H a vs ds := by
  cases s with
  | no => exact r.elim
  | val d =>
    have e : d = .tup ds := e
    subst e
    obtain ⟨a, vs, rfl, h1, h2⟩ := RepB.top r |>.tup
    exact ⟨a, vs, rfl, h1, h2⟩
  | own d =>
    have e : d = .tup ds := e
    subst e
    obtain ⟨a, rfl, S, r, hS⟩ := r
    cases r
end
section
variable {X : Cx} {W : WX} {Φ : Nat → M Sl} {C : Nat → D} {tg iter : Expr}
/-- a list or a tuple is walked -/
theorem pi_seq {f : M Sl} {l : Expr} (hl : PE X l (TEof X.K X.mg W f)) : PI X tg l (TIof X.K X.mg W (M.bind f fun s => M.opt (itemsD s.d))) := by
  refine ⟨fun pins s σ H R I h => ?_⟩
  obtain ⟨P, E, g, h⟩ := h
  rw [mbind] at h
  cases e : f E with
  | bad => rw [e] at h; exact h.elim
  | exc Cn x E1 =>
    rw [e] at h
    exact (pi_list (tg := tg) hl).run pins s σ H R I ⟨P, E, g, by rw [e]; exact h⟩
  | ok t E1 =>
    rw [e, bind_ok] at h
    cases ed : t.d with
    | lst ds =>
      rw [ed] at h
      refine (pi_list (tg := tg) hl).run pins s σ H R I ⟨P, E, g, ?_⟩
      rw [e]
      intro v H1 g1 l1 r1 n1
      obtain ⟨a, vs, rfl, st⟩ := r1.stL (fun a z => .inr z) ed
      exact ⟨a, rfl, ⟨vs, SqL.of st.1⟩, h _ H1 _ (fun a z => .inl z) g1 l1 (wk_list st)⟩
    | tup ds =>
      rw [ed] at h
      refine (pi_tup (tg := tg) hl).run pins s σ H R I ⟨P, E, g, ?_⟩
      rw [e]
      intro v H1 g1 l1 r1 n1
      obtain ⟨a, vs, rfl, st⟩ := r1.stT ed
      exact ⟨a, rfl, ⟨vs, st.1⟩, h _ H1 _ (fun a z => .inl z) g1 l1 (wk_tup st)⟩
    | _ => rw [ed] at h; exact h.elim

theorem pi_rng1 {f : M Sl} {a : Expr} {p pos : Pos} (hg : Gl X "range") (hm : X.mg "range" = none) (ha : PA X [a] (tCons (TEof X.K X.mg W f) tNil)) (hs : starEach [a] X.env = [(false, eval a X.env)]) :
    PI X tg (.Call (.Name "range" p) [a] [] pos) (TIof X.K X.mg W (M.bind f fun s => match s with
      | .val (.int n) => if -(2 ^ 62) ≤ n ∧ n < 2 ^ 62 then M.pure (rngD 0 n) else M.bad
      | _ => M.bad)) := by
  refine ⟨fun pins s σ H R I h => (pi_range1 (tg := tg) hg hm ha hs).run pins s σ H R I ?_⟩
  obtain ⟨P, E, g, h⟩ := h
  rw [mbind] at h
  refine ⟨P, E, g, ?_⟩
  cases e : f E with
  | bad => rw [e] at h; exact h.elim
  | exc Cn x E1 => rw [e] at h; exact h
  | ok t E1 =>
    rw [e, bind_ok] at h
    intro v H1 g1 l1 r1 n1
    split at h
    · rename_i n
      split at h
      · rename_i hb
        have := RepB.int_v r1
        subst this
        refine ⟨n, rfl, hb.1, hb.2, h (Itr 0 n.toNat) H1 P (fun _ z => z) (g1.less fun a z => .inl z) (l1.less fun a z => .inl z) ?_⟩
        have := wk_rng (K := X.K) (T := Fz P σ E1) (P := P) (H := H1) 0 n
        rw [Int.sub_zero] at this
        exact this
      · exact h.elim
    · exact h.elim
theorem TopsB.ints2 {K H T vs} {m n : Int} (h : TopsB K H T vs [.int m, .int n]) : vs = [.int m, .int n] := by
  obtain ⟨v, w, rfl, h1, h2⟩ := h.two
  rw [h1.int, h2.int]
theorem pi_rng2 {oa ob : Opd} {a b : Expr} {p pos : Pos} (hg : Gl X "range") (hm : X.mg "range" = none) (ha : PA X [a, b] (tOpds X.K X.mg W [oa, ob])) (hs : starEach [a, b] X.env = [(false, eval a X.env), (false, eval b X.env)]) (hs2 : starEach [b] X.env = [(false, eval b X.env)]) :
    PI X tg (.Call (.Name "range" p) [a, b] [] pos) (TIof X.K X.mg W (M.bind (evA [oa, ob]) fun ds => match ds with
      | [.int m, .int n] => if (-(2 ^ 62) ≤ m ∧ m < 2 ^ 62) ∧ (-(2 ^ 62) ≤ n ∧ n < 2 ^ 62) then M.pure (rngD m n) else M.bad
      | _ => M.bad)) := by
  refine ⟨fun pins s σ H R I h => (pi_range2 (tg := tg) hg hm ha hs hs2).run pins s σ H R I ?_⟩
  obtain ⟨P, E, g, h⟩ := h
  rw [mbind] at h
  refine argsL [oa, ob] σ H _ ⟨P, E, g, ?_⟩
  cases e : evA [oa, ob] E with
  | bad => rw [e] at h; exact h.elim
  | exc Cn x E1 => rw [e] at h; exact h
  | ok ds E1 =>
    rw [e, bind_ok] at h
    intro vs H1 P1 hp g1 l1 ts
    split at h
    · rename_i m n
      split at h
      · rename_i hb
        have := ts.ints2
        subst this
        exact ⟨m, n, rfl, ⟨hb.1.1, hb.1.2, hb.2.1, hb.2.2⟩, h _ H1 P1 hp g1 l1 (wk_rng m n)⟩
      · exact h.elim
    · exact h.elim
theorem ArgsR.hold {K P P' σ E H vs ss} {j : Nat} {v : V} {s : Sl} (h : ArgsR K P P' σ E H vs ss) (e1 : vs[j]? = some v) (e2 : ss[j]? = some s) : ∀ a, HeldBy v s a → P' a := fun a z => by
  cases s with
  | own d =>
    have z' : v = .ref a := z
    subst z'
    exact (h.held j d a e2 e1).1
  | _ => exact z.elim
theorem pi_enum' {fa : M Sl} {a : Expr} {p pos tpos : Pos} {elts : List Expr} {kk : Nat} (hg : Gl X "enumerate") (hm : X.mg "enumerate" = none) (ha : PA X [a] (tArgs X.K X.mg W [.ex fa])) (hs : starEach [a] X.env = [(false, eval a X.env)]) :
    PI X (.Tuple elts kk tpos) (.Call (.Name "enumerate" p) [a] [] pos) (TIof X.K X.mg W (M.bind (evC [.ex fa]) fun ss => M.opt (match ss with
    | [s] => (itemsD s.d).map enumD
    | _ => none))) := by
  refine ⟨fun pins s σ H R I h => (pi_enumA hg hm ha hs).run pins s σ H R I ?_⟩
  obtain ⟨P, E, g, h⟩ := h
  rw [mbind] at h
  refine argsC [.ex fa] σ H _ P E g ?_
  cases e : evC [.ex fa] E with
  | bad => rw [e] at h; exact h.elim
  | exc Cn x E1 => rw [e] at h; exact h
  | ok ss E1 =>
    rw [e, bind_ok] at h
    intro vs H1 P1 hp g1 l1 ar sa
    have hlen := evC_length e
    match ss, hlen with
    | [s], _ =>
      have hl := ar.len
      match vs, hl with
      | [v], _ =>
        have r1 := ar.res 0 v s rfl rfl
        have h1 := ar.hold (j := 0) rfl rfl
        dsimp only at h
        cases ed : s.d with
        | lst xs =>
          rw [ed] at h
          obtain ⟨a, vs, rfl, s1⟩ := r1.stL h1 ed
          exact ⟨a, vs, rfl, .inl ⟨SqL.of s1.1, h _ H1 P1 hp g1 l1 (wk_enum s1)⟩⟩
        | tup xs =>
          rw [ed] at h
          obtain ⟨a, vs, rfl, s1⟩ := r1.stT ed
          exact ⟨a, vs, rfl, .inr ⟨s1.1, h _ H1 P1 hp g1 l1 (wk_enumT s1)⟩⟩
        | _ => rw [ed] at h; exact h.elim
theorem pi_zip' {fa fb : M Sl} {a b : Expr} {p pos tpos : Pos} {elts : List Expr} {kk : Nat} (hg : Gl X "zip") (hm : X.mg "zip" = none) (ha : PA X [a, b] (tArgs X.K X.mg W [.ex fa, .ex fb])) (hs : starEach [a, b] X.env = (false, eval a X.env) :: starEach [b] X.env) (hpl : (backTo pos (starEach [b] X.env)).any (·.1) = false) :
    PI X (.Tuple elts kk tpos) (.Call (.Name "zip" p) [a, b] [] pos) (TIof X.K X.mg W (M.bind (evC [.ex fa, .ex fb]) fun ss => M.opt (match ss with
    | [s, t] => match s.d, t.d with
      | .lst xs, .lst ys => some (zipD xs ys)
      | .tup xs, .tup ys => some (zipD xs ys)
      | _, _ => none
    | _ => none))) := by
  refine ⟨fun pins s σ H R I h => (RZ.pi_zipA hg hm ha hs hpl).run pins s σ H R I ?_⟩
  obtain ⟨P, E, g, h⟩ := h
  rw [mbind] at h
  refine argsC [.ex fa, .ex fb] σ H _ P E g ?_
  cases e : evC [.ex fa, .ex fb] E with
  | bad => rw [e] at h; exact h.elim
  | exc Cn x E1 => rw [e] at h; exact h
  | ok ss E1 =>
    rw [e, bind_ok] at h
    intro vs H1 P1 hp g1 l1 ar sa
    have hlen := evC_length e
    match ss, hlen with
    | [s, t], _ =>
      have hl := ar.len
      match vs, hl with
      | [v, w], _ =>
        have r1 := ar.res 0 v s rfl rfl
        have r2 := ar.res 1 w t rfl rfl
        have h1 := ar.hold (j := 0) rfl rfl
        have h2 := ar.hold (j := 1) rfl rfl
        dsimp only at h
        split at h
        · rename_i xs ys e1 e2
          obtain ⟨a, vs, rfl, s1⟩ := r1.stL h1 e1
          obtain ⟨b, ws, rfl, s2⟩ := r2.stL h2 e2
          exact ⟨a, b, vs, ws, rfl, .inl ⟨SqL.of s1.1, SqL.of s2.1, h _ H1 P1 hp g1 l1 (wk_zip s1 s2)⟩⟩
        · rename_i xs ys e1 e2
          obtain ⟨a, vs, rfl, s1⟩ := r1.stT e1
          obtain ⟨b, ws, rfl, s2⟩ := r2.stT e2
          exact ⟨a, b, vs, ws, rfl, .inr ⟨s1.1, s2.1, h _ H1 P1 hp g1 l1 (wk_zipT s1 s2)⟩⟩
        · exact h.elim
end
section
variable {K : PySem.W.Frag} {mg : Str → Option Value} {W : WX} {P P' P1 : Addr → Prop} {H H' H1 H0 : Hp} {σ σ' σ1 : St} {E E' E1 E0 : SE}
/-! ### targets -/
def tgT (K : PySem.W.Frag) : Tgt → TG
  | .nm i => gName i
  | .tup ts => gTup K ts.length (tgTs ts)
where
  tgTs : List Tgt → TGs
    | [] => gNil
    | t :: r => gCons (tgT K t) (tgTs r)
/-- what the stores of a target leave: the slots st alone are changed -/
def Same (st : List Nat) (σ σ' : St) : Prop := σ'.length = σ.length ∧ ∀ i, i ∉ st → σ'[i]? = σ[i]?
theorem Same.refl {st : List Nat} {σ : St} : Same st σ σ := ⟨rfl, fun _ _ => rfl⟩
theorem Same.trans {st : List Nat} {σ σ1 σ2 : St} (a : Same st σ σ1) (b : Same st σ1 σ2) : Same st σ σ2 := ⟨b.1.trans a.1, fun i h => (b.2 i h).trans (a.2 i h)⟩
theorem Same.mono {st st' : List Nat} {σ σ1 : St} (a : Same st σ σ1) (h : ∀ i ∈ st, i ∈ st') : Same st' σ σ1 := ⟨a.1, fun i n => a.2 i fun q => n (h i q)⟩
mutual
def Tgt.st : Tgt → List Nat
  | .nm i => [i]
  | .tup ts => Tgt.sts ts
def Tgt.sts : List Tgt → List Nat
  | [] => []
  | t :: r => Tgt.st t ++ Tgt.sts r
end

theorem own_set {v : V} {s : Sl} {i : Nat} {a : Addr} (h : OwnS (σ.set i (some v)) (E.set i s) a) : OwnS σ E a ∨ HeldBy v s a := by
  obtain ⟨j, d, e1, e2⟩ := h
  rw [getE_set] at e1
  split at e1
  · rename_i hij
    subst hij
    split at e1
    · cases e1
      by_cases hl : i < σ.length
      · rw [List.getElem?_set_self hl] at e2
        cases e2
        exact .inr rfl
      · rw [List.getElem?_eq_none (by simpa using hl)] at e2; cases e2
    · cases e1
  · rename_i hij
    rw [List.getElem?_set_ne hij] at e2
    exact .inl ⟨j, d, e1, e2⟩
/-- a result is stored -/
theorem Lnk.put {v : V} {s : Sl} {i : Nat} (l : Lnk P σ1 E1 H1 (Pl P v s) σ E H) (hn : ∀ a, HeldBy v s a → ¬ P a) : Lnk P σ1 E1 H1 P (σ.set i (some v)) (E.set i s) H :=
  ⟨l.keep, fun a h => (own_set h).elim (l.new a) fun z => (l.pr a (.inr z)).elim (fun p => absurd p (hn a z)) id, fun a z => l.pr a (.inl z), l.tbs⟩
theorem Same.set {i : Nat} {v : Option V} : Same [i] σ (σ.set i v) := ⟨by simp, fun j h => List.getElem?_set_ne (fun e => h (by simp [e]))⟩
mutual
theorem tgt_ok : ∀ (tg : Tgt) (d : D) (v : V) (σ : St) (E E' : SE) (H : Hp) (Q : St → Hp → Prop), Good K P H σ E → RepB K H (Fz P σ E) v d → bindT tg d E = some E' →
    (∀ σ', Good K P H σ' E' → Lnk P σ E H P σ' E' H → Same tg.st σ σ' → Q σ' H) → tgT K tg v σ H Q
  | .nm i, d, v, σ, E, E', H, Q, g, r, e, q => by
    rw [bindT] at e
    split at e
    · rename_i hi
      cases e
      have gl : Good K (Pl P v (.val d)) H σ E := g.less fun a z => z.elim id False.elim
      have rl : ResR K (Pl P v (.val d)) σ E H v (.val d) := RepB.mono r fun a z => ⟨fun q => z.1 (q.elim id False.elim), z.2⟩
      rw [tgT]
      exact q _ (gl.put rl (fun a z => z.elim) hi) (Lnk.put (Lnk.refl.less fun a z => z.elim id False.elim) fun a z => z.elim) Same.set
    · cases e
  | .tup ts, d, v, σ, E, E', H, Q, g, r, e, q => by
    cases d with
    | tup ds =>
      rw [bindT] at e
      obtain ⟨a, vs, rfl, h1, h2⟩ := r.top.tup
      rw [tgT]
      obtain ⟨hl, hq⟩ := tgts_ok ts ds vs σ E E' H Q g h2 e q
      exact ⟨a, vs, rfl, h1, hl, hq⟩
    | _ => simp [bindT] at e
theorem tgts_ok : ∀ (ts : List Tgt) (ds : List D) (vs : List V) (σ : St) (E E' : SE) (H : Hp) (Q : St → Hp → Prop), Good K P H σ E → RepsB K H (Fz P σ E) vs ds → bindTs ts ds E = some E' →
    (∀ σ', Good K P H σ' E' → Lnk P σ E H P σ' E' H → Same (Tgt.sts ts) σ σ' → Q σ' H) → vs.length = ts.length ∧ tgT.tgTs K ts vs σ H Q
  | [], ds, vs, σ, E, E', H, Q, g, r, e, q => by
    cases ds with
    | nil =>
      rw [bindTs] at e
      cases e
      have : vs = [] := List.eq_nil_of_length_eq_zero r.length
      subst this
      rw [tgT.tgTs]
      exact ⟨rfl, rfl, q σ g Lnk.refl Same.refl⟩
    | cons d ds => simp [bindTs] at e
  | t :: ts, ds, vs, σ, E, E', H, Q, g, r, e, q => by
    cases ds with
    | nil => simp [bindTs] at e
    | cons d ds =>
      cases vs with
      | nil => have := r.length; simp at this
      | cons v vs =>
        rw [bindTs] at e
        cases e1 : bindT t d E with
        | none => rw [e1] at e; cases e
        | some E1 =>
          rw [e1] at e
          have e : bindTs ts ds E1 = some E' := e
          obtain ⟨r1, r2⟩ := r.uncons
          have hlen : vs.length = ts.length := by
            have h1 := r2.length
            have h2 := bindTs_len e
            rw [h1, ← h2]
          refine ⟨by simp [hlen], ?_⟩
          rw [tgT.tgTs]
          refine ⟨v, vs, rfl, tgt_ok t d v σ E E1 H _ g r1 e1 fun σ1 g1 l1 s1 => ?_⟩
          exact (tgts_ok ts ds vs σ1 E1 E' H Q g1 (r2.lnk g l1) e fun σ2 g2 l2 s2 => q σ2 g2 (l1.trans l2)
            ((s1.mono fun i h => by rw [Tgt.sts]; exact List.mem_append_left _ h).trans (s2.mono fun i h => by rw [Tgt.sts]; exact List.mem_append_right _ h))).2
theorem bindTs_len : ∀ {ts : List Tgt} {ds : List D} {E E' : SE}, bindTs ts ds E = some E' → ts.length = ds.length
  | [], [], _, _, _ => rfl
  | t :: ts, [], E, _, h => by simp [bindTs] at h
  | [], d :: ds, E, _, h => by simp [bindTs] at h
  | t :: ts, d :: ds, E, E', h => by
    rw [bindTs] at h
    cases e1 : bindT t d E with
    | none => rw [e1] at h; cases h
    | some E1 =>
      rw [e1] at h
      have h : bindTs ts ds E1 = some E' := h
      simp [bindTs_len h]
end
end
end Lw
end

section
set_option Elab.async false
set_option linter.all false
set_option maxRecDepth 100000
set_option maxHeartbeats 4000000
/-! L11: list comprehensions -/
namespace Lw
open PySem L2
variable [TabInfo]
section
variable {K : PySem.W.Frag} {mg : Str → Option Value} {W : WX} {P P' P1 P2 : Addr → Prop} {H H' H1 H0 H2 : Hp} {σ σ' σ1 : St} {E E' E1 E0 : SE}
theorem wipeE_len (E : SE) : ∀ own, (wipeE E own).length = E.length
  | [] => rfl
  | i :: r => by simp [wipeE, wipeE_len E r]
theorem wipeE_at (E : SE) (j : Nat) : ∀ own : List Nat, (wipeE E own)[j]? = if j ∈ own then (if j < E.length then some .no else none) else E[j]?
  | [] => by simp [wipeE]
  | i :: r => by
    rw [wipeE, getE_set, wipeE_at E j r, wipeE_len]
    by_cases h : i = j
    · subst h; simp
    · have h' : j ≠ i := fun e => h e.symm
      simp [h, h']
theorem backE_len (E0 E : SE) : ∀ own, (backE E0 E own).length = E.length
  | [] => rfl
  | i :: r => by simp [backE, backE_len E0 E r]
theorem backE_at (E0 E : SE) (j : Nat) : ∀ own : List Nat, (backE E0 E own)[j]? = if j ∈ own then (if j < E.length then some (E0.getD j .no) else none) else E[j]?
  | [] => by simp [backE]
  | i :: r => by
    rw [backE, getE_set, backE_at E0 E j r, backE_len]
    by_cases h : i = j
    · subst h; simp
    · have h' : j ≠ i := fun e => h e.symm
      simp [h, h']
theorem wipe_at (σ : St) (j : Nat) : ∀ vs : List Nat, (wipe σ vs)[j]? = if j ∈ vs then (if j < σ.length then some none else none) else σ[j]?
  | [] => by simp [wipe]
  | i :: r => by
    rw [wipe]
    by_cases h : i = j
    · subst h
      by_cases hl : i < σ.length
      · rw [List.getElem?_set_self (by rw [wipe_length]; exact hl)]; simp [hl]
      · rw [List.getElem?_eq_none (by rw [List.length_set, wipe_length]; omega)]; simp [hl]
    · have h' : j ≠ i := fun e => h e.symm
      rw [List.getElem?_set_ne h, wipe_at σ j r]
      simp [h']
theorem wipe_eq {σ σ2 : St} {vs st : List Nat} (s : Same st (wipe σ vs) σ2) (h : ∀ i ∈ st, i ∈ vs) : wipe σ2 vs = wipe σ vs := by
  apply List.ext_getElem?
  intro j
  rw [wipe_at, wipe_at, s.1, wipe_length]
  by_cases hj : j ∈ vs
  · simp [hj]
  · simp only [hj, if_false]
    rw [s.2 j (fun q => hj (h j q)), wipe_at]
    simp [hj]
theorem own_wipe {own : List Nat} {a : Addr} (h : OwnS (wipe σ own) (wipeE E own) a) : OwnS σ E a := by
  obtain ⟨j, d, e1, e2⟩ := h
  rw [wipeE_at] at e1
  rw [wipe_at] at e2
  by_cases hj : j ∈ own
  · simp only [hj, if_true] at e1
    split at e1 <;> cases e1
  · simp only [hj, if_false] at e1 e2
    exact ⟨j, d, e1, e2⟩
theorem Good.wipe (g : Good K P H σ E) (own : List Nat) : Good K P H (wipe σ own) (wipeE E own) where
  len := by rw [wipe_length, wipeE_len]; exact g.len
  dom := g.dom
  val := fun j d e => by
    rw [wipeE_at] at e
    rw [wipe_at]
    by_cases hj : j ∈ own
    · simp only [hj, if_true] at e
      split at e <;> cases e
    · simp only [hj, if_false] at e ⊢
      obtain ⟨v, e1, r⟩ := g.val j d e
      exact ⟨v, e1, r.mono fun a z => ⟨z.1, fun q => z.2 (own_wipe q)⟩⟩
  own := fun j d e => by
    rw [wipeE_at] at e
    rw [wipe_at]
    by_cases hj : j ∈ own
    · simp only [hj, if_true] at e
      split at e <;> cases e
    · simp only [hj, if_false] at e ⊢
      obtain ⟨v, e1, r⟩ := g.own j d e
      exact ⟨v, e1, r.monoD fun a _ _ z => ⟨z.1, fun q => z.2 (own_wipe q)⟩⟩
  dis := fun a q => g.dis a (own_wipe q)
  inj := fun i j d d' a e1 e2 e3 e4 => by
    rw [wipeE_at] at e1 e2
    rw [wipe_at] at e3 e4
    by_cases hi : i ∈ own
    · simp only [hi, if_true] at e1
      split at e1 <;> cases e1
    · by_cases hj : j ∈ own
      · simp only [hj, if_true] at e2
        split at e2 <;> cases e2
      · simp only [hi, hj, if_false] at e1 e2 e3 e4
        exact g.inj i j d d' a e1 e2 e3 e4
  tab := g.tab
theorem Lnk.wipe {own : List Nat} : Lnk P σ E H P (L2.wipe σ own) (wipeE E own) H := ⟨fun _ _ e _ _ => e, fun a h => .inl (own_wipe h), fun _ h => .inl h, fun _ e => e⟩
/-- a protected object is changed -/
theorem kp_updP {a : Addr} {o : HO} {T : Addr → Prop} (ha : ¬ T a) (hm : ∀ u, H a = some u → Mu u) : Kp T H (upd H a o) := fun b u e _ h => by
  by_cases hb : b = a
  · subst hb
    rcases h with h | h
    · exact absurd h ha
    · exact absurd (hm u e) h
  · rw [upd_ne hb]; exact e
theorem Good.updP (g : Good K P H σ E) {a : Addr} {o : HO} (ha : P a) (hm : ∀ u, H a = some u → Mu u) : Good K P (upd H a o) σ E where
  len := g.len
  dom := fun b p => by
    by_cases hb : b = a
    · subst hb; exact ⟨o, upd_same⟩
    · rw [upd_ne hb]; exact g.dom b p
  val := fun j d e => let ⟨v, e1, r⟩ := g.val j d e; ⟨v, e1, r.keep (kp_updP (fun z => z.1 ha) hm)⟩
  own := fun j d e => let ⟨v, e1, r⟩ := g.own j d e; ⟨v, e1, r.keep (kp_updP (fun z => z.elim (fun z => z.1 ha) fun z => g.dis v ⟨j, d, e, e1⟩ (z ▸ ha)) hm)⟩
  dis := g.dis
  inj := g.inj
  tab := tabs_upd g.tab hm
theorem Lnk.updN (l : Lnk P σ E H P' σ' E' H') {a : Addr} {o : HO} (ha : H a = Option.none) : Lnk P σ E H P' σ' E' (upd H' a o) :=
  ⟨fun b u e t n => by rw [upd_ne (ne_of_none e ha)]; exact l.keep b u e t n, l.new, l.pr, fun b e => l.tbs b (none_upd e)⟩
/-- the slots of a comprehension's own are put back -/
theorem Good.back {own : List Nat} (g1 : Good K P1 H1 σ E1) (hno : notOwn E1 own = true) (hp : ∀ a, P1 a → P2 a) (g : Good K P2 H (L2.wipe σ own) E) (l : Lnk P1 (L2.wipe σ own) (wipeE E1 own) H1 P2 (L2.wipe σ own) E H) :
    Good K P2 H σ (backE E1 E own) ∧ ∀ a, OwnS σ (backE E1 E own) a → OwnS (L2.wipe σ own) E a := by
  have hlen : E.length = E1.length := by rw [← g.len, wipe_length, g1.len]
  have at1 : ∀ {j : Nat}, j ∈ own → ∀ {s : Sl}, (backE E1 E own)[j]? = some s → E1[j]? = some s ∧ ∀ d, s ≠ .own d := fun {j} hj {s} e => by
    rw [backE_at] at e
    simp only [hj, if_true] at e
    split at e
    · rename_i hl
      cases e
      have e1 : E1[j]? = some (E1.getD j .no) := by
        rw [List.getD_eq_getElem?_getD, List.getElem?_eq_getElem (by omega)]; rfl
      refine ⟨e1, fun d q => ?_⟩
      have := List.all_eq_true.mp hno j hj
      rw [e1, q] at this
      cases this
    · cases e
  have at2 : ∀ {j : Nat}, j ∉ own → (backE E1 E own)[j]? = E[j]? := fun {j} hj => by rw [backE_at]; simp [hj]
  have sub : ∀ a, OwnS σ (backE E1 E own) a → OwnS (L2.wipe σ own) E a := fun a ⟨j, d, e1, e2⟩ => by
    by_cases hj : j ∈ own
    · exact absurd rfl ((at1 hj e1).2 d)
    · rw [at2 hj] at e1
      exact ⟨j, d, e1, by rw [wipe_at]; simpa [hj] using e2⟩
  have fz : ∀ a, Fz P2 (L2.wipe σ own) E a → Fz P2 σ (backE E1 E own) a := fun a z => ⟨z.1, fun q => z.2 (sub a q)⟩
  refine ⟨⟨by rw [backE_len, ← g.len, wipe_length], g.dom, fun j d e => ?_, fun j d e => ?_, fun a q => g.dis a (sub a q), fun i j d d' a e1 e2 e3 e4 => ?_, g.tab⟩, sub⟩
  · by_cases hj : j ∈ own
    · obtain ⟨v, e1, r⟩ := g1.val j d (at1 hj e).1
      have r' : RepB K H1 (Fz P1 (L2.wipe σ own) (wipeE E1 own)) v d := r.mono fun a z => ⟨z.1, fun q => z.2 (own_wipe q)⟩
      exact ⟨v, e1, (r'.lnk (g1.wipe own) l).mono fz⟩
    · rw [at2 hj] at e
      obtain ⟨v, e1, r⟩ := g.val j d e
      rw [wipe_at] at e1
      simp only [hj, if_false] at e1
      exact ⟨v, e1, r.mono fz⟩
  · by_cases hj : j ∈ own
    · exact absurd rfl ((at1 hj e).2 d)
    · rw [at2 hj] at e
      obtain ⟨v, e1, r⟩ := g.own j d e
      rw [wipe_at] at e1
      simp only [hj, if_false] at e1
      exact ⟨v, e1, r.monoD fun b _ _ z => fz b z⟩
  · by_cases hi : i ∈ own
    · exact absurd rfl ((at1 hi e1).2 d)
    · by_cases hj : j ∈ own
      · exact absurd rfl ((at1 hj e2).2 d')
      · rw [at2 hi] at e1
        rw [at2 hj] at e2
        exact g.inj i j d d' a e1 e2 (by rw [wipe_at]; simpa [hi] using e3) (by rw [wipe_at]; simpa [hj] using e4)
abbrev W0 : WX := fun _ _ _ _ => False
/-- a comprehension -/
theorem lc_sound {fI : M (List D)} {tg : Tgt} {tests : List (M Bool)} {elt : M Sl} {own : List Nat} {tt : TT} (hst : ∀ i ∈ tg.st, i ∈ own) (htt : ∀ σ H Q, TTof K mg W0 (lcI.allT tests) σ H Q → tt σ H Q) :
    ∀ σ H Q, TEof K mg W (M.bind fI fun ds => fun E => if notOwn E own then
      (match lcI (bindT tg) tests elt own ds [] (wipeE E own) with
      | .ok acc E1 => .ok (.own (.lst acc)) (backE E E1 own)
      | _ => .bad) else .bad) σ H Q → tLc (TIof K mg W fI) (tgT K tg) tt (TEof K mg W0 elt) own σ H Q := by
  intro σ H Q ⟨P, E, g, h⟩
  refine ⟨P, E, g, ?_⟩
  rw [mbind] at h
  cases eI : fI E with
  | bad => rw [eI] at h; exact h.elim
  | exc Cn x E1 => rw [eI] at h; exact h
  | ok ds E1 =>
    rw [eI, bind_ok] at h
    split at h
    case isFalse => exact h.elim
    rename_i hno
    intro J H1 P1 hp g1 l1 wk D hD
    split at h
    case h_2 => exact h.elim
    rename_i accF E2 eL
    have PD : ∀ b, P1 b → b ≠ D := fun b p e => by
      obtain ⟨o, q⟩ := g1.dom b p
      rw [e, hD] at q; cases q
    have gw := g1.wipe own
    refine ⟨fun i m Hi => m = ds.length - i ∧ i ≤ ds.length ∧ ∃ Ei accV accD, Good K (fun b => P1 b ∨ b = D) Hi (wipe σ own) Ei ∧ Lnk P1 (wipe σ own) (wipeE E1 own) H1 (fun b => P1 b ∨ b = D) (wipe σ own) Ei Hi ∧
      Hi D = some (.lst accV) ∧ RepsB K Hi (Fz (fun b => P1 b ∨ b = D) (wipe σ own) Ei) accV accD ∧ lcI (bindT tg) tests elt own (ds.drop i) accD Ei = .ok accF E2, ⟨ds.length, by simp, Nat.zero_le _, wipeE E1 own, [], [], ?_, ?_, upd_same, .nil, by simpa using eL⟩, ?_⟩
    · exact gw.fresh hD (ext_upd hD) upd_same
    · exact ⟨fun a o e _ _ => ext_upd hD a o e, fun a h => .inl h, fun a h => h.elim .inl fun z => .inr (.inr (by rw [z]; exact hD)), fun a e => none_upd e⟩
    · rintro i m Hi ⟨rfl, hi, Ei, accV, accD, gi, li, hDi, ri, ei⟩
      have kp : Kp (fun a => P1 a ∨ Fz P1 σ E1 a) H1 Hi := fun a o e t z => gw.kp li a o e t (z.imp (fun z q => z.elim (fun z => g1.dis a (own_wipe q) z) fun z => z.2 (own_wipe q)) id)
      obtain ⟨wstop, wgo⟩ := wk Hi kp
      by_cases hlt : i < ds.length
      · -- a turn
        right
        have ed : ds[i]? = some ds[i] := by simp [hlt]
        obtain ⟨go, yld⟩ := wgo i ds[i] ed
        rw [List.drop_eq_getElem_cons hlt] at ei
        rw [lcI] at ei
        dsimp only at ei
        cases eb : bindT tg ds[i] (wipeE Ei own) with
        | none => rw [eb] at ei; cases ei
        | some Eb =>
        rw [eb] at ei
        obtain ⟨b, Et, eT, ei⟩ := R.bind_ok (f := fun (b : Bool) => fun E2 =>
          if b then (elt E2).bind fun s => fun E3 => if accD.length < sizeLine then lcI (bindT tg) tests elt own (ds.drop (i + 1)) (accD ++ [s.d]) (wipeE E3 own) else .bad
          else lcI (bindT tg) tests elt own (ds.drop (i + 1)) accD (wipeE E2 own)) ei
        refine ⟨go, fun H' => ds.length - (i + 1) = ds.length - (i + 1) ∧ i + 1 ≤ ds.length ∧ ∃ Ei accV accD, Good K (fun b => P1 b ∨ b = D) H' (wipe σ own) Ei ∧ Lnk P1 (wipe σ own) (wipeE E1 own) H1 (fun b => P1 b ∨ b = D) (wipe σ own) Ei H' ∧
          H' D = some (.lst accV) ∧ RepsB K H' (Fz (fun b => P1 b ∨ b = D) (wipe σ own) Ei) accV accD ∧ lcI (bindT tg) tests elt own (ds.drop (i + 1)) accD Ei = .ok accF E2, fun H' q => ⟨ds.length - (i + 1), by omega, q⟩, fun x H3 y => ?_⟩
        obtain ⟨ext3, rx⟩ := yld x H3 y
        have g3 := (gi.ext ext3).wipe own
        have ww : wipe (wipe σ own) own = wipe σ own := wipe_eq (σ := σ) (st := []) Same.refl (fun _ z => nomatch z)
        rw [ww] at g3
        have l3 : Lnk P1 (wipe σ own) (wipeE E1 own) H1 (fun b => P1 b ∨ b = D) (wipe σ own) (wipeE Ei own) H3 := by
          have := (li.trans (Lnk.ext ext3)).trans (Lnk.wipe (own := own))
          rwa [ww] at this
        have rx' : RepB K H3 (Fz (fun b => P1 b ∨ b = D) (wipe σ own) (wipeE Ei own)) x ds[i] := rx.mono fun b ⟨z, o, e⟩ => l3.fz (a := b) e ⟨z.1, fun q => z.2 (own_wipe q)⟩
        refine tgt_ok tg ds[i] x _ _ Eb H3 _ g3 rx' eb fun σ2 g4 l4 s4 => ⟨wipe_eq s4 hst, htt σ2 H3 _ ⟨_, Eb, g4, ?_⟩⟩
        rw [eT]
        intro H5 g5 l5
        have l5' := (l3.trans l4).trans l5
        have ri5 : RepsB K H5 (Fz (fun b => P1 b ∨ b = D) σ2 Et) accV accD := by
          have r3 : RepsB K H3 (Fz (fun b => P1 b ∨ b = D) (wipe σ own) Ei) accV accD := ri.keep (Kp.of ext3)
          have r3' : RepsB K H3 (Fz (fun b => P1 b ∨ b = D) (wipe σ own) (wipeE Ei own)) accV accD := by
            have := r3.mono (T' := Fz (fun b => P1 b ∨ b = D) (wipe (wipe σ own) own) (wipeE Ei own)) fun b z => ⟨z.1, fun q => z.2 (own_wipe q)⟩
            rwa [ww] at this
          exact (r3'.lnk g3 l4).lnk g4 l5
        have hD5 : H5 D = some (.lst accV) := by
          have h3 := ext3 D _ hDi
          have h4 := l4.keep D _ h3 (fun _ z => nomatch z) fun q => g3.dis D q (.inr rfl)
          exact l5.keep D _ h4 (fun _ z => nomatch z) fun q => g4.dis D q (.inr rfl)
        have mD : ∀ {Hz : Hp} {u}, Hz D = some (.lst accV) → Hz D = some u → Mu u := fun {Hz u} e e' => by rw [e] at e'; cases e'; trivial
        cases b with
        | false =>
          simp only [Bool.false_eq_true, if_false] at ei ⊢
          refine ⟨trivial, hlt, wipeE Et own, accV, accD, ?_, ?_, hD5, ?_, ei⟩
          · have := g5.wipe own
            rwa [wipe_eq s4 hst] at this
          · have := l5'.trans (Lnk.wipe (own := own))
            rwa [wipe_eq s4 hst] at this
          · have := ri5.mono (T' := Fz (fun b => P1 b ∨ b = D) (wipe σ2 own) (wipeE Et own)) fun b z => ⟨z.1, fun q => z.2 (own_wipe q)⟩
            rwa [wipe_eq s4 hst] at this
        | true =>
          simp only [if_true] at ei ⊢
          obtain ⟨s, Es, eS, ei⟩ := R.bind_ok (f := fun (s : Sl) => fun E3 => if accD.length < sizeLine then lcI (bindT tg) tests elt own (ds.drop (i + 1)) (accD ++ [s.d]) (wipeE E3 own) else .bad) ei
          split at ei
          case isFalse => cases ei
          rename_i hsz
          refine ⟨_, Et, g5, ?_⟩
          rw [eS]
          intro v H6 g6 l6 r6 n6
          have g6' : Good K (fun b => P1 b ∨ b = D) H6 σ2 Es := g6.less fun a z => .inl z
          have l6' : Lnk (fun b => P1 b ∨ b = D) σ2 Et H5 (fun b => P1 b ∨ b = D) σ2 Es H6 := l6.less fun a z => .inl z
          have hD6 : H6 D = some (.lst accV) := l6.keep D _ hD5 (fun _ z => nomatch z) fun q => g5.dis D q (.inr rfl)
          have kD : ∀ {vs : List V} {xs : List Lw.D}, RepsB K H6 (Fz (fun b => P1 b ∨ b = D) σ2 Es) vs xs → ∀ o, RepsB K (upd H6 D o) (Fz (fun b => P1 b ∨ b = D) σ2 Es) vs xs := fun r o => r.keep (kp_updP (fun z => z.1 (.inr rfl)) fun u e => mD hD6 e)
          refine ⟨accV, hD6, by rw [ri.length]; exact hsz, trivial, hlt, wipeE Es own, accV ++ [v], accD ++ [s.d], ?_, ?_, upd_same, ?_, ei⟩
          · have := (g6'.updP (a := D) (o := .lst (accV ++ [v])) (.inr rfl) fun u e => mD hD6 e).wipe own
            rwa [wipe_eq s4 hst] at this
          · have := ((l5'.trans l6').updN (o := .lst (accV ++ [v])) hD).trans (Lnk.wipe (own := own))
            rwa [wipe_eq s4 hst] at this
          · have r7 := ((ri5.lnk g5 l6').append (.cons (r6.frz0 g6 n6) .nil) : RepsB K H6 (Fz (fun b => P1 b ∨ b = D) σ2 Es) (accV ++ [v]) (accD ++ [s.d]))
            have := (kD r7 (.lst (accV ++ [v]))).mono (T' := Fz (fun b => P1 b ∨ b = D) (wipe σ2 own) (wipeE Es own)) fun b z => ⟨z.1, fun q => z.2 (own_wipe q)⟩
            rwa [wipe_eq s4 hst] at this
      · -- the end
        left
        have en : i = ds.length := by omega
        subst en
        refine ⟨wstop _ (Nat.le_refl _), ?_⟩
        rw [List.drop_length] at ei
        have ei : R.ok accD Ei = R.ok accF E2 := ei
        cases ei
        obtain ⟨gb, sub⟩ := g1.back hno (fun a z => .inl z) gi li
        have hh : ∀ b, HeldBy (.ref D) (.own (.lst accF)) b → b = D := fun b z => by
          have z' : V.ref D = .ref b := z
          cases z'; rfl
        have less : ∀ b, Pl P (.ref D) (.own (.lst accF)) b → (P1 b ∨ b = D) := fun b z => z.imp (hp b) (hh b)
        refine h (.ref D) Hi (gb.less less) ?_ ⟨D, rfl, ?_⟩ fun b z p => ?_
        · refine ((l1.trans (Lnk.wipe (own := own))).trans (li.trans ⟨fun a o e _ _ => e, fun a q => .inl (sub a q), fun a q => .inl q, fun _ e => e⟩)).less less
        · exact OwnB.lst hDi (ri.mono fun b z => ⟨fun q => z.1 (less b q), fun q => z.2 (sub b q)⟩)
        · exact PD b (hp b p) (hh b z)
end
end Lw
end

section
set_option Elab.async false
set_option linter.all false
set_option maxRecDepth 100000
set_option maxHeartbeats 4000000
/-! L12: statements -/
namespace Lw
open PySem L2
variable [TabInfo]
section
variable (K : PySem.W.Frag) (mg : Str → Option Value) (W : WX) (st : List Nat)
/-- what is wanted of a statement's end; the slots outside st keep their values -/
def PostS (P : Addr → Prop) (σ : L2.St) (E : SE) (H : Hp) (D : Ends) : SR → Prop
  | .nx E' => ∀ σ' H', Good K P H' σ' E' → Lnk P σ E H P σ' E' H' → Same st σ σ' → D.nx σ' H'
  | .bk E' => ∀ σ' H', Good K P H' σ' E' → Lnk P σ E H P σ' E' H' → Same st σ σ' → D.bk σ' H'
  | .ct E' => ∀ σ' H', Good K P H' σ' E' → Lnk P σ E H P σ' E' H' → Same st σ σ' → D.ct σ' H'
  | .rt s E' => ∀ v σ' H', Good K (Pl P v s) H' σ' E' → Lnk P σ E H (Pl P v s) σ' E' H' → Same st σ σ' → ResR K (Pl P v s) σ' E' H' v s → (∀ a, HeldBy v s a → ¬ P a) → D.rt v H'
  | .exc C x E' => ∀ σ' H' cls d, Good K P H' σ' E' → Lnk P σ E H P σ' E' H' → Same st σ σ' → ExcR K mg (Fz P σ' E') H' C x cls d → W cls d σ' H'
  | .bad => False
def TSof (f : SE → SR) : TS := fun D σ H => ∃ P E, Good K P H σ E ∧ PostS K mg W st P σ E H D (f E)
end
section
variable {K : PySem.W.Frag} {mg : Str → Option Value} {W : WX} {st : List Nat} {P P' P1 P2 : Addr → Prop} {H H' H1 H0 H2 : Hp} {σ σ' σ1 : L2.St} {E E' E1 E0 : SE} {D : Ends}
/-- a later start -/
theorem PostS.step {r : SR} (h : PostS K mg W st P σ E H D r) (l : Lnk P σ E H P1 σ1 E1 H1) (s : Same st σ σ1) (hp : ∀ a, P a → P1 a) : PostS K mg W st P1 σ1 E1 H1 D r := by
  cases r with
  | nx E' => exact fun σ' H' g l' s' => h σ' H' (g.less hp) ((l.trans l').less hp) (s.trans s')
  | bk E' => exact fun σ' H' g l' s' => h σ' H' (g.less hp) ((l.trans l').less hp) (s.trans s')
  | ct E' => exact fun σ' H' g l' s' => h σ' H' (g.less hp) ((l.trans l').less hp) (s.trans s')
  | rt v E' =>
    have hq : ∀ {w} a, Pl P w v a → Pl P1 w v a := fun a z => z.imp (hp a) id
    refine fun w σ' H' g l' s' r n => h w σ' H' (g.less hq) ((l.trans l').less hq) (s.trans s') ?_ fun a z q => n a z (hp a q)
    cases v with
    | no => exact r
    | val d => exact RepB.mono r fun a z => ⟨fun q => z.1 (hq a q), z.2⟩
    | own d =>
      obtain ⟨a, e, r⟩ := r
      exact ⟨a, e, r.monoD fun b _ _ z => ⟨fun q => z.1 (hq b q), z.2⟩⟩
  | exc C x E' => exact fun σ' H' cls d g l' s' x => h σ' H' cls d (g.less hp) ((l.trans l').less hp) (s.trans s') (x.less fun a z => ⟨fun q => z.1 (hp a q), z.2⟩)
  | bad => exact h
theorem PostS.step0 {r : SR} (h : PostS K mg W st P σ E H D r) (l : Lnk P σ E H P σ1 E1 H1) (s : Same st σ σ1) : PostS K mg W st P σ1 E1 H1 D r := h.step l s fun _ z => z
/-! ### blocks -/
theorem ss_nil {σ : L2.St} {H : Hp} (h : TSof K mg W st .nx D σ H) : tNext D σ H := by
  obtain ⟨P, E, g, h⟩ := h
  exact h σ H g Lnk.refl Same.refl
theorem ss_seq {f g : SE → SR} (h : TSof K mg W st (fun E => (f E).then g) D σ H) : tSeq (TSof K mg W st f) (TSof K mg W st g) D σ H := by
  obtain ⟨P, E, gd, h⟩ := h
  dsimp only at h
  refine ⟨P, E, gd, ?_⟩
  cases e : f E with
  | nx E1 =>
    rw [e] at h
    exact fun σ1 H1 g1 l1 s1 => ⟨P, E1, g1, PostS.step0 h l1 s1⟩
  | _ => rw [e] at h; exact h
theorem ss_bk {σ : L2.St} {H : Hp} (h : TSof K mg W st .bk D σ H) : tBreak D σ H := let ⟨_, _, g, h⟩ := h; h σ H g Lnk.refl Same.refl
theorem ss_ct {σ : L2.St} {H : Hp} (h : TSof K mg W st .ct D σ H) : tCont D σ H := let ⟨_, _, g, h⟩ := h; h σ H g Lnk.refl Same.refl
theorem ss_retN {σ : L2.St} {H : Hp} (h : TSof K mg W st (fun E => .rt (.val .non) E) D σ H) : tRetN D σ H := by
  obtain ⟨P, E, g, h⟩ := h
  exact h .non σ H (g.less fun a z => z.elim id False.elim) (Lnk.refl.less fun a z => z.elim id False.elim) Same.refl RepB.non fun a z => z.elim
theorem ss_bad {t : TS} (h : TSof K mg W st (fun _ => .bad) D σ H) : t D σ H := let ⟨_, _, _, h⟩ := h; h.elim
/-- the parts of a statement that end in an expression's value -/
theorem of_post {α : Type} {r : R α} {k : α → SE → SR} {C : Str} {x : Lw.D} {E1 : SE} (e : r = .exc C x E1) (h : PostS K mg W st P σ E H D (.of r k)) :
    ∀ H' cls d, Good K P H' σ E1 → Lnk P σ E H P σ E1 H' → ExcR K mg (Fz P σ E1) H' C x cls d → W cls d σ H' := by
  subst e
  exact fun H' cls d g l x => h σ H' cls d g l Same.refl x
theorem ss_drop {f : M Sl} (h : TSof K mg W st (fun E => .of (f E) fun _ => .nx) D σ H) : tDrop (TEof K mg W f) D σ H := by
  obtain ⟨P, E, g, h⟩ := h
  dsimp only at h
  refine ⟨P, E, g, ?_⟩
  cases e : f E with
  | bad => rw [e] at h; exact h
  | exc C x E1 => exact of_post e h
  | ok s E1 =>
    rw [e] at h
    exact fun v H1 g1 l1 r1 n1 => h σ H1 (g1.less fun a z => .inl z) (l1.less fun a z => .inl z) Same.refl
theorem ss_ret {f : M Sl} (h : TSof K mg W st (fun E => .of (f E) .rt) D σ H) : tRet (TEof K mg W f) D σ H := by
  obtain ⟨P, E, g, h⟩ := h
  dsimp only at h
  refine ⟨P, E, g, ?_⟩
  cases e : f E with
  | bad => rw [e] at h; exact h
  | exc C x E1 => exact of_post e h
  | ok s E1 =>
    rw [e] at h
    exact fun v H1 g1 l1 r1 n1 => h v σ H1 g1 l1 Same.refl r1 n1
theorem ss_if {c : M Bool} {f g : SE → SR} (h : TSof K mg W st (fun E => .of (c E) fun k => if k then f else g) D σ H) : tIfS (TTof K mg W c) (TSof K mg W st f) (TSof K mg W st g) D σ H := by
  obtain ⟨P, E, gd, h⟩ := h
  dsimp only at h
  refine ⟨P, E, gd, ?_⟩
  cases e : c E with
  | bad => rw [e] at h; exact h
  | exc C x E1 => exact of_post e h
  | ok k E1 =>
    rw [e] at h
    intro H1 g1 l1
    cases k with
    | true => exact ⟨P, E1, g1, PostS.step0 h l1 Same.refl⟩
    | false => exact ⟨P, E1, g1, PostS.step0 h l1 Same.refl⟩
theorem putS_eq {i : Nat} {s : Sl} {E : SE} (h : s ≠ .no) : putS i s E = if i < E.length then .nx (E.set i s) else .bad := by
  cases s with
  | no => exact absurd rfl h
  | val d => rfl
  | own d => rfl
theorem Lnk.put2 {v : V} {s : Sl} {i : Nat} (l : Lnk P1 σ1 E1 H1 (Pl P v s) σ E H) (hn : ∀ a, HeldBy v s a → ¬ P1 a) : Lnk P1 σ1 E1 H1 P (σ.set i (some v)) (E.set i s) H :=
  ⟨l.keep, fun a z => (own_set z).elim (l.new a) fun z => (l.pr a (.inr z)).elim (fun p => absurd p (hn a z)) id, fun a z => l.pr a (.inl z), l.tbs⟩
/-- what a slot takes -/
theorem put_ok {i : Nat} {s : Sl} {v : V} (hi : i ∈ st) (g1 : Good K (Pl P v s) H1 σ E1) (l1 : Lnk P σ E H (Pl P v s) σ E1 H1) (r1 : ResR K (Pl P v s) σ E1 H1 v s) (n1 : ∀ a, HeldBy v s a → ¬ P a) (h : PostS K mg W st P σ E H D (putS i s E1)) : D.nx (σ.set i (some v)) H1 := by
  have key : s ≠ .no → i < E1.length → PostS K mg W st P σ E H D (.nx (E1.set i s)) → D.nx (σ.set i (some v)) H1 := fun _ hl h =>
    h _ H1 (g1.put r1 n1 hl) (l1.put n1) (Same.set.mono fun j hj => by simp at hj; rw [hj]; exact hi)
  have hs : s ≠ .no := fun e => by subst e; exact r1
  rw [putS_eq hs] at h
  by_cases hl : i < E1.length
  · rw [if_pos hl] at h; exact key hs hl h
  · rw [if_neg hl] at h; exact h.elim
theorem ss_set {i : Nat} {f : M Sl} (hi : i ∈ st) (h : TSof K mg W st (fun E => .of (f E) fun s => putS i s) D σ H) : tAsg (TEof K mg W f) (gName i) D σ H := by
  obtain ⟨P, E, g, h⟩ := h
  dsimp only at h
  refine ⟨P, E, g, ?_⟩
  cases e : f E with
  | bad => rw [e] at h; exact h
  | exc C x E1 => exact of_post e h
  | ok s E1 =>
    rw [e] at h
    exact fun v H1 g1 l1 r1 n1 => put_ok hi g1 l1 r1 n1 h
theorem ss_setT {ts : List Tgt} {f : M Sl} (hi : ∀ i ∈ Tgt.sts ts, i ∈ st) (h : TSof K mg W st (fun E => .of (f E) fun s E1 => match s with
    | .val (.tup ds) => (match bindT (.tup ts) (.tup ds) E1 with
      | some E2 => .nx E2
      | none => .bad)
    | _ => .bad) D σ H) : tAsg (TEof K mg W f) (tgT K (.tup ts)) D σ H := by
  obtain ⟨P, E, g, h⟩ := h
  dsimp only at h
  refine ⟨P, E, g, ?_⟩
  cases e : f E with
  | bad => rw [e] at h; exact h
  | exc C x E1 => exact of_post e h
  | ok s E1 =>
    rw [e] at h
    intro v H1 g1 l1 r1 n1
    dsimp only [SR.of] at h
    split at h
    · rename_i ds
      split at h
      · rename_i E2 eb
        have g1' : Good K P H1 σ E1 := g1.less fun a z => .inl z
        have l1' : Lnk P σ E H P σ E1 H1 := l1.less fun a z => .inl z
        refine tgt_ok (.tup ts) (.tup ds) v σ E1 E2 H1 _ g1' (RepB.mono r1 fun a z => ⟨fun q => z.1 (.inl q), z.2⟩) eb fun σ2 g2 l2 s2 => ?_
        exact h σ2 H1 g2 (l1'.trans l2) (s2.mono fun j hj => hi j (by rwa [Tgt.st] at hj))
      · exact h.elim
    · exact h.elim
/-- .. several at once -/
def setAll : L2.St → List Nat → List V → L2.St
  | σ, i :: is, v :: vs => setAll (σ.set i (some v)) is vs
  | σ, _, _ => σ
theorem ResR.lnk2 {s : Sl} {v : V} (r : ResR K P σ E H v s) (g : Good K P H σ E) (l : Lnk P σ E H P' σ' E' H') (hn : ∀ a, HeldBy v s a → P a) : ResR K P' σ' E' H' v s := by
  cases s with
  | no => exact r
  | val d => exact RepB.lnk r g l
  | own d =>
    obtain ⟨a, rfl, r⟩ := r
    exact ⟨a, rfl, r.lnk g l fun q => g.dis a q (hn a rfl)⟩
theorem ResR.mono2 {s : Sl} {v : V} (r : ResR K P σ E H v s) (m : ∀ a, Fz P σ E a → Fz P' σ' E' a) : ResR K P' σ' E' H v s := by
  cases s with
  | no => exact r
  | val d => exact RepB.mono r m
  | own d =>
    obtain ⟨a, rfl, r⟩ := r
    exact ⟨a, rfl, r.monoD fun b _ _ z => m b z⟩
theorem putAll_ok : ∀ (is : List Nat) (ss : List Sl) (vs : List V) (σ1 : L2.St) (E1 : SE) (P1 : Addr → Prop), (∀ i ∈ is, i ∈ st) → (∀ a, P a → P1 a) → Good K P1 H1 σ1 E1 → Lnk P σ E H P1 σ1 E1 H1 → Same st σ σ1 → ArgsR K P P1 σ1 E1 H1 vs ss →
    PostS K mg W st P σ E H D (putAll is ss E1) → is.length = vs.length ∧ D.nx (setAll σ1 is vs) H1
  | [], [], vs, σ1, E1, P1, hi, hp, g1, l1, s1, ar, h => by
    have : vs = [] := List.eq_nil_of_length_eq_zero ar.len
    subst this
    exact ⟨rfl, h σ1 H1 (g1.less hp) (l1.less hp) s1⟩
  | i :: is, s :: ss, [], σ1, E1, P1, hi, hp, g1, l1, s1, ar, h => by have := ar.len; simp at this
  | i :: is, s :: ss, v :: vs, σ1, E1, P1, hi, hp, g1, l1, s1, ar, h => by
    have r0 := ar.res 0 v s rfl rfl
    have hh : ∀ a, HeldBy v s a → P1 a ∧ ¬ P a := fun a z => by
      cases s with
      | own d => exact ar.held 0 d a rfl (by rw [show v = .ref a from z]; rfl)
      | _ => exact z.elim
    have key : s ≠ .no → i < E1.length → PostS K mg W st P σ E H D (putAll is ss (E1.set i s)) → (i :: is).length = (v :: vs).length ∧ D.nx (setAll σ1 (i :: is) (v :: vs)) H1 := fun _ hl h => by
      have lp : ∀ a, Pl (fun a => P1 a ∧ ¬ HeldBy v s a) v s a → P1 a := fun a z => z.elim (·.1) fun z => (hh a z).1
      have g2 : Good K (Pl (fun a => P1 a ∧ ¬ HeldBy v s a) v s) H1 σ1 E1 := g1.less lp
      have r2 : ResR K (Pl (fun a => P1 a ∧ ¬ HeldBy v s a) v s) σ1 E1 H1 v s := r0.lnk2 g1 (Lnk.refl.less lp) fun a z => (hh a z).1
      have hn : ∀ a, HeldBy v s a → ¬ (P1 a ∧ ¬ HeldBy v s a) := fun a z q => q.2 z
      have g3 := g2.put r2 hn hl
      have l3 : Lnk P σ E H (fun a => P1 a ∧ ¬ HeldBy v s a) (σ1.set i (some v)) (E1.set i s) H1 := (l1.less lp).put2 fun a z => (hh a z).2
      have hi' : i ∈ st := hi i (by simp)
      have tl : ∀ (j : Nat) (d : Lw.D) (a : Addr), ss[j]? = some (.own d) → vs[j]? = some (.ref a) → P1 a ∧ ¬ P a ∧ ¬ HeldBy v s a := fun j d a e1 e2 => by
        have q := ar.held (j + 1) d a e1 e2
        refine ⟨q.1, q.2, fun z => ?_⟩
        cases s with
        | own d' =>
          have := ar.inj 0 (j + 1) d' d a rfl e1 (by rw [show v = .ref a from z]; rfl) e2
          cases this
        | _ => exact z.elim
      have := putAll_ok is ss vs (σ1.set i (some v)) (E1.set i s) (fun a => P1 a ∧ ¬ HeldBy v s a) (fun j hj => hi j (List.mem_cons_of_mem _ hj)) (fun a p => ⟨hp a p, fun z => (hh a z).2 p⟩) g3 l3 (s1.trans (Same.set.mono fun j hj => by simp at hj; rw [hj]; exact hi'))
        ⟨by have := ar.len; simpa using this, fun j w t e1 e2 => (ar.res (j + 1) w t e1 e2).mono2 fun a z => ⟨fun q => z.1 q.1, fun q => (own_set q).elim z.2 fun y => z.1 (hh a y).1⟩, fun j d a e1 e2 => let ⟨q1, q2, q3⟩ := tl j d a e1 e2; ⟨⟨q1, q3⟩, q2⟩, fun j k d d' a e1 e2 e3 e4 => by have := ar.inj (j + 1) (k + 1) d d' a e1 e2 e3 e4; omega⟩ h
      exact ⟨by simp [this.1], this.2⟩
    have hs : s ≠ .no := fun e => by subst e; exact r0
    rw [putAll, putS_eq hs] at h
    by_cases hl : i < E1.length
    · rw [if_pos hl] at h; exact key hs hl h
    · rw [if_neg hl] at h; exact h.elim
  | [], s :: ss, vs, σ1, E1, P1, hi, hp, g1, l1, s1, ar, h => by simp [putAll] at h; exact h.elim
  | i :: is, [], vs, σ1, E1, P1, hi, hp, g1, l1, s1, ar, h => by simp [putAll] at h; exact h.elim
def tParN (is : List Nat) (ta : TA) : TS := fun D σ H => ta σ H fun vs H1 => is.length = vs.length ∧ D.nx (setAll σ is vs) H1
theorem ss_par {is : List Nat} {as : List Arg} (hi : ∀ i ∈ is, i ∈ st) (h : TSof K mg W st (fun E => .of (evC as E) fun ss => putAll is ss) D σ H) : tParN is (tArgs K mg W as) D σ H := by
  obtain ⟨P, E, g, h⟩ := h
  dsimp only at h
  refine argsC as σ H _ P E g ?_
  cases e : evC as E with
  | bad => rw [e] at h; exact h
  | exc C x E1 => exact of_post e h
  | ok ss E1 =>
    rw [e] at h
    exact fun vs H1 P1 hp g1 l1 ar sa => putAll_ok is ss vs σ E1 P1 hi hp g1 l1 Same.refl ar h
theorem tPar_of {i j : Nat} {ta : TA} (hm : ∀ σ H Q Q', (∀ vs H1, Q vs H1 → Q' vs H1) → ta σ H Q → ta σ H Q') (h : tParN [i, j] ta D σ H) : tPar i j ta D σ H :=
  hm σ H _ _ (fun vs H1 ⟨hl, q⟩ => by
    match vs, hl, q with
    | [v, w], _, q => exact ⟨v, w, rfl, q⟩) h
end
end Lw
end

section
set_option Elab.async false
set_option linter.all false
set_option maxRecDepth 100000
set_option maxHeartbeats 4000000
/-! L13: statements that change objects; loops -/
namespace Lw
open PySem L2
variable [TabInfo]
section
variable {K : PySem.W.Frag} {mg : Str → Option Value} {W : WX} {st : List Nat} {P P' P1 P2 : Addr → Prop} {H H' H1 H0 H2 : Hp} {σ σ' σ1 : L2.St} {E E' E1 E0 : SE} {D : Ends}
/-- a held object is changed in place -/
theorem kp_fz {a : Addr} {o : HO} {d : Lw.D} {i : Nat} (e1 : E[i]? = some (.own d)) (e2 : σ[i]? = some (some (.ref a))) (hm : ∀ u, H a = some u → Mu u) : Kp (Fz P σ E) H (upd H a o) := kp_updP (fun z => z.2 ⟨i, d, e1, e2⟩) hm
theorem Good.upd (g : Good K P H σ E) {a : Addr} {o : HO} {d d' : Lw.D} {i : Nat} (e1 : E[i]? = some (.own d)) (e2 : σ[i]? = some (some (.ref a))) (hm : ∀ u, H a = some u → Mu u) (r : OwnB K (upd H a o) (Fz P σ E) a d') :
    Good K P (upd H a o) σ (E.set i (.own d')) ∧ ∀ b, OwnS σ (E.set i (.own d')) b → OwnS σ E b := by
  have hi : i < E.length := by
    rcases Nat.lt_or_ge i E.length with h | h
    · exact h
    · rw [List.getElem?_eq_none h] at e1; cases e1
  have gE : ∀ (j : Nat), (E.set i (.own d'))[j]? = if i = j then some (.own d') else E[j]? := fun j => by
    rw [getE_set]
    by_cases h : i = j
    · subst h; rw [if_pos rfl, if_pos rfl, if_pos hi]
    · rw [if_neg h, if_neg h]
  have sub : ∀ b, OwnS σ (E.set i (.own d')) b → OwnS σ E b := fun b ⟨j, x, q1, q2⟩ => by
    rw [gE] at q1
    by_cases h : i = j
    · subst h
      exact ⟨i, d, e1, q2⟩
    · rw [if_neg h] at q1; exact ⟨j, x, q1, q2⟩
  have fz : ∀ b, Fz P σ E b → Fz P σ (E.set i (.own d')) b := fun b z => ⟨z.1, fun q => z.2 (sub b q)⟩
  have k := kp_fz (P := P) (o := o) e1 e2 hm
  refine ⟨⟨by rw [List.length_set]; exact g.len, fun b p => ?_, fun j x e => ?_, fun j x e => ?_, fun b q => g.dis b (sub b q), fun j l x x' b q1 q2 q3 q4 => ?_, tabs_upd g.tab hm⟩, sub⟩
  · by_cases hb : b = a
    · subst hb; exact ⟨o, upd_same⟩
    · rw [upd_ne hb]; exact g.dom b p
  · rw [gE] at e
    by_cases h : i = j
    · rw [if_pos h] at e; cases e
    · rw [if_neg h] at e
      obtain ⟨v, q, r⟩ := g.val j x e
      exact ⟨v, q, (r.keep k).mono fz⟩
  · rw [gE] at e
    by_cases h : i = j
    · subst h
      rw [if_pos rfl] at e
      cases e
      exact ⟨a, e2, r.monoD fun b _ _ z => fz b z⟩
    · rw [if_neg h] at e
      obtain ⟨b, q, r'⟩ := g.own j x e
      have hba : b ≠ a := fun z => h (g.inj i j d x a e1 e e2 (by rw [q, z]))
      refine ⟨b, q, (r'.keep fun c u ec tc hc => ?_).monoD fun b _ _ z => fz b z⟩
      rcases hc with (hc | hc) | hc
      · exact k c u ec tc (.inl hc)
      · rw [hc] at ec ⊢; rw [upd_ne hba]; exact ec
      · exact k c u ec tc (.inr hc)
  · rw [gE] at q1 q2
    by_cases h : i = j
    · by_cases h' : i = l
      · omega
      · rw [if_neg h'] at q2
        subst h
        exact g.inj i l d x' b e1 q2 q3 q4
    · rw [if_neg h] at q1
      by_cases h' : i = l
      · subst h'
        exact g.inj j i x d b q1 e1 q3 q4
      · rw [if_neg h'] at q2
        exact g.inj j l x x' b q1 q2 q3 q4
theorem Lnk.upd (l : Lnk P σ E H P1 σ1 E1 H1) {a : Addr} {o : HO} {E2 : SE} (ha : OwnS σ1 E1 a) (sub : ∀ b, OwnS σ1 E2 b → OwnS σ1 E1 b) : Lnk P σ E H P1 σ1 E2 (upd H1 a o) :=
  ⟨fun b u e t n => by
    have hb : b ≠ a := fun z => by
      subst z
      rcases l.new b ha with q | q
      · exact n q
      · rw [e] at q; cases q
    rw [upd_ne hb]; exact l.keep b u e t n, fun b q => l.new b (sub b q), l.pr, fun b e => l.tbs b (none_upd e)⟩
theorem own_at {i : Nat} {d : Lw.D} (g : Good K P H σ E) (e : E[i]? = some (.own d)) : ∃ a, σ[i]? = some (some (.ref a)) ∧ OwnB K H (Fz P σ E) a d ∧ (∀ u, H a = some u → Mu u) := by
  obtain ⟨a, e2, r⟩ := g.own i d e
  refine ⟨a, e2, r, fun u eu => ?_⟩
  obtain ⟨u', eu', m⟩ := g.ownD ⟨i, d, e, e2⟩
  rw [eu] at eu'; cases eu'; exact m
theorem OwnB.lst_inv {a : Addr} {ds : List Lw.D} {T : Addr → Prop} (h : OwnB K H T a (.lst ds)) : ∃ vs, H a = some (.lst vs) ∧ RepsB K H T vs ds := by
  obtain ⟨S, h, hS⟩ := h
  cases h with
  | lst h1 h2 => exact ⟨_, h1, _, h2, hS⟩
theorem RepB.lst_inv {v : V} {ds : List Lw.D} {T : Addr → Prop} (h : RepB K H T v (.lst ds)) : ∃ b vs, v = .ref b ∧ H b = some (.lst vs) ∧ RepsB K H T vs ds ∧ T b := by
  obtain ⟨S, h, hS⟩ := h
  cases h with
  | lst h1 h2 => exact ⟨_, _, rfl, h1, ⟨_, h2, fun a ha => hS a (List.mem_cons_of_mem _ ha)⟩, hS _ List.mem_cons_self⟩
/-- l.append(x) and the like on a slot's list -/
def tMut (i : Nat) (r : V → List V → Hp → VK → Prop) (te : TE) : TE := tBM K "list" r (tVar i) (tCons te tNil)
theorem updS_of {i : Nat} {f : Lw.D → Option Lw.D} (h : PostS K mg W st P σ E H D (updS i f E1)) : ∃ d d', E1[i]? = some (.own d) ∧ f d = some d' ∧ PostS K mg W st P σ E H D (.nx (E1.set i (.own d'))) := by
  unfold updS at h
  split at h
  · rename_i d e
    split at h
    · rename_i d' e'
      exact ⟨d, d', e, e', h⟩
    · exact h.elim
  · exact h.elim
theorem isOwnL_at {i : Nat} (h : isOwnL E i = true) : ∃ ds, E[i]? = some (.own (.lst ds)) := by
  unfold isOwnL at h
  split at h
  · exact ⟨_, by assumption⟩
  · cases h
/-- a statement that changes a slot's list by a value -/
theorem ss_mut {i : Nat} {f : M Sl} {u : Sl → Lw.D → Option Lw.D} {r : V → List V → Hp → VK → Prop}
    (hu : ∀ (H : Hp) (σ : L2.St) (E : SE) (a : Addr) (vs : List V) (v : V) (s : Sl) (ds : List Lw.D) (d' : Lw.D), Good K P H σ E → E[i]? = some (.own (.lst ds)) → σ[i]? = some (some (.ref a)) → H a = some (.lst vs) → RepsB K H (Fz P σ E) vs ds → RepB K H (Fz P σ E) v s.d → u s (.lst ds) = some d' →
      ∃ ws es, d' = .lst es ∧ RepsB K H (Fz P σ E) ws es ∧ ∀ Q : VK, Q .non (upd H a (.lst ws)) → r (.ref a) [v] H Q)
    (hl : ∀ s d d', u s d = some d' → ∃ ds, d = .lst ds)
    (h : ∃ E, Good K P H σ E ∧ PostS K mg W st P σ E H D (if isOwnL E i then .of (f E) fun s => updS i (u s) else .bad)) : tDrop (tMut (K := K) i r (TEof K mg W f)) D σ H := by
  obtain ⟨E, g, h⟩ := h
  by_cases hi : isOwnL E i = true
  · rw [if_pos hi] at h
    obtain ⟨ds0, e0⟩ := isOwnL_at hi
    obtain ⟨a, e2, r0, _⟩ := own_at g e0
    obtain ⟨vs0, ha0, _⟩ := r0.lst_inv
    refine ⟨.ref a, e2, .inl ⟨rfl, vs0, .inl (.inl ha0)⟩, ?_⟩
    show TEof K mg W f σ H _
    refine ⟨P, E, g, ?_⟩
    cases e : f E with
    | bad => rw [e] at h; exact h
    | exc C x E1 => exact of_post e h
    | ok s E1 =>
      rw [e] at h
      intro v H1 g1 l1 r1 n1
      obtain ⟨d, d', e1, ed, h⟩ := updS_of h
      obtain ⟨ds, rfl⟩ := hl s d d' ed
      have g1' : Good K P H1 σ E1 := g1.less fun a z => .inl z
      have l1' : Lnk P σ E H P σ E1 H1 := l1.less fun a z => .inl z
      obtain ⟨b, e3, r3, hm⟩ := own_at g1' e1
      rw [e2] at e3; cases e3
      obtain ⟨vs, ha, rv⟩ := r3.lst_inv
      obtain ⟨ws, es, rfl, rw', q⟩ := hu H1 σ E1 a vs v s ds d' g1' e1 e2 ha rv (r1.frz0 g1 n1) ed
      refine q _ ?_
      obtain ⟨g2, sub⟩ := g1'.upd (o := .lst ws) (d' := .lst es) e1 e2 hm (OwnB.lst upd_same (rw'.keep (kp_fz e1 e2 hm)))
      exact h σ _ g2 (l1'.upd ⟨i, _, e1, e2⟩ sub) Same.refl
  · rw [if_neg hi] at h; exact h.elim
theorem ss_app {i : Nat} {f : M Sl} (h : TSof K mg W st (fun E => if isOwnL E i then .of (f E) fun s => updS i (appD s) else .bad) D σ H) : tDrop (tMut (K := K) i rAppend (TEof K mg W f)) D σ H := by
  obtain ⟨P, E, g, h⟩ := h
  refine ss_mut (P := P) (u := appD) (fun H σ E a vs v s ds d' g e1 e2 ha rv r1 ed => ?_) (fun s d d' ed => ?_) ⟨E, g, h⟩
  · simp only [appD] at ed
    split at ed
    · rename_i hz
      cases ed
      exact ⟨vs ++ [v], _, rfl, rv.append (.cons r1 .nil), fun Q q => ⟨a, vs, v, rfl, rfl, ha, by rw [rv.length]; exact hz, q⟩⟩
    · cases ed
  · cases d with
    | lst ds => exact ⟨ds, rfl⟩
    | _ => cases ed
theorem ss_ext {i : Nat} {f : M Sl} (h : TSof K mg W st (fun E => if isOwnL E i then .of (f E) fun s => updS i (extD s) else .bad) D σ H) : tDrop (tMut (K := K) i rExtend (TEof K mg W f)) D σ H := by
  obtain ⟨P, E, g, h⟩ := h
  refine ss_mut (P := P) (u := extD) (fun H σ E a vs v s ds d' g e1 e2 ha rv r1 ed => ?_) (fun s d d' ed => ?_) ⟨E, g, h⟩
  · simp only [extD] at ed
    split at ed
    · rename_i ys es
      rw [es] at r1
      split at ed
      · rename_i hz
        cases ed
        obtain ⟨b, zs, rfl, hb, rz, _⟩ := r1.lst_inv
        exact ⟨vs ++ zs, _, rfl, rv.append rz, fun Q q => ⟨a, b, vs, zs, rfl, rfl, ha, hb, by rw [rv.length, rz.length]; exact hz, q⟩⟩
      · cases ed
    · cases ed
  · cases d with
    | lst ds => exact ⟨ds, rfl⟩
    | _ => cases ed
/-- name op= e -/
theorem ss_aug {i : Nat} {f : M Sl} {o : Operator} {g : Int → Int → Int} (ho : ∀ d x s, augO o d x = some s → ∃ a b, d = .int a ∧ x = .int b ∧ s = vI (g a b)) (hi : i ∈ st) (h : TSof K mg W st (fun E => .of (evA [.slot i, .ex f] E) fun ds E1 => match ds with
    | [a, b] => (match augO o a b with
      | some s => putS i s E1
      | none => .bad)
    | _ => .bad) D σ H) : tAug i (TEof K mg W f) (ipI g) D σ H := by
  have := argsL (K := K) (mg := mg) (W := W) [.slot i, .ex f] σ H (fun vs H1 => ∃ a b, vs = [.int a, .int b] ∧ D.nx (σ.set i (some (.int (g a b)))) H1) ?_
  · obtain ⟨v, e1, h2⟩ := this
    refine ⟨v, e1, ?_⟩
    obtain ⟨P, E, gd, h2⟩ := (show TEof K mg W f σ H _ from h2)
    refine ⟨P, E, gd, ?_⟩
    cases e : f E with
    | bad => rw [e] at h2; exact h2
    | exc C x E1 => rw [e] at h2; exact h2
    | ok s E1 =>
      rw [e] at h2
      intro w H1 g1 l1 r1 n1
      obtain ⟨a, b, e3, q⟩ := h2 w H1 g1 l1 r1 n1
      cases e3
      exact ⟨a, b, rfl, rfl, q⟩
  · obtain ⟨P, E, gd, h⟩ := h
    dsimp only at h
    refine ⟨P, E, gd, ?_⟩
    cases e : evA [.slot i, .ex f] E with
    | bad => rw [e] at h; exact h
    | exc C x E1 => exact of_post e h
    | ok ds E1 =>
      rw [e] at h
      intro vs H1 P1 hp g1 l1 ts
      dsimp only [SR.of] at h
      split at h
      · rename_i x y
        split at h
        · rename_i s es
          obtain ⟨a, b, rfl, rfl, rfl⟩ := ho _ _ _ es
          have := ts.ints2
          subst this
          refine ⟨a, b, rfl, ?_⟩
          exact put_ok (s := vI (g a b)) hi (g1.less fun a z => z.elim (hp a) False.elim) (l1.less fun a z => z.elim (hp a) False.elim) (RepB.int _) (fun a z => z.elim) h
        · exact h.elim
      · exact h.elim
/-- l[k] = e -/
theorem ss_sidx {i : Nat} {f k : M Sl} (h : TSof K mg W st (fun E => if isOwnL E i then .of (evC [.ex f, .ex k] E) fun ss => (match ss with
    | [v, .val k] => updS i fun d => setD d k v.d
    | _ => fun _ => .bad) else .bad) D σ H) : tAsg (TEof K mg W f) (gSub (tVar i) (TEof K mg W k) rSetL) D σ H := by
  obtain ⟨P, E, g, h⟩ := h
  dsimp only at h
  by_cases hi : isOwnL E i = true
  · rw [if_pos hi] at h
    obtain ⟨ds0, e0⟩ := isOwnL_at hi
    obtain ⟨a, e2, r0, _⟩ := own_at g e0
    have := argsC (K := K) (mg := mg) (W := W) [.ex f, .ex k] σ H (fun vs H1 => ∃ v kv, vs = [v, kv] ∧ rSetL (.ref a) kv v H1 fun H3 => D.nx σ H3) P E g ?_
    · obtain ⟨P2, E2, g2, h2⟩ := (show TEof K mg W f σ H _ from this)
      refine ⟨P2, E2, g2, ?_⟩
      cases e : f E2 with
      | bad => rw [e] at h2; exact h2
      | exc C x E1 => rw [e] at h2; exact h2
      | ok s E1 =>
        rw [e] at h2
        intro v H1 g1 l1 r1 n1
        refine ⟨.ref a, e2, ?_⟩
        obtain ⟨P3, E3, g3, h3⟩ := (show TEof K mg W k σ H1 _ from h2 v H1 g1 l1 r1 n1)
        refine ⟨P3, E3, g3, ?_⟩
        cases e : k E3 with
        | bad => rw [e] at h3; exact h3
        | exc C x E1 => rw [e] at h3; exact h3
        | ok s E1 =>
          rw [e] at h3
          intro kv H2 g4 l4 r4 n4
          obtain ⟨v', kv', eq, q⟩ := h3 kv H2 g4 l4 r4 n4
          cases eq
          exact q
    · cases e : evC [.ex f, .ex k] E with
      | bad => rw [e] at h; exact h
      | exc C x E1 => exact of_post e h
      | ok ss E1 =>
        rw [e] at h
        intro vs H1 P1 hp g1 l1 ar sa
        dsimp only [SR.of] at h
        split at h
        · rename_i s kd
          obtain ⟨d, d', e1, ed, h⟩ := updS_of h
          obtain ⟨v, kv, rfl⟩ : ∃ v kv, vs = [v, kv] := by
            match vs, ar.len with
            | [v, kv], _ => exact ⟨v, kv, rfl⟩
          refine ⟨v, kv, rfl, ?_⟩
          obtain ⟨b, e3, r3, hm⟩ := own_at g1 e1
          rw [e2] at e3; cases e3
          unfold setD at ed
          split at ed
          · rename_i xs n
            obtain ⟨vs, ha, rv⟩ := r3.lst_inv
            have rk := ar.res 1 kv _ rfl rfl
            obtain ⟨S, rk, _⟩ := (show RepB K H1 (Fz P1 σ E1) kv (.int n) from rk)
            cases rk
            cases ej : ixN xs.length n with
            | none => rw [ej] at ed; cases ed
            | some j =>
              rw [ej] at ed
              cases ed
              have g1' : Good K P H1 σ E1 := g1.less hp
              have l1' : Lnk P σ E H P σ E1 H1 := l1.less hp
              have hh : ∀ c, HeldBy v s c → P1 c ∧ ¬ P c := fun c z => by
                cases s with
                | own d => exact ar.held 0 d c rfl (by rw [show v = .ref c from z]; rfl)
                | _ => exact z.elim
              have rs0 := ar.res 0 v s rfl rfl
              have lp : ∀ c, Pl P v s c → P1 c := fun c z => z.elim (hp c) fun z => (hh c z).1
              have rs : RepB K H1 (Fz P σ E1) v s.d := ResR.frz0 (s := s) (ResR.lnk2 rs0 g1 (Lnk.refl.less lp) fun c z => (hh c z).1) (g1.less lp) fun c z => (hh c z).2
              have rv' : RepsB K H1 (Fz P σ E1) vs xs := rv.mono fun c z => ⟨fun q => z.1 (hp c q), z.2⟩
              refine ⟨a, vs, n, j, rfl, rfl, ha, by rw [rv.length]; exact ej, ?_⟩
              obtain ⟨g2, sub⟩ := g1'.upd (o := .lst (vs.set j v)) (d' := .lst (xs.set j s.d)) e1 e2 hm (OwnB.lst upd_same ((rv'.set rs).keep (kp_fz e1 e2 hm)))
              exact h σ _ g2 (l1'.upd ⟨i, _, e1, e2⟩ sub) Same.refl
          · cases ed
        · exact h.elim
  · rw [if_neg hi] at h; exact h.elim
theorem isOwnD_at {i : Nat} (h : isOwnD E i = true) : ∃ ks ds, E[i]? = some (.own (.dk ks ds)) := by
  unfold isOwnD at h
  split at h
  · exact ⟨_, _, by assumption⟩
  · cases h
theorem OwnB.dk_inv {a : Addr} {ks : List Key} {ds : List Lw.D} {T : Addr → Prop} (h : OwnB K H T a (.dk ks ds)) : ∃ vs, H a = some (.dK (ks.zip vs)) ∧ ks.length = vs.length ∧ RepsB K H T vs ds := by
  obtain ⟨S, h, hS⟩ := h
  cases h with
  | dk h1 h2 h3 => exact ⟨_, h1, h2, _, h3, hS⟩
theorem OwnB.dk {a : Addr} {ks : List Key} {vs : List V} {ds : List Lw.D} {T : Addr → Prop} (h : H a = some (.dK (ks.zip vs))) (hl : ks.length = vs.length) (r : RepsB K H T vs ds) : OwnB K H T a (.dk ks ds) :=
  let ⟨S, h1, h2⟩ := r; ⟨S, .dk h hl h1, h2⟩
theorem RepB.key_v {v : V} {d : Lw.D} {key : Key} {T : Addr → Prop} (h : RepB K H T v d) (e : keyD d = some key) : v = kV key := by
  obtain ⟨S, h, _⟩ := h
  cases h with
  | int i => cases e; rfl
  | str x => cases e; rfl
  | _ => cases e
theorem putZ_k {α β : Type} {key : Key} {v : α} {w : β} : ∀ {ks : List Key} {vs : List α} {ws : List β}, ks.length = vs.length → ks.length = ws.length → ((ks.zip vs).any fun kv => decide (kv.1 = key)) = ((ks.zip ws).any fun kv => decide (kv.1 = key))
  | [], _, _, _, _ => rfl
  | k :: ks, v :: vs, w :: ws, h1, h2 => by
    simp only [List.zip_cons_cons, List.any_cons]
    rw [putZ_k (v := v) (w := w) (ks := ks) (by simpa using h1) (by simpa using h2)]
theorem zip_split {α β : Type} : ∀ l : List (α × β), (l.map (·.1)).zip (l.map (·.2)) = l
  | [] => rfl
  | p :: r => by simp [zip_split r]
theorem putZ_map {key : Key} {T : Addr → Prop} {v : V} {d : Lw.D} (rd : RepB K H T v d) : ∀ {ks : List Key} {vs : List V} {ds : List Lw.D}, ks.length = vs.length → RepsB K H T vs ds →
    ((ks.zip ds).map (fun kv => if kv.1 = key then (kv.1, d) else kv)).map (·.1) = ((ks.zip vs).map (fun kv => if kv.1 = key then (kv.1, v) else kv)).map (·.1) ∧
    RepsB K H T (((ks.zip vs).map (fun kv => if kv.1 = key then (kv.1, v) else kv)).map (·.2)) (((ks.zip ds).map (fun kv => if kv.1 = key then (kv.1, d) else kv)).map (·.2))
  | [], _, _, _, _ => ⟨rfl, .nil⟩
  | k :: ks, [], _, h, _ => by simp at h
  | k :: ks, u :: vs, [], _, r => by have := r.length; simp at this
  | k :: ks, u :: vs, e :: ds, h, r => by
    obtain ⟨r1, r2⟩ := r.uncons
    obtain ⟨q1, q2⟩ := putZ_map (ks := ks) rd (by simpa using h) r2
    simp only [List.zip_cons_cons, List.map_cons]
    by_cases hk : k = key
    · simp only [if_pos hk]; exact ⟨by rw [q1], .cons rd q2⟩
    · simp only [if_neg hk]; exact ⟨by rw [q1], .cons r1 q2⟩
theorem putZ_reps {ks : List Key} {vs : List V} {ds : List Lw.D} {key : Key} {v : V} {d : Lw.D} {T : Addr → Prop} (hl : ks.length = vs.length) (r : RepsB K H T vs ds) (rd : RepB K H T v d) :
    putK (ks.zip vs) key v = ((putZ (ks.zip ds) key d).map (·.1)).zip ((putK (ks.zip vs) key v).map (·.2)) ∧ ((putZ (ks.zip ds) key d).map (·.1)).length = ((putK (ks.zip vs) key v).map (·.2)).length ∧
    RepsB K H T ((putK (ks.zip vs) key v).map (·.2)) ((putZ (ks.zip ds) key d).map (·.2)) := by
  have hl2 : ks.length = ds.length := by rw [hl]; exact r.length
  have main : (putZ (ks.zip ds) key d).map (·.1) = (putK (ks.zip vs) key v).map (·.1) ∧ RepsB K H T ((putK (ks.zip vs) key v).map (·.2)) ((putZ (ks.zip ds) key d).map (·.2)) := by
    unfold putK putZ
    rw [putZ_k (key := key) (v := v) (w := d) hl hl2]
    by_cases h : ((ks.zip ds).any fun kv => decide (kv.1 = key)) = true
    · rw [if_pos h, if_pos h]; exact putZ_map rd hl r
    · rw [if_neg h, if_neg h]
      simp only [List.map_append, List.map_fst_zip (Nat.le_of_eq hl), List.map_fst_zip (Nat.le_of_eq hl2), List.map_snd_zip (Nat.le_of_eq hl.symm), List.map_snd_zip (Nat.le_of_eq hl2.symm), List.map_cons, List.map_nil]
      exact ⟨trivial, r.append (.cons rd .nil)⟩
  refine ⟨?_, ?_, main.2⟩
  · rw [main.1, zip_split]
  · rw [main.1, List.length_map, List.length_map]
/-- d[k] = e -/
theorem ss_dset {i : Nat} {f k : M Sl} (h : TSof K mg W st (fun E => if isOwnD E i then .of (evC [.ex f, .ex k] E) fun ss => (match ss with
    | [v, .val k] => updS i fun d => setK d k v.d
    | _ => fun _ => .bad) else .bad) D σ H) : tAsg (TEof K mg W f) (gSub (tVar i) (TEof K mg W k) rSetD) D σ H := by
  obtain ⟨P, E, g, h⟩ := h
  dsimp only at h
  by_cases hi : isOwnD E i = true
  · rw [if_pos hi] at h
    obtain ⟨ks0, ds0, e0⟩ := isOwnD_at hi
    obtain ⟨a, e2, r0, _⟩ := own_at g e0
    have := argsC (K := K) (mg := mg) (W := W) [.ex f, .ex k] σ H (fun vs H1 => ∃ v kv, vs = [v, kv] ∧ rSetD (.ref a) kv v H1 fun H3 => D.nx σ H3) P E g ?_
    · obtain ⟨P2, E2, g2, h2⟩ := (show TEof K mg W f σ H _ from this)
      refine ⟨P2, E2, g2, ?_⟩
      cases e : f E2 with
      | bad => rw [e] at h2; exact h2
      | exc C x E1 => rw [e] at h2; exact h2
      | ok s E1 =>
        rw [e] at h2
        intro v H1 g1 l1 r1 n1
        refine ⟨.ref a, e2, ?_⟩
        obtain ⟨P3, E3, g3, h3⟩ := (show TEof K mg W k σ H1 _ from h2 v H1 g1 l1 r1 n1)
        refine ⟨P3, E3, g3, ?_⟩
        cases e : k E3 with
        | bad => rw [e] at h3; exact h3
        | exc C x E1 => rw [e] at h3; exact h3
        | ok s E1 =>
          rw [e] at h3
          intro kv H2 g4 l4 r4 n4
          obtain ⟨v', kv', eq, q⟩ := h3 kv H2 g4 l4 r4 n4
          cases eq
          exact q
    · cases e : evC [.ex f, .ex k] E with
      | bad => rw [e] at h; exact h
      | exc C x E1 => exact of_post e h
      | ok ss E1 =>
        rw [e] at h
        intro vs H1 P1 hp g1 l1 ar sa
        dsimp only [SR.of] at h
        split at h
        · rename_i s kd
          obtain ⟨d, d', e1, ed, h⟩ := updS_of h
          obtain ⟨v, kv, rfl⟩ : ∃ v kv, vs = [v, kv] := by
            match vs, ar.len with
            | [v, kv], _ => exact ⟨v, kv, rfl⟩
          refine ⟨v, kv, rfl, ?_⟩
          obtain ⟨b, e3, r3, hm⟩ := own_at g1 e1
          rw [e2] at e3; cases e3
          unfold setK at ed
          split at ed
          · rename_i ks xs
            obtain ⟨vs, ha, hl, rv⟩ := r3.dk_inv
            have rk := ar.res 1 kv _ rfl rfl
            split at ed
            · rename_i key ek
              split at ed
              · rename_i hz
                cases ed
                obtain rfl : kv = kV key := RepB.key_v (show RepB K H1 (Fz P1 σ E1) kv kd from rk) ek
                have g1' : Good K P H1 σ E1 := g1.less hp
                have l1' : Lnk P σ E H P σ E1 H1 := l1.less hp
                have hh : ∀ c, HeldBy v s c → P1 c ∧ ¬ P c := fun c z => by
                  cases s with
                  | own d => exact ar.held 0 d c rfl (by rw [show v = .ref c from z]; rfl)
                  | _ => exact z.elim
                have rs0 := ar.res 0 v s rfl rfl
                have lp : ∀ c, Pl P v s c → P1 c := fun c z => z.elim (hp c) fun z => (hh c z).1
                have rs : RepB K H1 (Fz P σ E1) v s.d := ResR.frz0 (s := s) (ResR.lnk2 rs0 g1 (Lnk.refl.less lp) fun c z => (hh c z).1) (g1.less lp) fun c z => (hh c z).2
                have rv' : RepsB K H1 (Fz P σ E1) vs xs := rv.mono fun c z => ⟨fun q => z.1 (hp c q), z.2⟩
                obtain ⟨q1, q2, q3⟩ := putZ_reps (key := key) hl rv' rs
                refine ⟨a, _, rfl, DPut.k ha (by rw [List.length_zip]; omega), ?_⟩
                obtain ⟨g2, sub⟩ := g1'.upd (o := .dK (putK (ks.zip vs) key v)) (d' := .dk ((putZ (ks.zip xs) key s.d).map (·.1)) ((putZ (ks.zip xs) key s.d).map (·.2))) e1 e2 hm (OwnB.dk (by rw [← q1]; exact upd_same) q2 (q3.keep (kp_fz e1 e2 hm)))
                exact h σ _ g2 (l1'.upd ⟨i, _, e1, e2⟩ sub) Same.refl
              · cases ed
            · cases ed
          · cases ed
        · exact h.elim
  · rw [if_neg hi] at h; exact h.elim
/-! ### loops -/
theorem ss_while {c : M Bool} {b : SE → SR} {n : Nat} (h : TSof K mg W st (whlI c b n) D σ H) : tWhile (TTof K mg W c) (TSof K mg W st b) D σ H := by
  obtain ⟨P, E, g, h⟩ := h
  refine ⟨fun m σ' H' => ∃ E', Good K P H' σ' E' ∧ Lnk P σ E H P σ' E' H' ∧ Same st σ σ' ∧ PostS K mg W st P σ E H D (whlI c b m E'), ⟨n, E, g, Lnk.refl, Same.refl, h⟩, ?_⟩
  rintro m σ1 H1 ⟨E1, g1, l1, s1, h1⟩
  refine ⟨P, E1, g1, ?_⟩
  cases m with
  | zero => exact h1.elim
  | succ m =>
    rw [whlI] at h1
    cases e : c E1 with
    | bad => rw [e] at h1; exact h1
    | exc C x E2 =>
      rw [e] at h1
      exact fun H' cls d g' l' x => h1 σ1 H' cls d g' (l1.trans l') s1 x
    | ok k E2 =>
      rw [e] at h1
      intro H2 g2 l2
      cases k with
      | false => exact h1 σ1 H2 g2 (l1.trans l2) s1
      | true =>
        rw [if_pos rfl]
        refine ⟨fun σ' H' => ∃ E', Good K P H' σ' E' ∧ Lnk P σ E H P σ' E' H' ∧ Same st σ σ' ∧ PostS K mg W st P σ E H D (whlI c b m E'), fun σ' H' q => ⟨m, Nat.lt_succ_self m, q⟩, P, E2, g2, ?_⟩
        dsimp only at h1
        cases eb : b E2 with
        | nx E3 => rw [eb] at h1; exact fun σ' H' g' l' s' => ⟨E3, g', (l1.trans l2).trans l', s1.trans s', h1⟩
        | ct E3 => rw [eb] at h1; exact fun σ' H' g' l' s' => ⟨E3, g', (l1.trans l2).trans l', s1.trans s', h1⟩
        | bk E3 => rw [eb] at h1; exact fun σ' H' g' l' s' => h1 σ' H' g' ((l1.trans l2).trans l') (s1.trans s')
        | rt s E3 => rw [eb] at h1; exact PostS.step0 (r := .rt s E3) h1 (l1.trans l2) s1
        | exc C x E3 => rw [eb] at h1; exact PostS.step0 (r := .exc C x E3) h1 (l1.trans l2) s1
        | bad => rw [eb] at h1; exact h1
theorem ss_for {fI : M (List Lw.D)} {tg : Tgt} {b : SE → SR} (ht : ∀ i ∈ tg.st, i ∈ st) (h : TSof K mg W st (fun E => .of (fI E) fun ds => forI (bindT tg) b ds) D σ H) : tFor (TIof K mg W fI) (tgT K tg) (TSof K mg W st b) D σ H := by
  obtain ⟨P, E, g, h⟩ := h
  refine ⟨P, E, g, ?_⟩
  dsimp only at h
  cases eI : fI E with
  | bad => rw [eI] at h; exact h
  | exc C x E1 => exact of_post eI h
  | ok ds E1 =>
    rw [eI] at h
    intro J H1 P1 hp g1 l1 wk
    refine ⟨fun i m σi Hi => m = ds.length - i ∧ i ≤ ds.length ∧ ∃ Ei, Good K P1 Hi σi Ei ∧ Lnk P1 σ E1 H1 P1 σi Ei Hi ∧ Same st σ σi ∧ PostS K mg W st P σ E H D (forI (bindT tg) b (ds.drop i) Ei),
      ⟨ds.length, by simp, Nat.zero_le _, E1, g1, Lnk.refl, Same.refl, by rw [List.drop_zero]; exact h⟩, ?_⟩
    rintro i m σi Hi ⟨rfl, hi, Ei, gi, li, si, ei⟩
    have kp : Kp (fun a => P1 a ∨ Fz P1 σ E1 a) H1 Hi := fun a o e t z => g1.kp li a o e t (z.imp (fun z q => z.elim (fun z => g1.dis a q z) fun z => z.2 q) id)
    obtain ⟨wstop, wgo⟩ := wk Hi kp
    by_cases hlt : i < ds.length
    · right
      have ed : ds[i]? = some ds[i] := by simp [hlt]
      obtain ⟨go, yld⟩ := wgo i ds[i] ed
      rw [List.drop_eq_getElem_cons hlt, forI] at ei
      refine ⟨go, fun σ' H' => ds.length - (i + 1) = ds.length - (i + 1) ∧ i + 1 ≤ ds.length ∧ ∃ Ei, Good K P1 H' σ' Ei ∧ Lnk P1 σ E1 H1 P1 σ' Ei H' ∧ Same st σ σ' ∧ PostS K mg W st P σ E H D (forI (bindT tg) b (ds.drop (i + 1)) Ei), fun σ' H' q => ⟨ds.length - (i + 1), by omega, q⟩, fun x H3 y => ?_⟩
      obtain ⟨ext3, rx⟩ := yld x H3 y
      cases eb : bindT tg ds[i] Ei with
      | none => rw [eb] at ei; exact ei.elim
      | some Eb =>
        rw [eb] at ei
        dsimp only at ei
        have g3 := gi.ext ext3
        have l3 := li.trans (Lnk.ext ext3)
        have rx' : RepB K H3 (Fz P1 σi Ei) x ds[i] := rx.mono fun b ⟨z, o, e⟩ => l3.fz (a := b) e z
        refine tgt_ok tg ds[i] x _ _ Eb H3 _ g3 rx' eb fun σ2 g4 l4 s4 => ⟨P1, Eb, g4, ?_⟩
        have s4' : Same st σi σ2 := s4.mono ht
        cases ebb : b Eb with
        | nx E3 => rw [ebb] at ei; exact fun σ' H' g' l' s' => ⟨rfl, hlt, E3, g', (l3.trans l4).trans l', si.trans (s4'.trans s'), ei⟩
        | ct E3 => rw [ebb] at ei; exact fun σ' H' g' l' s' => ⟨rfl, hlt, E3, g', (l3.trans l4).trans l', si.trans (s4'.trans s'), ei⟩
        | bk E3 => rw [ebb] at ei; exact fun σ' H' g' l' s' => ei σ' H' (g'.less hp) ((l1.trans ((l3.trans l4).trans l')).less hp) (si.trans (s4'.trans s'))
        | rt s E3 => rw [ebb] at ei; exact PostS.step (r := .rt s E3) ei (l1.trans (l3.trans l4)) (si.trans s4') hp
        | exc C x E3 => rw [ebb] at ei; exact PostS.step (r := .exc C x E3) ei (l1.trans (l3.trans l4)) (si.trans s4') hp
        | bad => rw [ebb] at ei; exact ei.elim
    · left
      have en : i = ds.length := by omega
      subst en
      refine ⟨wstop _ (Nat.le_refl _), ?_⟩
      rw [List.drop_length] at ei
      exact (show PostS K mg W st P σ E H D (.nx Ei) from ei) σi Hi (gi.less hp) ((l1.trans li).less hp) si
end
end Lw
end

section
set_option Elab.async false
set_option linter.all false
set_option maxRecDepth 100000
set_option maxHeartbeats 4000000
/-! L13b: a tuple backwards -/
namespace Lw
open PySem L2 PySem.Spec PyProof.Rows
variable [TabInfo]
section
variable {prog : Program} {w : World} {A : Around} {E : Value → Shared → Prop} {s : Shared}
theorem applied_back {sl : Addr} {vl vu vs : Value} {n : Nat} {Q : Int × Int × Nat → Shared → Prop} (hs : s.heap.IsSliceOf sl vl vu vs) (pl : IsPart vl none) (pu : IsPart vu none) (ps : IsPart vs (some (-1)))
    (h : Q ((n : Int) - 1, -1, n) s) : wpAny (model prog w) A (Builtin.Slice.sliceApplied (.ref sl) (pure (n : Int))) Q E s := by
  obtain ⟨o, h1, _, h2⟩ := id hs
  unfold Builtin.Slice.sliceApplied Builtin.Slice.sliceFields
  refine wpAny_bind (wpAny_bind (wpAny_field h1 h2 (x := vl) rfl (wpAny_bind (wpAny_field h1 h2 (x := vu) rfl (wpAny_bind (wpAny_field h1 h2 (x := vs) rfl (wpAny_pure ?_)))))))
  refine wpAny_bind (HT.slicePart_ ps ?_)
  show wpAny _ _ (if ((-1 : Int) == 0) = true then _ else _) _ _ s
  rw [if_neg (by decide)]
  refine wpAny_bind (HT.slicePart_ pl (wpAny_bind (HT.slicePart_ pu (wpAny_bind (wpAny_pure (wpAny_pure ?_))))))
  have e : Builtin.Slice.slicePlaces ((n : Int) - 1) (-1) (-1) = n := by
    unfold Builtin.Slice.slicePlaces
    rw [if_neg (by decide)]
    split
    · have : (- (-1) : Int) = 1 := rfl
      rw [this, Int.ediv_one]; omega
    · omega
  show Q ((n : Int) - 1, -1, Builtin.Slice.slicePlaces ((n : Int) - 1) (-1) (-1)) s
  rw [e]; exact h
theorem fm_congr {α β : Type} {f g : α → Option β} : ∀ {l : List α}, (∀ x ∈ l, f x = g x) → l.filterMap f = l.filterMap g
  | [], _ => rfl
  | a :: l, h => by
    rw [List.filterMap_cons, List.filterMap_cons, h a (by simp), fm_congr fun x hx => h x (List.mem_cons_of_mem _ hx)]
theorem pick_back (xs : Array Value) : ((List.range xs.size).filterMap fun (m : Nat) => xs[(((xs.size : Int) - 1) + (m : Int) * -1).toNat]?) = xs.toList.reverse := by
  have e : (List.range xs.size).filterMap (fun (m : Nat) => xs[(((xs.size : Int) - 1) + (m : Int) * -1).toNat]?) = ((List.range xs.size).map fun k => xs.size - 1 - k).filterMap (xs[·]?) := by
    rw [List.filterMap_map]
    refine fm_congr fun m hm => ?_
    have := List.mem_range.mp hm
    have e : (((xs.size : Int) - 1) + (m : Int) * -1).toNat = xs.size - 1 - m := by omega
    rw [e]; rfl
  rw [e, PySem.W.krv_range, List.filterMap_reverse, PySem.W.krv_all]
theorem tup_back {t sl : Addr} {items : Array Value} {vl vu vs : Value} {Q : Value → Shared → Prop} (ht : IsTup s.heap t items) (hs : s.heap.IsSliceOf sl vl vu vs) (pl : IsPart vl none) (pu : IsPart vu none) (ps : IsPart vs (some (-1)))
    (h : Q (.ref s.heap.objs.size) { s with heap := s.heap.push { cls := .type "tuple", data := .seq items.toList.reverse.toArray } }) (hz : items.size ≤ sizeLine) : wpAny (model prog w) A (getItem (.ref t) (.ref sl)) Q E s := by
  obtain ⟨o, h1, h3, h2⟩ := id hs
  have ty : s.TypeIs (.ref sl) "slice" := ⟨o, h1, h3⟩
  have big : sizeOk (.seq items.toList.reverse.toArray) := by
    show items.toList.reverse.toArray.size ≤ sizeLine
    simpa using hz
  unfold getItem
  try with_reducible refine wpAny_holding ?_
  first | refine wpAny_bind (wpAny_pure ?_) | skip
  refine wpAny_bind (wpAny_sequenceKey ht.typeIs (by decide) (wpAny_bind (wpAny_callSpecial?_slot (name := Str.ofString "__getitem__") ht.typeIs slot_tuple_getitem (wpAny_call_entry slot_tuple_getitem ht.typeIs entry_tuple_getitem ?_ (args_tuple_getitem _ _)))))
  show wpAny _ _ (Builtin.Tuple.tupleItemsOf (.ref t) >>= _) _ _ s
  refine wpAny_bind (tupleItemsOf_ ht (wpAny_bind (wpAny_typeOf ty ?_)))
  rw [if_pos (by decide)]
  refine wpAny_bind (applied_back hs pl pu ps ?_)
  have no : ¬ ((((items.size : Int) - 1) == 0 && (-1 : Int) == 1 && items.size == items.size) = true) := by simp
  show wpAny _ _ (if (((items.size : Int) - 1) == 0 && (-1 : Int) == 1 && items.size == items.size) = true then _ else _) _ _ s
  rw [if_neg no, pick_back]
  first
    | exact wpAny_bind (m := Builtin.Tuple.tupleExact _) (wpAny_newObj_type (wpAny_pure ⟨_, rfl, wpAny_pure h⟩) big)
    | exact wpAny_bind (m := Builtin.Tuple.tupleExact _) (wpAny_newObj_type (wpAny_bind (wpAny_pure (wpAny_pure ⟨_, rfl, wpAny_pure h⟩))) big)
    | exact wpAny_bind (wpAny_bind (m := Builtin.Tuple.tupleExact _) (wpAny_newObj_type (wpAny_pure (wpAny_pure ⟨_, rfl, wpAny_pure h⟩)) big))
    | exact wpAny_bind (wpAny_bind (m := Builtin.Tuple.tupleExact _) (wpAny_newObj_type (wpAny_pure ⟨_, rfl, wpAny_pure h⟩) big))
end
end Lw
end

section
set_option Elab.async false
set_option linter.all false
set_option maxRecDepth 100000
set_option maxHeartbeats 4000000
/-! L13c: sorted(set(..)) of pairs -/
namespace Lw
open PySem L2
variable [TabInfo]
theorem ltP_iff {p q : Int × Int} : ltP p q = true ↔ p.1 < q.1 ∨ (p.1 = q.1 ∧ p.2 < q.2) := by simp [ltP]
theorem mem_insP {p x : Int × Int} : ∀ {l : List (Int × Int)}, x ∈ insP p l ↔ x = p ∨ x ∈ l
  | [] => by simp [insP]
  | q :: r => by
    unfold insP
    split
    · simp
    · split
      · rename_i h; subst h; simp
      · simp only [List.mem_cons, mem_insP (l := r)]
        constructor
        · rintro (h | h | h)
          · exact .inr (.inl h)
          · exact .inl h
          · exact .inr (.inr h)
        · rintro (h | h | h)
          · exact .inr (.inl h)
          · exact .inl h
          · exact .inr (.inr h)
theorem mem_sortP {x : Int × Int} : ∀ {l : List (Int × Int)}, x ∈ sortP l ↔ x ∈ l
  | [] => Iff.rfl
  | q :: r => by rw [sortP, mem_insP, mem_sortP (l := r), List.mem_cons]
abbrev LtP (p q : Int × Int) : Prop := ltP p q = true
theorem ltP_total {p q : Int × Int} (h1 : ¬ LtP p q) (h2 : p ≠ q) : LtP q p := by
  rw [LtP, ltP_iff] at *
  have : ¬ (p.1 = q.1 ∧ p.2 = q.2) := fun z => h2 (Prod.ext z.1 z.2)
  omega
theorem ltP_trans {p q r : Int × Int} (h1 : LtP p q) (h2 : LtP q r) : LtP p r := by
  rw [LtP, ltP_iff] at *
  omega
theorem ltP_irr {p : Int × Int} : ¬ LtP p p := by
  rw [LtP, ltP_iff]; omega
theorem sorted_insP {p : Int × Int} : ∀ {l : List (Int × Int)}, l.Pairwise LtP → (insP p l).Pairwise LtP
  | [], _ => by simp [insP]
  | q :: r, h => by
    rw [List.pairwise_cons] at h
    unfold insP
    split
    · rename_i e
      rw [List.pairwise_cons]
      refine ⟨fun x hx => ?_, List.pairwise_cons.mpr h⟩
      rcases List.mem_cons.mp hx with rfl | hx
      · exact e
      · exact ltP_trans e (h.1 x hx)
    · rename_i e
      split
      · exact List.pairwise_cons.mpr h
      · rename_i ne
        rw [List.pairwise_cons]
        refine ⟨fun x hx => ?_, sorted_insP h.2⟩
        rcases mem_insP.mp hx with rfl | hx
        · exact ltP_total e ne
        · exact h.1 x hx
theorem sorted_sortP : ∀ {l : List (Int × Int)}, (sortP l).Pairwise LtP
  | [] => .nil
  | p :: r => sorted_insP sorted_sortP
theorem sorted_uniq : ∀ {l m : List (Int × Int)}, l.Pairwise LtP → m.Pairwise LtP → (∀ x, x ∈ l ↔ x ∈ m) → l = m
  | [], [], _, _, _ => rfl
  | [], b :: m, _, _, h => absurd ((h b).mpr List.mem_cons_self) List.not_mem_nil
  | a :: l, [], _, _, h => absurd ((h a).mp List.mem_cons_self) List.not_mem_nil
  | a :: l, b :: m, h1, h2, h => by
    rw [List.pairwise_cons] at h1 h2
    have e : a = b := by
      rcases List.mem_cons.mp ((h a).mp List.mem_cons_self) with e | e
      · exact e
      · rcases List.mem_cons.mp ((h b).mpr List.mem_cons_self) with e2 | e2
        · exact e2.symm
        · exact absurd (ltP_trans (h2.1 a e) (h1.1 b e2)) ltP_irr
    subst e
    rw [sorted_uniq h1.2 h2.2 fun x => ?_]
    constructor
    · intro hx
      rcases List.mem_cons.mp ((h x).mp (List.mem_cons_of_mem _ hx)) with e | e
      · exact absurd (h1.1 x hx) (by rw [e]; exact ltP_irr)
      · exact e
    · intro hx
      rcases List.mem_cons.mp ((h x).mpr (List.mem_cons_of_mem _ hx)) with e | e
      · exact absurd (h2.1 x hx) (by rw [e]; exact ltP_irr)
      · exact e
def prL (p : Int × Int) : List Int := [p.1, p.2]
theorem prL_inj {p q : Int × Int} (h : prL p = prL q) : p = q := by
  simp only [prL, List.cons.injEq, and_true] at h
  exact Prod.ext h.1 h.2
section
variable {K : PySem.W.Frag} {H H' : Hp} {T : Addr → Prop}
theorem prs_at : ∀ {xs : List D} {ps : List (Int × Int)} {vs : List V}, prsOf xs = some ps → RepsB K H T vs xs → ∃ ks : List (Addr × List Int), vs = ks.map (fun p => V.ref p.1) ∧ (∀ p ∈ ks, SqT K H p.1 (p.2.map V.int)) ∧ ks.map (·.2) = ps.map prL ∧ ∀ p ∈ ps, (0 ≤ p.1 ∧ p.1 < 2 ^ 31) ∧ (0 ≤ p.2 ∧ p.2 < 2 ^ 31)
  | [], ps, vs, e, r => by
    cases e
    have : vs = [] := List.eq_nil_of_length_eq_zero r.length
    subst this
    exact ⟨[], rfl, fun _ h => (List.not_mem_nil h).elim, rfl, fun _ h => (List.not_mem_nil h).elim⟩
  | d :: xs, ps, vs, e, r => by
    cases vs with
    | nil => have := r.length; simp at this
    | cons v vs =>
      rw [prsOf] at e
      split at e
      · rename_i p qs e1 e2
        cases e
        obtain ⟨r1, r2⟩ := r.uncons
        obtain ⟨ks, rfl, h1, h2, h3⟩ := prs_at e2 r2
        unfold prOf at e1
        split at e1
        · rename_i a b
          split at e1
          · rename_i hb
            cases e1
            obtain ⟨S, r1, _⟩ := r1
            cases r1 with
            | tup q rs =>
              rename_i ad ws
              cases rs with
              | cons ra rs =>
                cases rs with
                | cons rb rs =>
                  cases rs
                  cases ra
                  cases rb
                  refine ⟨(ad, [a, b]) :: ks, rfl, fun p hp => ?_, by simp [h2, prL], fun p hp => ?_⟩
                  · rcases List.mem_cons.mp hp with rfl | hp
                    · exact q
                    · exact h1 p hp
                  · rcases List.mem_cons.mp hp with rfl | hp
                    · exact hb
                    · exact h3 p hp
          · cases e1
        · cases e1
      · cases e
end
end Lw
end

section
set_option Elab.async false
set_option linter.all false
set_option maxRecDepth 100000
set_option maxHeartbeats 4000000
/-! L14: what expressions of the IR come to, as readings -/
namespace Lw
open PySem L2
variable [TabInfo]
section
variable {K : PySem.W.Frag} {mg : Str → Option Value} {W : WX} {P P' P1 P2 : Addr → Prop} {H H' H1 H0 H2 : Hp} {σ σ' σ1 : L2.St} {E E' E1 E0 : SE} {Q : VK}
theorem ok_val {d : D} {v : V} (g : Good K P H σ E) (r : RepB K H (Fz P σ E) v d) (h : PostE K mg W P σ E H Q (.ok (.val d) E)) : Q v H :=
  h v H (g.less fun a z => z.elim id False.elim) (Lnk.refl.less fun a z => z.elim id False.elim) (r.mono fun a z => ⟨fun q => z.1 (q.elim id False.elim), z.2⟩) fun a z => z.elim
theorem te_pure {d : D} {v : V} (r : ∀ H, RepB K H (fun _ => False) v d) : TEof K mg W (M.pure (.val d)) σ H Q → tC v σ H Q := fun ⟨P, E, g, h⟩ =>
  ok_val g ((r H).mono fun _ z => z.elim) h
theorem te_var {i : Nat} : TEof K mg W (varS i) σ H Q → tVar i σ H Q := fun ⟨P, E, g, h⟩ => by
  unfold varS at h
  split at h
  · rename_i d e
    obtain ⟨v, e1, r⟩ := g.val i d e
    exact ⟨v, e1, ok_val g r h⟩
  · exact h.elim
theorem te_mv {i : Nat} : TEof K mg W (popS i) σ H Q → tVar i σ H Q := fun ⟨P, E, g, h⟩ => by
  unfold popS at h
  split at h
  · rename_i d e
    obtain ⟨a, e1, r⟩ := g.own i d e
    refine ⟨_, e1, ?_⟩
    have go := g.out i
    have hp : ∀ b, Pl P (.ref a) (.own d) b → (P b ∨ ∃ d, E[i]? = some (.own d) ∧ σ[i]? = some (some (.ref b))) := fun b z => z.imp id fun z => by
      cases (show V.ref a = .ref b from z)
      exact ⟨d, e, e1⟩
    have ow : OwnS σ E a := ⟨i, d, e, e1⟩
    have sub : ∀ b, OwnS σ (E.set i .no) b → OwnS σ E b := fun b ⟨j, x, q1, q2⟩ => by
      rw [getE_set] at q1
      split at q1
      · split at q1 <;> cases q1
      · exact ⟨j, x, q1, q2⟩
    refine h (.ref a) H (go.less hp) ⟨fun a o e _ _ => e, fun b q => .inl (sub b q), fun b z => (hp b z).imp id fun ⟨d', q1, q2⟩ => .inl ⟨i, d', q1, q2⟩, fun _ e => e⟩ ⟨a, rfl, r.monoD fun b _ _ z => ⟨fun q => ?_, fun q => z.2 (sub b q)⟩⟩ fun b z => by
      cases (show V.ref a = .ref b from z)
      exact g.dis a ow
    rcases q with q | q
    · exact z.1 q
    · cases (show V.ref a = .ref b from q)
      exact z.2 ow
  · rename_i d e
    obtain ⟨v, e1, r⟩ := g.val i d e
    exact ⟨v, e1, ok_val g r h⟩
  · exact h.elim
theorem Good.frz (g : Good K P H σ E) {i : Nat} {d : D} (e : E[i]? = some (.own d)) : Good K P H σ (E.set i (.val d)) ∧ (∀ b, OwnS σ (E.set i (.val d)) b → OwnS σ E b) ∧ ∃ a, σ[i]? = some (some (.ref a)) ∧ RepB K H (Fz P σ (E.set i (.val d))) (.ref a) d := by
  obtain ⟨a, e1, r⟩ := g.own i d e
  have hi : i < E.length := by
    rcases Nat.lt_or_ge i E.length with h | h
    · exact h
    · rw [List.getElem?_eq_none h] at e; cases e
  have gE : ∀ (j : Nat), (E.set i (.val d))[j]? = if i = j then some (.val d) else E[j]? := fun j => by
    rw [getE_set]
    by_cases h : i = j
    · subst h; rw [if_pos rfl, if_pos rfl, if_pos hi]
    · rw [if_neg h, if_neg h]
  have sub : ∀ b, OwnS σ (E.set i (.val d)) b → OwnS σ E b ∧ b ≠ a := fun b ⟨j, x, q1, q2⟩ => by
    rw [gE] at q1
    by_cases h : i = j
    · rw [if_pos h] at q1; cases q1
    · rw [if_neg h] at q1
      exact ⟨⟨j, x, q1, q2⟩, fun z => h (g.inj i j d x a e q1 e1 (by rw [q2, z]))⟩
  have fz : ∀ b, Fz P σ E b → Fz P σ (E.set i (.val d)) b := fun b z => ⟨z.1, fun q => z.2 (sub b q).1⟩
  have ra : RepB K H (Fz P σ (E.set i (.val d))) (.ref a) d := by
    obtain ⟨S, h1, h2⟩ := r
    refine ⟨_, h1.rep, fun b hb => ?_⟩
    rcases List.mem_cons.mp hb with rfl | hb
    · exact ⟨g.dis _ ⟨i, d, e, e1⟩, fun q => (sub _ q).2 rfl⟩
    · exact fz b (h2 b hb)
  refine ⟨⟨by rw [List.length_set]; exact g.len, g.dom, fun j x q => ?_, fun j x q => ?_, fun b q => g.dis b (sub b q).1, fun j l x x' b q1 q2 q3 q4 => ?_, g.tab⟩, fun b q => (sub b q).1, a, e1, ra⟩
  · rw [gE] at q
    by_cases h : i = j
    · subst h
      rw [if_pos rfl] at q
      cases q
      exact ⟨_, e1, ra⟩
    · rw [if_neg h] at q
      obtain ⟨v, q1, r⟩ := g.val j x q
      exact ⟨v, q1, r.mono fz⟩
  · rw [gE] at q
    by_cases h : i = j
    · rw [if_pos h] at q; cases q
    · rw [if_neg h] at q
      obtain ⟨b, q1, r⟩ := g.own j x q
      exact ⟨b, q1, r.monoD fun b _ _ z => fz b z⟩
  · rw [gE] at q1 q2
    by_cases h : i = j
    · rw [if_pos h] at q1; cases q1
    · by_cases h' : i = l
      · rw [if_pos h'] at q2; cases q2
      · rw [if_neg h] at q1; rw [if_neg h'] at q2
        exact g.inj j l x x' b q1 q2 q3 q4
theorem te_fz {i : Nat} : TEof K mg W (fzS i) σ H Q → tVar i σ H Q := fun ⟨P, E, g, h⟩ => by
  unfold fzS at h
  split at h
  · rename_i d e
    obtain ⟨g2, sub, a, e1, r⟩ := g.frz e
    refine ⟨_, e1, ?_⟩
    exact h (.ref a) H (g2.less fun a z => z.elim id False.elim) ⟨fun a o e _ _ => e, fun b q => .inl (sub b q), fun b z => z.elim .inl False.elim, fun _ e => e⟩ (r.mono fun b z => ⟨fun q => z.1 (q.elim id False.elim), z.2⟩) fun b z => z.elim
  · rename_i d e
    obtain ⟨v, e1, r⟩ := g.val i d e
    exact ⟨v, e1, ok_val g r h⟩
  · exact h.elim
/-- two operands -/
theorem te_op2 {oa ob : Opd} {f : D → D → Option Sl} : TEof K mg W (M.bind (evA [oa, ob]) fun ds => M.opt (match ds with | [x, y] => f x y | _ => none)) σ H Q → tOp (r2D K f) (tOpd K mg W oa) (tOpd K mg W ob) σ H Q := fun h =>
  prim_sound (ops := [oa, ob]) (p := fun ds => match ds with | [x, y] => f x y | _ => none) (r := fun Q vs H => match vs with | [x, y] => r2D K f x y H Q | _ => False) (fun vs H Q T ds ts q => by
    cases ts with
    | nil => exact q.elim
    | cons t1 ts =>
      cases ts with
      | nil => exact q.elim
      | cons t2 ts =>
        cases ts with
        | nil => exact ⟨T, _, _, t1, t2, q⟩
        | cons t3 ts => exact q.elim) σ H Q h
theorem te_op1 {oa : Opd} {f : D → Option Sl} : TEof K mg W (M.bind (evA [oa]) fun ds => M.opt (match ds with | [x] => f x | _ => none)) σ H Q → tUn (r1D K f) (tOpd K mg W oa) σ H Q := fun h =>
  prim_sound (ops := [oa]) (p := fun ds => match ds with | [x] => f x | _ => none) (r := fun Q vs H => match vs with | [x] => r1D K f x H Q | _ => False) (fun vs H Q T ds ts q => by
    cases ts with
    | nil => exact q.elim
    | cons t1 ts =>
      cases ts with
      | nil => exact ⟨T, _, t1, q⟩
      | cons t2 ts => exact q.elim) σ H Q h
theorem te_opn {os : List Opd} {f : List D → Option Sl} : TEof K mg W (M.bind (evA os) fun ds => M.opt (f ds)) σ H Q → tCB (rnD K f) (tOpds K mg W os) σ H Q := fun h =>
  prim_sound (ops := os) (p := f) (r := fun Q vs H => rnD K f vs H Q) (fun vs H Q T ds ts q => ⟨T, ds, ts, q⟩) σ H Q h
/-! ### one after another -/
structure PP (K : PySem.W.Frag) (mg : Str → Option Value) (W : WX) (σ : L2.St) {β : Type} (Post : (Addr → Prop) → SE → Hp → R β → Prop) : Prop where
  step : ∀ {P P1 : Addr → Prop} {E E1 : SE} {H H1 : Hp} {r : R β}, Post P E H r → Lnk P σ E H P1 σ E1 H1 → (∀ a, P a → P1 a) → Post P1 E1 H1 r
  exc : ∀ {P : Addr → Prop} {E E1 : SE} {H : Hp} {C : Str} {x : D}, Post P E H (.exc C x E1) → ∀ H' cls d, Good K P H' σ E1 → Lnk P σ E H P σ E1 H' → ExcR K mg (Fz P σ E1) H' C x cls d → W cls d σ H'
  bad : ∀ {P : Addr → Prop} {E : SE} {H : Hp}, ¬ Post P E H .bad
theorem ppE : PP K mg W σ (fun P E H r => PostE K mg W P σ E H Q r) where
  step := fun {P P1 E E1 H H1 r} h l hp => by
    cases r with
    | ok s E' =>
      have hq : ∀ {w} a, Pl P w s a → Pl P1 w s a := fun a z => z.imp (hp a) id
      exact fun v H' g l' r n => h v H' (g.less hq) ((l.trans l').less hq) (r.lnk2 g (Lnk.refl.less hq) fun a z => .inr z) fun a z q => n a z (hp a q)
    | exc C x E' => exact fun H' cls d g l' x => h H' cls d (g.less hp) ((l.trans l').less hp) (x.less fun a z => ⟨fun q => z.1 (hp a q), z.2⟩)
    | bad => exact h
  exc := fun h => h
  bad := id
theorem ppT {Q : Bool → Hp → Prop} : PP K mg W σ (fun P E H r => PostT K mg W P σ E H Q r) where
  step := fun {P P1 E E1 H H1 r} h l hp => by
    cases r with
    | ok s E' => exact fun H' g l' => h H' (g.less hp) ((l.trans l').less hp)
    | exc C x E' => exact fun H' cls d g l' x => h H' cls d (g.less hp) ((l.trans l').less hp) (x.less fun a z => ⟨fun q => z.1 (hp a q), z.2⟩)
    | bad => exact h
  exc := fun h => h
  bad := id
section
variable {β : Type} {Post : (Addr → Prop) → SE → Hp → R β → Prop}
theorem bindE (pp : PP K mg W σ Post) {f : M Sl} {k : Sl → M β} (g : Good K P H σ E) (h : Post P E H ((f E).bind k)) :
    TEof K mg W f σ H (fun v H1 => ∃ s P E, Good K P H1 σ E ∧ ResR K P σ E H1 v s ∧ (∀ a, HeldBy v s a → P a) ∧ Post P E H1 (k s E)) := by
  refine ⟨P, E, g, ?_⟩
  cases e : f E with
  | bad => rw [e] at h; exact pp.bad h
  | exc C x E1 => rw [e] at h; exact pp.exc h
  | ok s E1 =>
    rw [e] at h
    exact fun v H1 g1 l1 r1 n1 => ⟨s, _, E1, g1, r1, fun a z => .inr z, pp.step h l1 fun a z => .inl z⟩
theorem bindB (pp : PP K mg W σ Post) {f : M Bool} {k : Bool → M β} (g : Good K P H σ E) (h : Post P E H ((f E).bind k)) :
    TTof K mg W f σ H (fun b H1 => ∃ P E, Good K P H1 σ E ∧ Post P E H1 (k b E)) := by
  refine ⟨P, E, g, ?_⟩
  cases e : f E with
  | bad => rw [e] at h; exact pp.bad h
  | exc C x E1 => rw [e] at h; exact pp.exc h
  | ok s E1 =>
    rw [e] at h
    exact fun H1 g1 l1 => ⟨P, E1, g1, pp.step h l1 fun a z => z⟩
theorem bindA (pp : PP K mg W σ Post) {os : List Opd} {k : List D → M β} (g : Good K P H σ E) (h : Post P E H ((evA os E).bind k)) :
    tOpds K mg W os σ H (fun vs H1 => ∃ ds P E, Good K P H1 σ E ∧ TopsB K H1 (Fz P σ E) vs ds ∧ Post P E H1 (k ds E)) := by
  refine argsL os σ H _ ⟨P, E, g, ?_⟩
  cases e : evA os E with
  | bad => rw [e] at h; exact pp.bad h
  | exc C x E1 => rw [e] at h; exact pp.exc h
  | ok ds E1 =>
    rw [e] at h
    exact fun vs H1 P1 hp g1 l1 ts => ⟨ds, P1, E1, g1, ts, pp.step h l1 hp⟩
end
theorem ResR.bl {v : V} {b : Bool} (r : ResR K P σ E H v (.val (.bl b))) : v = .bl b := by
  obtain ⟨S, r, _⟩ := (show RepB K H (Fz P σ E) v (.bl b) from r)
  cases r; rfl
theorem te_mono {f : M Sl} {Q' : VK} (h : TEof K mg W f σ H Q) (m : ∀ v H, Q v H → Q' v H) : TEof K mg W f σ H Q' := by
  obtain ⟨P, E, g, h⟩ := h
  refine ⟨P, E, g, ?_⟩
  cases e : f E with
  | bad => rw [e] at h; exact h
  | exc C x E1 => rw [e] at h; exact h
  | ok s E1 => rw [e] at h; exact fun v H1 g1 l1 r1 n1 => m _ _ (h v H1 g1 l1 r1 n1)
theorem tt_mono {f : M Bool} {Q Q' : Bool → Hp → Prop} (h : TTof K mg W f σ H Q) (m : ∀ v H, Q v H → Q' v H) : TTof K mg W f σ H Q' := by
  obtain ⟨P, E, g, h⟩ := h
  refine ⟨P, E, g, ?_⟩
  cases e : f E with
  | bad => rw [e] at h; exact h
  | exc C x E1 => rw [e] at h; exact h
  | ok s E1 => rw [e] at h; exact fun H1 g1 l1 => m _ _ (h H1 g1 l1)
theorem op_mono {o : Opd} {Q' : VK} (h : tOpd K mg W o σ H Q) (m : ∀ v H, Q v H → Q' v H) : tOpd K mg W o σ H Q' := by
  cases o with
  | slot i => obtain ⟨v, e, q⟩ := h; exact ⟨v, e, m _ _ q⟩
  | ex f => exact te_mono h m
theorem te_and {f g : M Sl} (h : TEof K mg W (M.bind f fun s => match s with
    | .val (.bl true) => g
    | .val (.bl false) => M.pure (vB false)
    | _ => M.bad) σ H Q) : tAndV (TEof K mg W f) (TEof K mg W g) σ H Q := by
  obtain ⟨P, E, gd, h⟩ := h
  refine te_mono (bindE ppE gd h) fun v H1 ⟨s, P1, E1, g1, r1, n1, h1⟩ => ?_
  split at h1
  · exact ⟨true, r1.bl, by rw [if_pos rfl]; exact ⟨P1, E1, g1, h1⟩⟩
  · exact ⟨false, r1.bl, by rw [if_neg (by decide)]; exact ok_val g1 (.bl false) h1⟩
  · exact h1.elim
theorem te_or {f g : M Sl} (h : TEof K mg W (M.bind f fun s => match s with
    | .val (.bl false) => g
    | .val (.bl true) => M.pure (vB true)
    | _ => M.bad) σ H Q) : tOrV (TEof K mg W f) (TEof K mg W g) σ H Q := by
  obtain ⟨P, E, gd, h⟩ := h
  refine te_mono (bindE ppE gd h) fun v H1 ⟨s, P1, E1, g1, r1, n1, h1⟩ => ?_
  split at h1
  · exact ⟨false, r1.bl, by rw [if_neg (by decide)]; exact ⟨P1, E1, g1, h1⟩⟩
  · exact ⟨true, r1.bl, by rw [if_pos rfl]; exact ok_val g1 (.bl true) h1⟩
  · exact h1.elim
theorem te_not {f : M Sl} (h : TEof K mg W (M.bind f fun s => match s with
    | .val (.bl b) => M.pure (vB (!b))
    | _ => M.bad) σ H Q) : tNotV (TEof K mg W f) σ H Q := by
  obtain ⟨P, E, gd, h⟩ := h
  refine te_mono (bindE ppE gd h) fun v H1 ⟨s, P1, E1, g1, r1, n1, h1⟩ => ?_
  split at h1
  · exact ⟨_, r1.bl, ok_val g1 (.bl _) h1⟩
  · exact h1.elim
theorem te_ite {c : M Bool} {f g : M Sl} (h : TEof K mg W (M.bind c fun k => if k then f else g) σ H Q) : tIf (TTof K mg W c) (TEof K mg W f) (TEof K mg W g) σ H Q := by
  obtain ⟨P, E, gd, h⟩ := h
  refine tt_mono (bindB ppE gd h) fun b H1 ⟨P1, E1, g1, h1⟩ => ?_
  cases b with
  | true => rw [if_pos rfl]; exact ⟨P1, E1, g1, h1⟩
  | false => rw [if_neg (by decide)]; exact ⟨P1, E1, g1, h1⟩
theorem tt_ite {c f g : M Bool} {Q : Bool → Hp → Prop} (h : TTof K mg W (M.bind c fun k => if k then f else g) σ H Q) : TTof K mg W c σ H fun c H1 => if c = true then TTof K mg W f σ H1 Q else TTof K mg W g σ H1 Q := by
  obtain ⟨P, E, gd, h⟩ := h
  refine tt_mono (bindB ppT gd h) fun b H1 ⟨P1, E1, g1, h1⟩ => ?_
  cases b with
  | true => rw [if_pos rfl]; exact ⟨P1, E1, g1, h1⟩
  | false => rw [if_neg (by decide)]; exact ⟨P1, E1, g1, h1⟩
theorem tt_pure {b : Bool} {Q : Bool → Hp → Prop} (h : TTof K mg W (M.pure b) σ H Q) : Q b H := by
  obtain ⟨P, E, g, h⟩ := h
  exact h H g Lnk.refl
theorem tt_and {f g : M Bool} {Q : Bool → Hp → Prop} (h : TTof K mg W (M.bind f fun k => if k then g else M.pure false) σ H Q) : tAnd (TTof K mg W f) (TTof K mg W g) σ H Q :=
  tt_mono (tt_ite h) fun b H1 q => by
    cases b with
    | true => rw [if_pos rfl] at q ⊢; exact q
    | false => rw [if_neg (by decide)] at q ⊢; exact tt_pure q
theorem tt_or {f g : M Bool} {Q : Bool → Hp → Prop} (h : TTof K mg W (M.bind f fun k => if k then M.pure true else g) σ H Q) : tOr (TTof K mg W f) (TTof K mg W g) σ H Q :=
  tt_mono (tt_ite h) fun b H1 q => by
    cases b with
    | true => rw [if_pos rfl] at q ⊢; exact tt_pure q
    | false => rw [if_neg (by decide)] at q ⊢; exact q
theorem tt_not {f : M Bool} {Q : Bool → Hp → Prop} (h : TTof K mg W (M.bind f fun b => M.pure (!b)) σ H Q) : tNot (TTof K mg W f) σ H Q := by
  obtain ⟨P, E, gd, h⟩ := h
  refine tt_mono (bindB ppT gd h) fun b H1 ⟨P1, E1, g1, h1⟩ => ?_
  exact h1 H1 g1 Lnk.refl
/-- a value's truth -/
def rTru (K : PySem.W.Frag) : V → Hp → (Bool → Hp → Prop) → Prop := fun x H Q => ∃ T d b, TopB K H T x d ∧ truthD d = some b ∧ Q b H
theorem tt_val {o : Opd} {Q : Bool → Hp → Prop} (h : TTof K mg W (M.bind (evA [o]) fun ds => M.opt (match ds with | [d] => truthD d | _ => none)) σ H Q) : tOpd K mg W o σ H fun x H1 => rTru K x H1 Q := by
  obtain ⟨P, E, gd, h⟩ := h
  refine op_mono (show tOpd K mg W o σ H fun x H1 => _ from bindA (os := [o]) ppT gd h) fun v H1 ⟨ds, P1, E1, g1, ts, h1⟩ => ?_
  match ds, ts with
  | [d], .cons t1 .nil =>
    dsimp only at h1
    cases e : truthD d with
    | none => rw [e] at h1; exact h1.elim
    | some b => rw [e] at h1; exact ⟨_, d, b, t1, e, h1 H1 g1 Lnk.refl⟩
end
end Lw
end

section
set_option Elab.async false
set_option linter.all false
set_option maxRecDepth 100000
set_option maxHeartbeats 4000000
/-! LH: f(lambda: body), where f hears what is raised; nothing is raised here -/
namespace Lw
open PySem PySem.Spec PyProof.Rows L2 LamX
variable [TabInfo]
abbrev lamN (X : Cx) : Str := X.env.qual ++ "<lambda>"
section
variable {X : Cx} {pins : List (Addr × Obj)} {σ : L2.St} {H : Hp} {s : Shared}
/-- the lambda is made; no address is given back -/
theorem lam_mk {T : List (Addr × Str)} {cc tb : Addr} {params : Arguments} {body : Expr} {scope : Scope} {pos : Pos} {E Q : Value → Shared → Prop} (I : Inv X pins σ H s) (B : TabB X.base X.mg cc tb) (ec : X.env.code = .ref cc)
    (mT : (tb, lamN X) ∈ T) (uT : ∀ p ∈ T, p.1 = tb → p.2 = lamN X) (hT : Tabs T H) (nd : defaultsOf params X.env = ([], [])) (fr : ∀ y ∈ scope.names, y.2 = .free → ∃ c, X.env.cells.lookup y.1 = some c)
    (h : ∀ (f c' : Addr) (pm ctv : Value) (H1 : Hp) (t : Shared), Inv X pins σ H1 t → ExtN H H1 ∧ Tabs T H1 ∧ (∀ b, H1 b = none → H b = none) →
      t.heap.get? f = some (PySem.W.kla_obj "<lambda>" (lamN X) params body scope (cloFrom X.env.cells scope.names []) pm c' ctv) → H1 f = none ∧ f ∉ frs X.stack → H1 c' = some (CodeO c' (lamN X)) → Q (.ref f) t) :
    wpAny (model X.prog X.w) X.A (eval (.Lambda params body scope pos) X.env) Q E s := by
  obtain ⟨ps, e1, e2, e3⟩ := hT _ mT
  have onH : s.heap.get? tb = some { cls := .none, data := .fields ps } := I.hok tb _ e1
  have newF : ∀ {f}, s.heap.objs.size ≤ f → f ∉ frs X.stack := fun {f} hf z => (List.mem_cons.mp (I.stkSub _ z)).elim (fun q => by have h1 := I.lt; rw [← q] at h1; exact Nat.lt_irrefl _ (Nat.lt_of_lt_of_le h1 hf)) (I.nofs hf)
  have Bb := B.bm.keeps I.bk
  refine PySem.W.kla_eval nd ?_
  cases q : codeAmong pos ps.toList with
  | some cv =>
    -- the code object stands in the table
    obtain ⟨c', rfl, hco⟩ := e3 pos cv q
    refine PySem.W.kla_makeFunctionHit (mg := X.mg) (c := cc) (P := tb) (ps := ps) (closure_ok fr) I.ok.glob (I.mod.glob.keeps I.bk) ec (B.code.keeps I.bk) onH e2 q Bb fun ctv g tk hx hz => ?_
    exact h g.objs.size c' _ ctv H _ (I.kept fun b o e => Heap.get?_push_of_some _ (hx b o e)) ⟨ExtN.refl H, hT, fun _ z => z⟩ (Heap.get?_push_size _ rfl) ⟨I.hok.fresh hz, newF hz⟩ hco
  | none =>
    refine PySem.W.kla_makeFunction (mg := X.mg) (c := cc) (P := tb) (ps := ps) (closure_ok fr) I.ok.glob (I.mod.glob.keeps I.bk) ec (B.code.keeps I.bk) onH e2 q B.gP Bb fun c' ctv g tk hx hge hlt hrec hg => ?_
    obtain ⟨c2, oc, vs, tt, r0, r1, r2, r3⟩ := hrec
    cases r0
    have big : s.heap.objs.size ≤ g.objs.size := by omega
    have nc : H c' = none := I.hok.fresh hge
    have J := inv_table (t' := tk) (more := #[rawInt pos.line, rawInt pos.col, .ref c']) (h' := g.push (PySem.W.kla_obj "<lambda>" (lamN X) params body scope (cloFrom X.env.cells scope.names []) ((X.mg "__name__").getD .none) c' ctv)) I e1
      (fun b o hb e => Heap.get?_push_of_some _ (hx b o hb e)) (Heap.get?_push_of_some _ hg) hge ⟨oc, vs, tt, Heap.get?_push_of_some _ r1, r2, r3⟩
    have keep : ExtN H (upd (upd H tb (.tbl (ps ++ #[rawInt pos.line, rawInt pos.col, .ref c']))) c' (CodeO c' (lamN X))) := fun b o e nt => by
      have h1 : b ≠ tb := fun z => nt ps (Option.some.inj (e.symm.trans (z ▸ e1)))
      rw [upd_ne (ne_of_none e nc), upd_ne h1]; exact e
    have app : (ps ++ #[rawInt pos.line, rawInt pos.col, .ref c']).toList = ps.toList ++ [rawInt pos.line, rawInt pos.col, .ref c'] := by simp
    refine h g.objs.size c' _ ctv _ _ J ⟨keep, fun p hp => ?_, fun b z => none_upd (none_upd z)⟩ (Heap.get?_push_size _ rfl) ⟨?_, newF big⟩ upd_same
    · by_cases hb : p.1 = tb
      · rw [uT p hp hb, hb]
        refine ⟨_, by rw [upd_ne (ne_of_none e1 nc)]; exact upd_same, by rw [app]; exact PySem.TriplesOk_snoc _ _ _ _ e2, fun pp cv z => ?_⟩
        rw [app] at z
        rcases among_app _ e2 z with z | z
        · obtain ⟨c0, f1, f2⟩ := e3 pp cv z
          exact ⟨c0, f1, keep _ _ f2 codeO_ne⟩
        · exact ⟨c', z, upd_same⟩
      · obtain ⟨qs, f1, f2, f3⟩ := hT p hp
        refine ⟨qs, by rw [upd_ne (ne_of_none f1 nc), upd_ne hb]; exact f1, f2, fun pp cv z => ?_⟩
        obtain ⟨c0, f4, f5⟩ := f3 pp cv z
        exact ⟨c0, f4, keep _ _ f5 codeO_ne⟩
    · have h1 := Heap.lt_size onH
      have n1 : g.objs.size ≠ c' := by omega
      have n2 : g.objs.size ≠ tb := Nat.ne_of_gt (Nat.lt_of_lt_of_le h1 big)
      rw [upd_ne n1, upd_ne n2]
      exact I.hok.fresh big
/-- what is heard: nothing -/
abbrev noX : XK := fun _ _ _ => False
/-- x() in the def that got the lambda, which was made where I stands -/
theorem pe_actN {CX : CXT} {Ng : List Str} {qg : Str} {sg : Scope} {g f c' : Addr} {cdg pm ctv : Value} {params : Arguments} {body : Expr} {scope : Scope} {k i : Nat} {a : Str} {tb : TE} {p1 p2 : Pos} {Z : Cx}
    (hZ : Z = (cxOf CX X.prog X.w X.K X.mg X.base Ng qg sg g cdg X.A X.stack s H noX).nox)
    (I : Inv X pins σ H s) (L : LamS X.env.scope scope) (of0 : s.heap.get? f = some (PySem.W.kla_obj "<lambda>" (lamN X) params body scope (cloFrom X.env.cells scope.names []) pm c' ctv)) (nf : H f = none) (ns : f ∉ frs X.stack)
    (hb : bindArgs (PySem.W.kla_fn "<lambda>" (lamN X) params body scope (cloFrom X.env.cells scope.names []) pm (.ref c') ctv) ⟨[], []⟩ = pure []) (hr : Room (k + 1) (X.A.deeper (envOfC qg sg s.heap.objs.size g cdg))) (hg : X.A.guards = some [])
    (run : ∀ (A : Around) (outer : List Env) (s : Shared) (H : Hp), A.guards = some [] → Room k (A.deeper (lamEnv X scope s.heap.objs.size f c')) → PE (lamCx X A outer s H noX scope f c') body tb)
    (hN : Ng[i]? = some a) (hv : Vis sg a) (hd : (a == ("__debug__" : Str)) = false) (hcd : (a == ("__classdict__" : Str)) = false) :
    PE Z (.Call (.Name a p1) [] [] p2) (fun σZ HZ Q => σZ[i]? = some (some (.ref f)) ∧ HZ c' = some (CodeO c' (lamN X)) ∧ tb σ HZ Q) := by
  subst hZ
  refine ⟨fun pZ sZ σZ HZ Q J ⟨h1, h2, h3⟩ => ?_⟩
  refine wpAny_Call_Name_kw (thn ((pe_var (pos := p1) (i := i) hN hv hd hcd).run pZ sZ σZ HZ (fun v K1 => v = .ref f ∧ K1 = HZ) J ⟨.ref f, h1, rfl, rfl⟩) fun u t ⟨v, K1, J1, r1, ev, eH⟩ => ?_)
  subst ev eH
  obtain rfl : u = Value.ref f := r1
  have of1 : t.heap.get? f = some (PySem.W.kla_obj "<lambda>" (lamN X) params body scope (cloFrom X.env.cells scope.names []) pm c' ctv) := J1.base.keep f _ of0 nf ns fun z => List.not_mem_nil z
  obtain ⟨⟨oc, vs, tt, q1, q2, q3⟩, -, -⟩ := J1.hok c' _ h2
  refine PySem.W.callWith_F0 ⟨_, _, _, _, of1⟩ ?_
  generalize hA : X.A.deeper (envOfC qg sg s.heap.objs.size g cdg) = A1 at hr
  have gA : A1.guards = some [] := by rw [← hA]; exact hg
  have act : codeAny (model X.prog X.w) A1 (.call (.ref f) ⟨[], []⟩) (CR (L2.CX X.prog X.w) (envOfC qg sg s.heap.objs.size g cdg :: X.stack) X.prog X.w K1 t Q noX) t := by
    refine PySem.W.kla_callFunE hr.depth of1 rfl L.co L.gen rfl ⟨c', oc, vs, tt, rfl, q1, q2, q3⟩ ?_
    rw [hb]
    refine wpAny_pure (wpAny_newFunctionEnv (fun y hy => (L.own y hy).2) (fun y hy => absurd hy List.not_mem_nil) (fun h₁ hn sb => ⟨J1.nolimit.fresh _ sb, ?_⟩) L.kind)
    have kp : ∀ b o, t.heap.get? b = some o → h₁.get? b = some o := fun b o e => sb.extBut b o (Nat.ne_of_lt (Heap.lt_size e)) (Heap.get?_push_of_some _ e)
    have un : Un (frs X.stack) [] H K1 s.heap t.heap := J1.base
    have J2 : Inv (lamCx X A1 (envOfC qg sg s.heap.objs.size g cdg :: X.stack) t K1 noX scope f c') [] σ K1 { t with heap := h₁, toks := t.toks + ([] : List (Str × Value)).length } := by
      have e0 := J1.env0
      have hd0 := hr.hd
      rw [← hA] at hd0 ⊢
      exact lam_start2 I L e0 hd0 un hn kp
    refine PySem.W.kla_codeExpr (wpAny_mono ((run A1 _ t K1 gA (hr.deeper _)).run [] _ _ K1 Q J2 h3) (fun v t2 ⟨w2, K2, J3, rv, q⟩ => ⟨w2, K2, J3.os, J3.bare, J3.base, J3.hok, rv, q⟩) fun e t2 hq => hq)
  subst hA
  refine wpAny_call (codeAny_mono act fun r t2 hq => ?_)
  match r, hq with
  | .error e, hq =>
    obtain ⟨_, _, _, _, _, _, _, _, _, _, _, _, z⟩ := hq
    exact z.elim
  | .ok (.ret u), hq => exact J1.after hq
  | .ok .next, hq => exact hq.elim
  | .ok .brk, hq => exact hq.elim
  | .ok .cont, hq => exact hq.elim
end
/-- the reading of f(lambda: body): a tuple of two None is made, the body is walked, a tuple of None and what it comes to is made -/
def tHeard (tb : TE) : TE := fun σ H Q => Tabs TabInfo.T H ∧ ∀ H1, (ExtN H H1 ∧ Tabs TabInfo.T H1 ∧ ∀ b, H1 b = none → H b = none) → ∀ p, H1 p = none → tb σ (upd H1 p (.tup [.non, .non])) fun v H2 => ∀ p2, H2 p2 = none → Q (.ref p2) (upd H2 p2 (.tup [.non, v]))
section
variable {K : PySem.W.Frag} {mg : Str → Option Value} {W W0 : WX} {P P' P1 P2 : Addr → Prop} {H H' H1 H0 H2 : Hp} {σ σ' σ1 : L2.St} {E E' E1 E0 : SE} {Q : VK}
theorem Good.extN (g : Good K P H σ E) (e : ExtN H H1) (t : Tabs TabInfo.T H1) (n : ∀ b, H1 b = Option.none → H b = Option.none) : Good K P H1 σ E where
  len := g.len
  dom := fun a p => by
    obtain ⟨o, eo⟩ := g.dom a p
    cases q : H1 a with
    | none => rw [n a q] at eo; cases eo
    | some u => exact ⟨u, rfl⟩
  val := fun i d e1 => let ⟨v, e2, r⟩ := g.val i d e1; ⟨v, e2, r.keep fun a o ea na _ => e a o ea na⟩
  own := fun i d e1 => let ⟨v, e2, r⟩ := g.own i d e1; ⟨v, e2, r.keep fun a o ea na _ => e a o ea na⟩
  dis := g.dis
  inj := g.inj
  tab := t
theorem Lnk.extN (e : ExtN H H1) (n : ∀ b, H1 b = Option.none → H b = Option.none) : Lnk P σ E H P σ E H1 := ⟨fun a o ea na _ => e a o ea na, fun _ h => .inl h, fun _ h => .inl h, n⟩
theorem te_heard {m : M Sl} (h : TEof K mg W (heardS m) σ H Q) : tHeard (TEof K mg W0 m) σ H Q := by
  obtain ⟨P, E, g, h⟩ := h
  refine ⟨g.tab, fun H1 ⟨e1, e2, e3⟩ p hp => ?_⟩
  have g1 := (g.extN e1 e2 e3).ext (ext_upd (o := .tup [.non, .non]) hp)
  have l1 : Lnk P σ E H P σ E (upd H1 p (.tup [.non, .non])) := (Lnk.extN e1 e3).trans (Lnk.ext (ext_upd hp))
  refine ⟨P, E, g1, ?_⟩
  unfold heardS at h
  cases e : m E with
  | bad => rw [e] at h; exact h.elim
  | exc C x E1 => rw [e] at h; exact h.elim
  | ok s E1 =>
    rw [e] at h
    intro v H2 g2 l2 r2 n2 p2 hp2
    have rv : RepB K H2 (Fz P σ E1) v s.d := r2.frz0 g2 n2
    have hq : ∀ a, Pl P (.ref p2) (.val (.tup [.non, s.d])) a → Pl P v s a := fun a z => z.elim .inl False.elim
    have ex := ext_upd (o := .tup [.non, v]) hp2
    refine h (.ref p2) _ ((g2.ext ex).less hq) (((l1.trans l2).trans (Lnk.ext ex)).less hq) ?_ fun a z => z.elim
    have rt : RepB K (upd H2 p2 (.tup [.non, v])) (Fz P σ E1) (.ref p2) (.tup [.non, s.d]) := RepB.tup (SqT.of upd_same) (.cons .non (.cons (rv.keep (Kp.of ex)) .nil))
    exact rt.mono fun a z => ⟨fun q => z.1 (q.elim id False.elim), z.2⟩
end
/-- the rule of _law_heard, in the context X -/
def noPar (a : Arguments) : Bool := a.posonlyargs.isEmpty && a.args.isEmpty && a.vararg.isNone && a.kwonlyargs.isEmpty && a.kw_defaults.isEmpty && a.kwarg.isNone && a.defaults.isEmpty
def hdN : Str := "_law_heard"
structure HdR (X : Cx) (k : Nat) : Prop where
  rule : ∀ {params : Arguments} {body : Expr} {scope : Scope} {p lpos pos : Pos} {tb : TE}, Gl X hdN → lamSB X.env.scope scope = true → noPar params = true → (∀ σ H (Q Q' : VK), (∀ v H, Q v H → Q' v H) → tb σ H Q → tb σ H Q') →
    (∀ (A : Around) (outer : List Env) (s : Shared) (H : Hp) (f c' : Addr), A.guards = some [] → Room k (A.deeper (lamEnv X scope s.heap.objs.size f c')) → PE (lamCx X A outer s H noX scope f c') body tb) →
    PE X (.Call (.Name hdN p) [.Lambda params body scope lpos] [] pos) (tHeard tb)
end Lw
end

section
set_option Elab.async false
set_option linter.all false
set_option maxRecDepth 100000
set_option maxHeartbeats 4000000
/-! L15: the checker: a text's tree against the IR -/
namespace Lw
open PySem L2
variable [TabInfo]

structure Ck where
  N : List Str
  sc : Scope
  fs : List FnE
  cs : List Str
  bl : List Str
  st : List Nat
  cell : Bool
  hd : Bool

structure Ck.Ok (c : Ck) (X : Cx) (k : Nat) (Φ : Nat → M Sl) (C : Nat → D) (W : WX) : Prop where
  N : X.N = c.N
  nd : c.N.Nodup
  sc : X.env.scope = c.sc
  kind : c.sc.kind = .function
  calm : X.calm = true
  fn : c.cell = true → ∀ x, X.fn x = true
  room : Room k X.A
  gd : X.A.guards = some []
  tk : Takes X W
  pass : PassesOwn (model X.prog X.w) X.A X.env X.xe
  fs : ∀ i e, c.fs[i]? = some e → FnH X.prog X.w X.K X.mg X.base k e (Φ i)
  cs : ∀ i n, c.cs[i]? = some n → ∃ v u, X.mg n = some u ∧ RelV v u ∧ ∀ H, RepB X.K H (fun _ => False) v (C i)
  bl : ∀ n ∈ c.bl, X.mg n = none
  hd : c.hd = true → ∃ j, HdR X j ∧ ∀ i e, c.fs[i]? = some e → FnH X.prog X.w X.K X.mg X.base j e (Φ i)

def okN (x : Str) : Bool := !(x == ("__debug__" : Str)) && !(x == ("__classdict__" : Str)) && !(x == ("__name__" : Str))
def glB (c : Ck) (x : Str) : Bool := okN x && c.sc.names.lookup x == some .globalImplicit
def visB (c : Ck) (i : Nat) (x : Str) : Bool := okN x && c.N[i]? == some x && (match c.sc.names.lookup x with | some .local => true | some .cell => true | some .free => true | _ => false)
def locB (c : Ck) (i : Nat) (x : Str) : Bool := c.N[i]? == some x && c.st.contains i && (match c.sc.names.lookup x with | some .local => true | some .cell => c.cell | _ => false)
def notStar : Expr → Bool
  | .Starred _ _ => false
  | _ => true
def tyNames : List String := ["int", "str", "bool", "tuple", "list", "dict"]
def notCall : Expr → Bool
  | .Call .. => false
  | _ => true
def plainIx : Expr → Bool
  | .Slice .. => false
  | _ => true
def plainT : Expr → Bool
  | .UnaryOp .. => false
  | .BoolOp .. => false
  | .IfExp .. => false
  | .Compare .. => false
  | _ => true
def notComp : Expr → Bool
  | .ListComp .. => false
  | .SetComp .. => false
  | .DictComp .. => false
  | _ => true
def notSet : Expr → Bool
  | .Set .. => false
  | _ => true
def notTup : Expr → Bool
  | .Tuple .. => false
  | _ => true
mutual
def chkG (c : Ck) : Tgt → Expr → Bool
  | .nm i => fun e => match e with
    | .Name x _ => locB c i x
    | _ => false
  | .tup ts => fun e => match e with
    | .Tuple es _ _ => chkGs c ts es
    | _ => false
def chkGs (c : Ck) : List Tgt → List Expr → Bool
  | [] => fun es => es.isEmpty
  | t :: ts => fun es => match es with
    | e :: es => notStar e && chkG c t e && chkGs c ts es
    | [] => false
end
/-- a tuple display that stores nothing in another order -/
def plainAsg (c : Ck) : List Expr → Expr → Bool
  | ts, .Tuple vs _ _ => vs.all (foldedForSure 8) || !(ts.length == 2 || ts.length == 3) || vs.length != ts.length || ts.any fun e => match e with
    | .Name x _ => c.sc.names.lookup x != some .local
    | _ => true
  | _, _ => true
def namesOf : List Expr → List Str
  | [] => []
  | .Name x _ :: r => x :: namesOf r
  | _ :: r => namesOf r
def swapAsg (c : Ck) (ts vs : List Expr) : Bool :=
  (ts.length == 2 || ts.length == 3) && vs.length == ts.length && (namesOf ts).eraseDups.length == (namesOf ts).length && vs.all notStar && !vs.all (foldedForSure 8) && !vs.all (constantsAlone 8) &&
  (ts.all fun e => match e with
    | .Name x p => c.sc.names.lookup x == some .local && p.line == (ts.head?.map (·.pos.line)).getD 0
    | _ => false)
def inner (c : Ck) (scope : Scope) (own : List Nat) : Ck := { c with sc := relS scope c.sc, st := own, cell := false, hd := false }
def lamK (c : Ck) (scope : Scope) : Ck := { c with sc := scope, st := [], cell := false, hd := false }
def ownN (c : Ck) (own : List Nat) : List (Str × Nat) := own.map fun i => (c.N.getD i "", i)
inductive Mode where
  | val | test | iter (t : Expr)
def dflt (v : Ck → Expr → Bool) : Mode → Ck → Expr → Bool
  | .val => v
  | .test => fun c e => plainT e && v c e
  | .iter _ => v
mutual
def chk : E → Mode → Ck → Expr → Bool
  | .non => dflt (fun c e => match e with
    | .Constant .none _ _ => true
    | _ => false)
  | .bl b => dflt (fun c e => match e with
    | .Constant (.bool b') _ _ => b == b'
    | _ => false)
  | .int i => dflt (fun c e => match e with
    | .Constant (.int i') _ _ => i == i'
    | _ => false)
  | .str x => dflt (fun c e => match e with
    | .Constant (.str x') _ _ => x == x'
    | _ => false)
  | .tyc n => dflt (fun c e => match e with
    | .Name x _ => tyNames.contains n && x == (n : Str) && glB c x && c.bl.contains x
    | _ => false)
  | .cst i => dflt (fun c e => match e with
    | .Name x _ => c.cs[i]? == some x && glB c x
    | _ => false)
  | .var i => dflt (fun c e => match e with
    | .Name x _ => visB c i x
    | _ => false)
  | .fz i => dflt (fun c e => match e with
    | .Name x _ => visB c i x
    | _ => false)
  | .mv i => dflt (fun c e => match e with
    | .Name x _ => visB c i x
    | _ => false)
  | .bop o a b => dflt (fun c e => match e with
    | .BinOp x o' y _ => o == o' && chk a .val c x && chk b .val c y
    | _ => false)
  | .cmp o a b => fun m => match m with
    | .test => (fun c e => match e with
    | .Compare x [o'] [y] _ => o == o' && notSet y && chk a .val c x && chk b .val c y
    | _ => false)
    | _ => (fun c e => match e with
    | .Compare x [o'] [y] _ => o == o' && notSet y && chk a .val c x && chk b .val c y
    | _ => false)
  | .chn o p a b d => fun m => match m with
    | .test => (fun c e => match e with
    | .Compare x [o', p'] [y, z] _ => o == o' && p == p' && notSet z && chk a .val c x && chk b .val c y && chk d .val c z
    | _ => false)
    | _ => (fun c e => match e with
    | .Compare x [o', p'] [y, z] _ => o == o' && p == p' && notSet z && chk a .val c x && chk b .val c y && chk d .val c z
    | _ => false)
  | .neg a => dflt (fun c e => match e with
    | .UnaryOp .USub x _ => chk a .val c x
    | _ => false)
  | .andV a b => fun m => match m with
    | .test => (fun c e => match e with
    | .BoolOp .And (x :: y :: r) p => chk a .test c x && (if r.isEmpty then chk b .test c y else chk b .test c (.BoolOp .And (y :: r) p))
    | _ => false)
    | _ => (fun c e => match e with
    | .BoolOp .And (x :: y :: r) p => chk a .val c x && (if r.isEmpty then chk b .val c y else chk b .val c (.BoolOp .And (y :: r) p))
    | _ => false)
  | .orV a b => fun m => match m with
    | .test => (fun c e => match e with
    | .BoolOp .Or (x :: y :: r) p => chk a .test c x && (if r.isEmpty then chk b .test c y else chk b .test c (.BoolOp .Or (y :: r) p))
    | _ => false)
    | _ => (fun c e => match e with
    | .BoolOp .Or (x :: y :: r) p => chk a .val c x && (if r.isEmpty then chk b .val c y else chk b .val c (.BoolOp .Or (y :: r) p))
    | _ => false)
  | .notV a => fun m => match m with
    | .test => (fun c e => match e with
    | .UnaryOp .Not x _ => chk a .test c x
    | _ => false)
    | _ => (fun c e => match e with
    | .UnaryOp .Not x _ => chk a .val c x
    | _ => false)
  | .ite t a b => fun m => match m with
    | .test => (fun c e => match e with
    | .IfExp w x y _ => chk t .test c w && chk a .test c x && chk b .test c y
    | _ => false)
    | _ => (fun c e => match e with
    | .IfExp w x y _ => chk t .test c w && chk a .val c x && chk b .val c y
    | _ => false)
  | .bi b as => dflt (fun c e => match e with
    | .Call (.Name x _) es [] _ => x == (b.id : Str) && glB c x && c.bl.contains x && !es.isEmpty && es.all notStar && chkAs as c es
    | _ => false)
  | .ty b as => dflt (fun c e => match e with
    | .Call (.Name x _) es [] _ => x == (b.id : Str) && glB c x && c.bl.contains x && !es.isEmpty && es.all notStar && chkAs as c es
    | _ => false)
  | .mth m a as => dflt (fun c e => match m, as, e with
    | .upper, [], .Call (.Attribute o n ap) [] [] cp => n == ("upper" : Str) && ap.endLine == cp.line && notCall o && chk a .val c o
    | _, _, _ => false)
  | .idx a b => dflt (fun c e => match e with
    | .Subscript x y _ => plainIx y && chk a .val c x && chk b .val c y
    | _ => false)
  | .slc a lo hi => dflt (fun c e => match e with
    | .Subscript x (.Slice l h none _) _ => chk a .val c x && (match lo, l with
      | .non, none => true
      | .non, some _ => false
      | _, some l => chk lo .val c l
      | _, _ => false) && (match hi, h with
      | .non, none => true
      | .non, some _ => false
      | _, some h => chk hi .val c h
      | _, _ => false)
    | _ => false)
  | .rev a => dflt (fun c e => match e with
    | .Subscript x (.Slice none none (some (.UnaryOp .USub (.Constant (.int 1) _ _) _)) _) _ => chk a .val c x
    | _ => false)
  | .tup as => dflt (fun c e => match e with
    | .Tuple es _ _ => chkDs as c es
    | _ => false)
  | .lst as => dflt (fun c e => match e with
    | .List es _ => chkDs as c es
    | _ => false)
  | .star _ => dflt (fun _ _ => false)
  | .lc elt tg it ifs own => dflt (fun c e => match e with
    | .ListComp el [⟨t, i, fs, 0⟩] scope _ => blkC c.N c.sc scope (ownN c own) && tg.st.all own.contains && notSet i && chk it (.iter t) c i && chkG (inner c scope own) tg t && chkTs ifs (inner c scope own) fs && chk elt .val (inner c scope own) el
    | _ => false)
  | .call f as => dflt (fun c e => match e with
    | .Call (.Name x _) es kws _ => (match c.fs[f]? with
      | some fe => fe.name == x && (if kws.isEmpty then fe.np == es.length else kws.all (fun q => q.arg.isSome) && fe.kws.contains (es.length, kws.filterMap (·.arg)) && !es.isEmpty)
      | none => false) && glB c x && (es ++ kws.map (·.value)).all notStar && chkAs as c (es ++ kws.map (·.value))
    | _ => false)
  | .heard a => dflt (fun c e => match e with
    | .Call (.Name x _) [.Lambda params body scope _] [] _ => x == hdN && glB c x && c.hd && noPar params && LamX.lamSB c.sc scope && chk a .val (lamK c scope) body
    | _ => false)
  | .dict0 => dflt (fun _ e => match e with
    | .Dict [] [] _ => true
    | _ => false)
  | .dict1 k n => dflt (fun _ e => match e with
    | .Dict [some (.Constant (.str k') _ _)] [.Constant (.int n') _ _] _ => k == k' && n == n'
    | _ => false)
  | .dicti k b => dflt (fun _ e => match e with
    | .Dict [some (.Constant (.int k') _ _)] [.Constant (.bool b') _ _] _ => k == k' && b == b'
    | _ => false)
  | .sset a => dflt (fun c e => match e with
    | .Call (.Name x _) [.Call (.Name y _) [z] [] _] [] _ => x == ("sorted" : Str) && y == ("set" : Str) && glB c x && glB c y && c.bl.contains x && c.bl.contains y && notStar z && chk a .val c z
    | _ => false)
  | .lr1 a => dflt (fun c e => match e with
    | .Call (.Name x _) [.Call (.Name y _) [z] [] _] [] _ => x == ("list" : Str) && y == ("range" : Str) && glB c x && glB c y && c.bl.contains x && c.bl.contains y && notStar z && chk a .val c z
    | _ => false)
  | .lr2 a b => dflt (fun c e => match e with
    | .Call (.Name x _) [.Call (.Name y _) [z, z'] [] _] [] _ => x == ("list" : Str) && y == ("range" : Str) && glB c x && glB c y && c.bl.contains x && c.bl.contains y && notStar z && notStar z' && chk a .val c z && chk b .val c z'
    | _ => false)
  | .rng1 a => fun m => match m with
    | .iter t => (fun c e => match e with
    | .Call (.Name x _) [y] [] _ => x == ("range" : Str) && glB c x && c.bl.contains x && notStar y && chk a .val c y
    | _ => false)
    | _ => fun _ _ => false
  | .rng2 a b => fun m => match m with
    | .iter t => (fun c e => match e with
    | .Call (.Name x _) [y, z] [] _ => x == ("range" : Str) && glB c x && c.bl.contains x && notStar y && notStar z && chk a .val c y && chk b .val c z
    | _ => false)
    | _ => fun _ _ => false
  | .enum a => fun m => match m with
    | .iter t => (fun c e => match e with
    | .Call (.Name x _) [y] [] _ => !notTup t && x == ("enumerate" : Str) && glB c x && c.bl.contains x && notStar y && chk a .val c y
    | _ => false)
    | _ => (fun _ _ => false)
  | .zip a b => fun m => match m with
    | .iter t => (fun c e => match e with
    | .Call (.Name x _) [y, z] [] _ => !notTup t && x == ("zip" : Str) && glB c x && c.bl.contains x && notStar y && notStar z && chk a .val c y && chk b .val c z
    | _ => false)
    | _ => fun _ _ => false
def chkAs : List E → Ck → List Expr → Bool
  | [] => fun _ es => es.isEmpty
  | a :: as => fun c es => match es with
    | e :: es => chk a .val c e && chkAs as c es
    | [] => false
/-- displays' items -/
def chkDs : List E → Ck → List Expr → Bool
  | [] => fun _ es => es.isEmpty
  | a :: as => fun c es => match es with
    | e :: es => (match e with
      | .Starred e _ => (match a with
        | .star a => chk a .val c e
        | _ => false)
      | e => chk a .val c e) && chkDs as c es
    | [] => false
def chkTs : List E → Ck → List Expr → Bool
  | [] => fun _ es => es.isEmpty
  | a :: as => fun c es => match es, as with
    | [e], [] => chk a .test c e
    | _, _ => false
end
def chkE (a : E) : Ck → Expr → Bool := chk a .val
def chkT (a : E) : Ck → Expr → Bool := chk a .test
def chkI (a : E) (c : Ck) (e t : Expr) : Bool := chk a (.iter t) c e
/-- plain names, for a, b = .. -/
def chkPar (c : Ck) : List Nat → List Expr → Bool
  | [], [] => true
  | i :: is, .Name x _ :: es => locB c i x && chkPar c is es
  | _, _ => false
mutual
def chkS : S → Ck → Stmt → Bool
  | .set i e => fun c s => match s with
    | .Assign [.Name x px] v pos => locB c i x && chkE e c v && (notComp v || (match v with
      | .ListComp _ _ scope p => c.sc.names.lookup x == some .local && px.line == p.line && !(scope.names.any fun (n, k) => n == x && (k == .local || k == .cell))
      | _ => false))
    | _ => false
  | .setT tg e => fun c s => match tg, s with
    | .tup tg, .Assign [.Tuple ts _ _] v _ => chkGs c tg ts && notComp v && plainAsg c ts v && chkE e c v
    | _, _ => false
  | .par is es => fun c s => match s with
    | .Assign [.Tuple ts _ _] (.Tuple vs _ _) _ => chkPar c is ts && decide is.Nodup && (ts.length == 2 || ts.length == 3) && swapAsg c ts vs && chkAs es c vs
    | _ => false
  | .aug i o e => fun c s => match s with
    | .AugAssign (.Name x _) o' v _ => o == o' && (o == .Add || o == .Sub) && locB c i x && chkE e c v
    | _ => false
  | .sidx i k e => fun c s => match s with
    | .Assign [.Subscript (.Name x _) kx _] v _ => visB c i x && plainIx kx && notComp v && chkE k c kx && chkE e c v
    | _ => false
  | .dset i k e => fun c s => match s with
    | .Assign [.Subscript (.Name x _) kx _] v _ => visB c i x && plainIx kx && notComp v && chkE k c kx && chkE e c v
    | _ => false
  | .app i e => fun c s => match s with
    | .Expr (.Call (.Attribute (.Name x _) m ap) [v] [] cp) p => m == ("append" : Str) && ap.endLine == cp.line && visB c i x && notStar v && chkE e c v
    | _ => false
  | .ext i e => fun c s => match s with
    | .Expr (.Call (.Attribute (.Name x _) m ap) [v] [] cp) p => m == ("extend" : Str) && ap.endLine == cp.line && visB c i x && notStar v && chkE e c v
    | _ => false
  | .ex e => fun c s => match s with
    | .Expr v _ => notComp v && chkE e c v
    | _ => false
  | .ret e => fun c s => match s with
    | .Return (some v) _ => chkE e c v
    | _ => false
  | .retN => fun c s => match s with
    | .Return none _ => true
    | _ => false
  | .ite t a b => fun c s => match s with
    | .If w x y _ => chkT t c w && chkSs a c x && chkSs b c y
    | _ => false
  | .whl t a => fun c s => match s with
    | .While w x [] _ => chkT t c w && chkSs a c x
    | _ => false
  | .for_ tg it a => fun c s => match s with
    | .For t i x [] _ => notSet i && chkG c tg t && chkI it c i t && chkSs a c x
    | _ => false
  | .brk => fun c s => match s with
    | .Break _ => true
    | _ => false
  | .cnt => fun c s => match s with
    | .Continue _ => true
    | _ => false
  | .pas => fun c s => match s with
    | .Pass _ => true
    | _ => false
  | .nev => fun _ _ => true
def chkSs : List S → Ck → List Stmt → Bool
  | [] => fun _ ss => ss.isEmpty
  | a :: as => fun c ss => match ss with
    | s :: ss => chkS a c s && chkSs as c ss
    | [] => false
end
/-! ### shapes -/
theorem star_cons {e : Expr} (h : notStar e = true) (es : List Expr) (env : PySem.Env) : starEach (e :: es) env = (false, eval e env) :: starEach es env := by
  cases e <;> first | rfl | cases h
theorem star_plain {pos : Pos} (env : PySem.Env) : ∀ {es : List Expr}, es.all notStar = true → (backTo pos (starEach es env)).any (·.1) = false
  | [], _ => rfl
  | e :: es, h => by
    rw [List.all_cons, Bool.and_eq_true] at h
    rw [star_cons h.1]
    show (false || (backTo pos (starEach es env)).any (·.1)) = false
    rw [star_plain env h.2]; rfl
theorem base_of {o : Expr} {n : Str} {env : PySem.Env} {t : Sem Value} (h : notCall o = true) : attributeBase o n env t = t := by
  cases o <;> first | rfl | cases h
theorem plainIx_of {e : Expr} (h : plainIx e = true) : PlainIx e := fun o i => by
  cases e <;> first | rfl | cases h
theorem isTrue_of {e : Expr} {env : PySem.Env} (h : plainT e = true) (whole : Sem Value) : isTrue e env whole = (do let v ← whole; standAt e.pos; holding [v] (truthy v)) := by
  cases e <;> first | rfl | cases h
theorem marks_of {op : CmpOp} {e : Expr} (h : notSet e = true) : behindInMarks op e = false := by
  cases e <;> first | rfl | cases h
theorem lastMarks_of {o p : CmpOp} {y z : Expr} (h : notSet z = true) : lastMarks [o, p] [y, z] = false := by
  show behindInMarks p z = false
  exact marks_of h
theorem folded_of {e : Expr} {env : PySem.Env} (h : notSet e = true) (x : Value) : foldedSetIterable e env x = pure x := by
  cases e <;> first | rfl | cases h
theorem noswap_of {e : Expr} {t : Option Expr} {l : Nat} {env : PySem.Env} (h : notComp e = true) : swapsWith e t l env = pure false := by
  cases e <;> first | rfl | cases h
theorem assign_cons {e : Expr} {es : List Expr} {env : PySem.Env} (h : notStar e = true) : assignEach (e :: es) env = (false, assign e env) :: assignEach es env := by
  cases e <;> first | rfl | cases h
end Lw
end

section
set_option Elab.async false
set_option linter.all false
set_option maxRecDepth 100000
set_option maxHeartbeats 4000000
/-! L16: readings of the composed expressions -/
namespace Lw
open PySem L2
variable [TabInfo]
section
variable {K : PySem.W.Frag} {mg : Str → Option Value} {W : WX} {P P' P1 P2 : Addr → Prop} {H H' H1 H0 H2 : Hp} {σ σ' σ1 : L2.St} {E E' E1 E0 : SE} {Q : VK}
theorem isEmpty_len {α β : Type} {xs : List α} {ys : List β} (h : xs.length = ys.length) : (!xs.isEmpty) = !ys.isEmpty := by
  cases xs <;> cases ys <;> simp at h ⊢
theorem truth_ok {T : Addr → Prop} {v : V} {d : D} {b : Bool} (h : TopB K H T v d) (e : truthD d = some b) : TruV K v H b := by
  unfold truthD at e
  split at e
  · have := h.non; subst this; cases e; rfl
  · have := h.bl; subst this; cases e; rfl
  · have := h.int; subst this; cases e; rfl
  · have := h.str; subst this
    split at e
    · cases e; exact ⟨by assumption, rfl⟩
    · cases e
  · obtain ⟨p, vs, rfl, h1, h2⟩ := h.lst
    cases e
    refine .inl ⟨vs, SqL.of h1, ?_⟩
    rw [isEmpty_len h2.length]
  · obtain ⟨p, vs, rfl, h1, h2⟩ := h.tup
    cases e
    refine .inr (.inl ⟨vs, h1, ?_⟩)
    rw [isEmpty_len h2.length]
  · obtain ⟨p, rfl, h1⟩ := h.scr
    cases e
    refine .inl ⟨_, h1.sq, ?_⟩
    rename_i ns
    cases ns <;> rfl
  · obtain ⟨p, vs, rfl, h1, h2, h3⟩ := h.dk
    cases e
    refine .inr (.inr ⟨_, h1, ?_⟩)
    rename_i ks _
    cases ks with
    | nil => simp
    | cons k ks =>
      cases vs with
      | nil => simp at h2
      | cons v vs => simp
  · cases e
theorem truR {X : Cx} : TruR X (rTru X.K) := fun pins s σ H x v Q I rx ⟨T, d, b, h, e, q⟩ => tru_ok pins s σ H x v Q I rx ⟨b, truth_ok h e, q⟩
theorem cmpS_bl {o : CmpOp} {a b : D} {s : Sl} (h : cmpS o a b = some s) : ∃ k, s = vB k := by
  have m : ∀ {x : Option Bool} {f : Bool → Bool}, (x.map fun k => vB (f k)) = some s → ∃ k, s = vB k := fun {x f} e => by
    cases x with
    | none => cases e
    | some k => cases e; exact ⟨_, rfl⟩
  have m0 : ∀ {x : Option Bool}, x.map vB = some s → ∃ k, s = vB k := fun {x} e => by
    cases x with
    | none => cases e
    | some k => cases e; exact ⟨_, rfl⟩
  have m2 : ∀ {c : Bool} {k : Bool}, (if c = true then some (vB k) else none) = some s → ∃ k, s = vB k := fun {c k} e => by
    cases c with
    | false => cases e
    | true => cases e; exact ⟨_, rfl⟩
  unfold cmpS at h
  cases o <;> dsimp only at h
  · exact m0 h
  · exact m h
  all_goals (split at h <;> first | (cases h; exact ⟨_, rfl⟩) | cases h | exact m0 h | exact m h | exact m2 h)
/-- a comparison's truth -/
theorem cmp_tru {o : CmpOp} {x y : V} {Q : Bool → Hp → Prop} (h : r2D K (cmpS o) x y H fun x H' => rTru K x H' Q) : r2D K (cmpS o) x y H fun x H' => ∃ k, x = .bl k ∧ Q k H' := by
  obtain ⟨T, a, b, h1, h2, h3⟩ := h
  refine ⟨T, a, b, h1, h2, ?_⟩
  cases e : cmpS o a b with
  | none => rw [e] at h3; exact h3
  | some s =>
    rw [e] at h3
    obtain ⟨k, rfl⟩ := cmpS_bl e
    intro v H' ext r
    obtain ⟨T', d, b, t, e, q⟩ := h3 v H' ext r
    have hv : v = .bl k := by
      obtain ⟨S, r, _⟩ := (show RepB K H' T v (.bl k) from r)
      cases r; rfl
    subst hv
    refine ⟨k, rfl, ?_⟩
    obtain ⟨S, t, _⟩ := t
    cases t with
    | sc t _ =>
      cases t
      cases e
      exact q
theorem tt_cmp {o : CmpOp} {oa ob : Opd} {Q : Bool → Hp → Prop} (h : tOp (r2D K (cmpS o)) (tOpd K mg W oa) (tOpd K mg W ob) σ H fun x H1 => rTru K x H1 Q) : tTest (tOp (r2D K (cmpS o)) (tOpd K mg W oa) (tOpd K mg W ob)) σ H Q :=
  op_mono h fun x H1 h => op_mono h fun y H2 h => cmp_tru h
/-- a < b < c -/
theorem te_chn {o o' : CmpOp} {oa ob oc : Opd} (h : TEof K mg W (M.bind (evA [oa, ob]) fun ds => match ds with
    | [.int x, .int y] => match cmpS o (.int x) (.int y) with
      | some (.val (.bl true)) => M.bind (evA [oc]) fun es => M.opt (match es with | [.int z] => cmpS o' (.int y) (.int z) | _ => none)
      | some (.val (.bl false)) => M.pure (vB false)
      | _ => M.bad
    | _ => M.bad) σ H Q) : tChain (r2D K (cmpS o)) (r2D K (cmpS o')) (tOpd K mg W oa) (tOpd K mg W ob) (tOpd K mg W oc) σ H Q := by
  obtain ⟨P, E, gd, h⟩ := h
  have ha := bindA (os := [oa, ob]) ppE gd h
  refine op_mono (show tOpd K mg W oa σ H _ from ha) fun v H1 hb => ?_
  refine op_mono (show tOpd K mg W ob σ H1 _ from hb) fun w H2 hc => ?_
  clear h ha hb gd
  obtain ⟨ds, P1, E1, g1, ts, h⟩ := hc
  obtain ⟨x, y, rfl⟩ : ∃ x y, ds = [.int x, .int y] := by
    rcases ds with _ | ⟨d1, _ | ⟨d2, _ | ⟨d3, r⟩⟩⟩
    · exact h.elim
    · cases d1 <;> exact h.elim
    · cases d1 <;> first | exact h.elim | (cases d2 <;> first | exact h.elim | exact ⟨_, _, rfl⟩)
    · cases d1 <;> first | exact h.elim | (cases d2 <;> exact h.elim)
  have e2 := ts.ints2
  cases e2
  obtain ⟨t1, t2⟩ : TopB K H2 (Fz P1 σ E1) (.int x) (.int x) ∧ TopB K H2 (Fz P1 σ E1) (.int y) (.int y) := by
    cases ts with
    | cons t1 ts => cases ts with
      | cons t2 ts => exact ⟨t1, t2⟩
  refine ⟨_, _, _, t1, t2, ?_⟩
  dsimp only at h
  cases e : cmpS o (.int x) (.int y) with
  | none => rw [e] at h; exact h.elim
  | some s =>
  obtain ⟨k, rfl⟩ := cmpS_bl e
  rw [e] at h
  intro z H3 ext r
  have hz : z = .bl k := by
    obtain ⟨S, r, _⟩ := (show RepB K H3 _ z (.bl k) from r)
    cases r; rfl
  refine ⟨k, hz, ?_⟩
  have h3 := ppE.step h (Lnk.ext ext) fun _ z => z
  cases k with
  | true =>
    rw [if_pos rfl]
    refine op_mono (show tOpd K mg W oc σ H3 _ from bindA (os := [oc]) ppE (g1.ext ext) h3) fun u H4 hd => ?_
    clear h3
    obtain ⟨ds, P2, E2, g2, ts2, h4⟩ := hd
    obtain ⟨zz, rfl⟩ : ∃ z, ds = [.int z] := by
      rcases ds with _ | ⟨d1, _ | ⟨d2, r⟩⟩
      · exact h4.elim
      · cases d1 <;> first | exact h4.elim | exact ⟨_, rfl⟩
      · cases d1 <;> exact h4.elim
    obtain ⟨t3⟩ : Nonempty (PLift (TopB K H4 (Fz P2 σ E2) u (.int zz))) := by
      cases ts2 with
      | cons t3 ts => exact ⟨⟨t3⟩⟩
    refine ⟨_, _, _, (RepB.int (K := K) (H := H4) (T := Fz P2 σ E2) y).top, t3.down, ?_⟩
    dsimp only at h4
    cases e3 : cmpS o' (.int y) (.int zz) with
    | none => rw [e3] at h4; exact h4.elim
    | some s =>
      rw [e3] at h4
      intro q H5 ext5 pr
      exact post_of g2 g2 Lnk.refl (fun _ z => z) ext5 pr h4
  | false =>
    rw [if_neg (by decide)]
    exact ok_val (g1.ext ext) (.bl false) h3
/-! ### slices -/
def partV : Bool → V → Option (Option Int)
  | true, .non => some none
  | false, .int i => some (some i)
  | _, _ => none
theorem part_of {T : Addr → Prop} {b : Bool} {v : V} {d : D} {lo : Option Int} (t : TopB K H T v d) (e : partD b d = some lo) : partV b v = some lo := by
  unfold partD at e
  split at e
  · have := t.non; subst this; cases e; rfl
  · have := t.int; subst this; cases e; rfl
  · cases e
theorem te_part {b : Bool} {o : Opd} {G : VK} (h : tOpd K mg W (partO b o) σ H G) : tOpd K mg W o σ H fun v H1 => ∃ lo, partV b v = some lo ∧ G v H1 :=
  op_mono (te_op1 (f := fun d => (partD b d).map fun _ => .val d) h) fun v H1 ⟨T, d, t, q⟩ => by
    dsimp only at q
    cases e : partD b d with
    | none => rw [e] at q; exact q.elim
    | some lo =>
      rw [e] at q
      refine ⟨lo, part_of t e, PostP.v q ?_⟩
      unfold partD at e
      split at e
      · have := t.non; subst this; exact .non
      · have := t.int; subst this; exact .int _
      · cases e
theorem te_slc {oa ol oh : Opd} {bl bh : Bool} (h : TEof K mg W (M.bind (evA [oa, partO bl ol, partO bh oh]) fun ds => M.opt (slP bl bh ds)) σ H Q) :
    tOpd K mg W oa σ H fun x H1 => tOpd K mg W ol σ H1 fun l H2 => ∃ lo, partV bl l = some lo ∧ tOpd K mg W oh σ H2 fun u H3 => ∃ hi, partV bh u = some hi ∧ rsD K x lo hi H3 Q := by
  have h := prim_sound (ops := [oa, partO bl ol, partO bh oh]) (p := slP bl bh) (r := fun Q vs H => match vs with | [x, l, u] => ∃ lo hi, partV bl l = some lo ∧ partV bh u = some hi ∧ rsD K x lo hi H Q | _ => False) (fun vs H Q T ds ts q => by
    unfold slP at q
    split at q
    · cases ts with
      | cons t1 ts => cases ts with
        | cons t2 ts => cases ts with
          | cons t3 ts => cases ts with
            | nil =>
              split at q
              · exact ⟨_, _, part_of t2 (by assumption), part_of t3 (by assumption), T, _, t1, q⟩
              · exact q.elim
    · exact q.elim) σ H Q h
  refine op_mono (show tOpd K mg W oa σ H _ from h) fun x H1 h1 => ?_
  refine op_mono (te_part (show tOpd K mg W (partO bl ol) σ H1 _ from h1)) fun l H2 ⟨lo, e, h2⟩ => ⟨lo, e, ?_⟩
  refine op_mono (te_part (show tOpd K mg W (partO bh oh) σ H2 _ from h2)) fun u H3 ⟨hi, e2, h3⟩ => ⟨hi, e2, ?_⟩
  obtain ⟨lo', hi', e3, e4, q⟩ := h3
  rw [e] at e3; cases e3
  rw [e2] at e4; cases e4
  exact q
/-! ### displays -/
theorem disp_tup {P : Addr → Prop} {xs : List V} {ds : List D} {p : Addr} (g : Good K P H σ E) (r : RepsB K H (Fz P σ E) xs ds) (hp : H p = none) (h : PostE K mg W P σ E H Q (.ok (.val (.tup ds)) E)) : Q (.ref p) (upd H p (.tup xs)) :=
  post_of g g Lnk.refl (fun _ z => z) (ext_upd hp) (s := .val (.tup ds)) (RepB.tup (SqT.of upd_same) (r.keep (Kp.of (ext_upd hp)))) h
theorem disp_lst {P : Addr → Prop} {xs : List V} {ds : List D} {p : Addr} (g : Good K P H σ E) (r : RepsB K H (Fz P σ E) xs ds) (hp : H p = none) (h : PostE K mg W P σ E H Q (.ok (.own (.lst ds)) E)) : Q (.ref p) (upd H p (.lst xs)) :=
  post_of g g Lnk.refl (fun _ z => z) (ext_upd hp) (s := .own (.lst ds)) ⟨p, rfl, hp, OwnB.lst upd_same ((r.monoD fun b o e z => ⟨z, ne_of_none e hp⟩ : RepsB K H (fun b => Fz P σ E b ∧ b ≠ p) xs ds).keep (Kp.of (ext_upd hp)))⟩ h
theorem te_tup {Φ : Nat → M Sl} {C : Nat → D} {as : List Lw.E} (h : TEof K mg W (M.bind (evD Φ C as) fun ds => if ds.length ≤ sizeLine then M.pure (.val (.tup ds)) else M.bad) σ H Q) : tTup (tDisp K mg W Φ C as) σ H Q := by
  obtain ⟨P, E, g, h⟩ := h
  refine dispL as σ H _ ⟨P, E, g, ?_⟩
  rw [mbind] at h
  cases e : evD Φ C as E with
  | bad => rw [e] at h; exact h
  | exc Cn x E1 => rw [e] at h; exact h
  | ok ds E1 =>
    rw [e, bind_ok] at h
    intro vs H1 g1 l1 rs
    by_cases hz : ds.length ≤ sizeLine
    · rw [if_pos hz] at h
      exact ⟨by rw [rs.length]; exact hz, fun p hp => disp_tup g1 rs hp (ppE.step (r := .ok (.val (.tup ds)) E1) h l1 fun _ z => z)⟩
    · rw [if_neg hz] at h; exact h.elim
theorem te_lst {Φ : Nat → M Sl} {C : Nat → D} {as : List Lw.E} (h : TEof K mg W (M.bind (evD Φ C as) fun ds => if ds.length ≤ sizeLine then M.pure (.own (.lst ds)) else M.bad) σ H Q) : tLst (tDisp K mg W Φ C as) σ H Q := by
  obtain ⟨P, E, g, h⟩ := h
  refine dispL as σ H _ ⟨P, E, g, ?_⟩
  rw [mbind] at h
  cases e : evD Φ C as E with
  | bad => rw [e] at h; exact h
  | exc Cn x E1 => rw [e] at h; exact h
  | ok ds E1 =>
    rw [e, bind_ok] at h
    intro vs H1 g1 l1 rs
    by_cases hz : ds.length ≤ sizeLine
    · rw [if_pos hz] at h
      exact ⟨by rw [rs.length]; exact hz, fun p hp => disp_lst g1 rs hp (ppE.step (r := .ok (.own (.lst ds)) E1) h l1 fun _ z => z)⟩
    · rw [if_neg hz] at h; exact h.elim
/-- a new object of one's own -/
theorem te_new {d : D} (h : TEof K mg W (M.pure (.own d)) σ H Q) {p : Addr} {H' : Hp} (hp : H p = none) (ext : ∀ a o, H a = some o → H' a = some o) (r : ∀ T, OwnB K H' T p d) : Q (.ref p) H' := by
  obtain ⟨P, E, g, h⟩ := h
  exact post_of g g Lnk.refl (fun _ z => z) ext (s := .own d) ⟨p, rfl, hp, r _⟩ h
theorem te_dict0 (h : TEof K mg W (M.pure (.own (.dk [] []))) σ H Q) : tDNewK σ H Q := fun p hp =>
  te_new h hp (ext_upd hp) fun T => ⟨[], .dk (vs := []) upd_same rfl .nil, fun _ z => nomatch z⟩
theorem te_dict1 {k : Str} {n : Int} (h : TEof K mg W (M.pure (.own (.dk [.inr k] [.int n]))) σ H Q) : L2.tDisp [(tC (.str k), tC (.int n))] σ H Q := fun p hp => by
  refine ⟨upd_same, [(.inr k, .int n)], rfl, by simp, ?_⟩
  refine te_new h hp (fun a o e => ?_) fun T => ⟨[], .dk (vs := [.int n]) upd_same rfl (.cons (.int n) .nil), fun _ z => nomatch z⟩
  have hne : a ≠ p := ne_of_none e hp
  rw [upd_ne hne, upd_ne hne]; exact e
theorem te_dicti {k : Int} {n : Bool} (h : TEof K mg W (M.pure (.own (.dk [.inl k] [.bl n]))) σ H Q) : L2.tDisp [(tC (.int k), tC (.bl n))] σ H Q := fun p hp => by
  refine ⟨upd_same, [(.inl k, .bl n)], rfl, by simp, ?_⟩
  refine te_new h hp (fun a o e => ?_) fun T => ⟨[], .dk (vs := [.bl n]) upd_same rfl (.cons (.bl n) .nil), fun _ z => nomatch z⟩
  have hne : a ≠ p := ne_of_none e hp
  rw [upd_ne hne, upd_ne hne]; exact e
theorem te_sset {P : Program} {w : World} {o : Opd} (h : TEof K mg W (M.bind (evA [o]) fun ds => M.opt (match ds with | [x] => ssetS x | _ => none)) σ H Q) :
    tCB (rSortedT K P w) (tCons (tCB (rSetOfT K P w) (tCons (tOpd K mg W o) tNil)) tNil) σ H Q :=
  op_mono (te_op1 h) fun x H1 ⟨T, d, t, q⟩ => by
    unfold ssetS at q
    split at q
    · rename_i xs
      cases ep : prsOf xs with
      | none => rw [ep] at q; exact q.elim
      | some ps =>
        rw [ep] at q
        dsimp only at q
        split at q
        · rename_i hlen
          obtain ⟨l, vs, rfl, h1, h2⟩ := t.lst
          obtain ⟨ks, rfl, k1, k2, k3⟩ := prs_at ep h2
          have kl : ks.length = ps.length := by have := congrArg List.length k2; simpa using this
          refine ⟨l, ks, rfl, SqL.of h1, k1, by omega, fun a L ha sub cov => ?_⟩
          have ext := ext_upd (o := SetTO P w a L) ha
          have inps : ∀ p ∈ L, ∃ q ∈ ps, p.2 = prL q := fun p hp => by
            have : p.2 ∈ ks.map (·.2) := List.mem_map_of_mem (sub p hp)
            rw [k2] at this
            obtain ⟨q, hq, e⟩ := List.mem_map.mp this
            exact ⟨q, hq, e.symm⟩
          refine ⟨a, L, 2, 2 ^ 31, rfl, upd_same, fun p hp => (Kp.of ext : Kp (fun _ => True) H1 _).sqT (k1 p (sub p hp)), by decide, fun p hp => ?_, fun L' p pm nd hln pw hp => ?_⟩
          · obtain ⟨q, hq, e⟩ := inps p hp
            rw [e]
            have := k3 q hq
            refine ⟨rfl, fun x hx => ?_⟩
            simp [prL] at hx
            rcases hx with rfl | rfl
            · exact this.1
            · exact this.2
          · have hpa : p ≠ a := fun e => by rw [e, upd_same] at hp; cases hp
            rw [upd_ne hpa] at hp
            -- what is sorted
            have toP : ∀ q ∈ L', ∃ r ∈ ps, q.2 = prL r := fun q hq => inps q (pm.mem_iff.mp hq)
            have getP : ∃ rs : List (Int × Int), L'.map (·.2) = rs.map prL ∧ ∀ r ∈ rs, r ∈ ps := by
              clear pm nd pw hln
              induction L' with
              | nil => exact ⟨[], rfl, fun _ z => (List.not_mem_nil z).elim⟩
              | cons q L' ih =>
                obtain ⟨rs, e1, e2⟩ := ih fun q hq => toP q (List.mem_cons_of_mem _ hq)
                obtain ⟨r, hr, e⟩ := toP q List.mem_cons_self
                exact ⟨r :: rs, by simp [e, e1], fun x hx => (List.mem_cons.mp hx).elim (fun z => z ▸ hr) (e2 x)⟩
            obtain ⟨rs, e1, e2⟩ := getP
            have srt : rs.Pairwise LtP := by
              have pw' : (L'.map (·.2)).Pairwise fun a b => TS.code (2 ^ 31) a ≤ TS.code (2 ^ 31) b := List.pairwise_map.mpr pw
              have nd' : (L'.map (·.2)).Pairwise (· ≠ ·) := nd
              rw [e1] at pw' nd'
              rw [List.pairwise_map] at pw' nd'
              refine (pw'.and nd').imp_of_mem fun {x y} hx hy z => ?_
              have bx := k3 x (e2 x hx)
              have by' := k3 y (e2 y hy)
              have bd : ∀ z : Int × Int, ((0 ≤ z.1 ∧ z.1 < 2 ^ 31) ∧ (0 ≤ z.2 ∧ z.2 < 2 ^ 31)) → TS.Bd (2 ^ 31) [z.1, z.2] := fun z hz u hu => by
                simp at hu
                rcases hu with rfl | rfl
                · exact hz.1
                · exact hz.2
              have := code_lex (bd x bx) (bd y by') z.1
              rw [LtP, ltP_iff]
              have ne : ¬ (x.1 = y.1 ∧ x.2 = y.2) := fun e => z.2 (by rw [Prod.ext e.1 e.2])
              omega
            have eq : rs = sortP ps := sorted_uniq srt sorted_sortP fun x => by
              rw [mem_sortP]
              refine ⟨e2 x, fun hx => ?_⟩
              have hk : prL x ∈ ks.map (·.2) := by rw [k2]; exact List.mem_map_of_mem hx
              obtain ⟨q, hq, e⟩ := List.mem_map.mp hk
              have := cov q hq
              rw [e] at this
              have := (pm.map (·.2)).mem_iff.mpr this
              rw [e1] at this
              obtain ⟨r, hr, e⟩ := List.mem_map.mp this
              rw [← prL_inj e]; exact hr
            subst eq
            refine q (.ref p) _ (fun b o e => ?_) ⟨p, rfl, hp, OwnB.lst upd_same (RepsB.of_get (by have := congrArg List.length e1; simpa using this) fun i v d ev ed => ?_)⟩
            · have n1 : b ≠ p := ne_of_none e hp
              have n2 : b ≠ a := ne_of_none e ha
              rw [upd_ne n1, upd_ne n2]; exact e
            · rw [List.getElem?_map] at ev ed
              cases ei : L'[i]? with
              | none => rw [ei] at ev; cases ev
              | some q0 =>
                rw [ei] at ev
                cases ev
                cases er : (sortP ps)[i]? with
                | none => rw [er] at ed; cases ed
                | some r =>
                  rw [er] at ed
                  cases ed
                  have h0 : (L'.map (·.2))[i]? = ((sortP ps).map prL)[i]? := by rw [e1]
                  rw [List.getElem?_map, List.getElem?_map, ei, er] at h0
                  have h0 : q0.2 = prL r := by simpa using h0
                  have sq := k1 q0 (sub q0 (pm.mem_iff.mp (List.mem_of_getElem? ei)))
                  have ex2 : ∀ b o, H1 b = some o → upd (upd H1 a (SetTO P w a L)) p (.lst (L'.map fun q => V.ref q.1)) b = some o := fun b o e => by
                    have n1 : b ≠ p := ne_of_none e hp
                    have n2 : b ≠ a := ne_of_none e ha
                    rw [upd_ne n1, upd_ne n2]; exact e
                  have sq := (Kp.of ex2 : Kp (fun _ => True) H1 _).sqT sq
                  rw [h0] at sq
                  exact RepB.tup sq (.cons (.int _) (.cons (.int _) .nil))
        · exact q.elim
    · exact q.elim
def tRev2 (K : PySem.W.Frag) (te : TE) : TE := fun σ H Q => te σ H fun x H1 => ∃ a xs, x = .ref a ∧ ((SqL K H1 a xs ∧ ∀ p, H1 p = none → Q (.ref p) (upd H1 p (.lst xs.reverse))) ∨ (SqT K H1 a xs ∧ ∀ p, H1 p = none → Q (.ref p) (upd H1 p (.tup xs.reverse))))
theorem te_rev {o : Opd} (h : TEof K mg W (M.bind (evA [o]) fun ds => M.opt (match ds with | [x] => revS x | _ => none)) σ H Q) : tRev2 K (tOpd K mg W o) σ H Q :=
  op_mono (te_op1 h) fun x H1 ⟨T, d, t, q⟩ => by
    cases d with
    | lst xs =>
      obtain ⟨p, vs, rfl, h1, h2⟩ := t.lst
      exact ⟨p, vs, rfl, .inl ⟨SqL.of h1, fun a ha => PostP.newLst q ha h2.reverse⟩⟩
    | tup xs =>
      obtain ⟨p, vs, rfl, h1, h2⟩ := t.tup
      exact ⟨p, vs, rfl, .inr ⟨h1, fun a ha => PostP.newTup q ha h2.reverse⟩⟩
    | _ => exact q.elim
theorem te_upper {o : Opd} (h : TEof K mg W (M.bind (evA [o]) fun ds => M.opt (mtP .upper ds)) σ H Q) : tM0 (fun x xs H Q => ∃ a, x = .str a ∧ xs = [] ∧ a.length ≤ 5592405 ∧ Q (.str (Txt.upper a)) H) (tOpd K mg W o) σ H Q := by
  have h := prim_sound (ops := [o]) (p := mtP .upper) (r := fun Q vs H => match vs with | [x] => r1D K (fun d => mtS .upper d []) x H Q | _ => False) (fun vs H Q T ds ts q => by
    cases ts with
    | nil => exact q.elim
    | cons t1 ts =>
      cases ts with
      | nil => exact ⟨T, _, t1, q⟩
      | cons t2 ts => rename_i v1 d1 v2 d2 l1 l2; cases d1 <;> exact q.elim) σ H Q h
  refine op_mono (show tOpd K mg W o σ H _ from h) fun x H1 ⟨T, d, t, q⟩ => ?_
  cases d with
  | str z =>
    have := t.str; subst this
    simp only [mtS] at q
    split at q
    · rename_i hz
      exact ⟨⟨z, rfl⟩, z, rfl, rfl, hz, PostP.v q (.str _)⟩
    · exact q.elim
  | _ => exact q.elim
theorem te_neg {o : Opd} (h : TEof K mg W (M.bind (evA [o]) fun ds => M.opt (match ds with | [x] => negS x | _ => none)) σ H Q) : tUn (rU fun i => .int (-i)) (tOpd K mg W o) σ H Q :=
  op_mono (te_op1 h) fun x H1 ⟨T, d, t, q⟩ => by
    cases d with
    | int i =>
      have := t.int; subst this
      exact ⟨i, rfl, PostP.v q (.int _)⟩
    | _ => exact q.elim
theorem rgV_reps {T : Addr → Prop} (a b : Int) : RepsB K H T (rgV a b) (rngD a b) := by
  unfold rgV rngD
  refine RepsB.of_get (by simp) fun i v d e1 e2 => ?_
  rw [List.getElem?_map] at e1 e2
  cases e : (List.range (b - a).toNat)[i]? with
  | none => rw [e] at e1; cases e1
  | some j =>
    rw [e] at e1 e2
    cases e1; cases e2
    exact .int _
theorem lr_ok {T : Addr → Prop} {a b : Int} {Q : VK} (q : PostP K H T Q (lrS a b)) : RgOk a b ∧ ∀ p, H p = none → Q (.ref p) (upd H p (.lst (rgV a b))) := by
  unfold lrS at q
  split at q
  · rename_i h
    exact ⟨⟨h.1.1, h.1.2, h.2.1.1, h.2.1.2, h.2.2⟩, fun p hp => PostP.newLst q hp (rgV_reps a b)⟩
  · exact q.elim
theorem te_lr1 {o : Opd} (h : TEof K mg W (M.bind (evA [o]) fun ds => M.opt (match ds with | [x] => lr1S x | _ => none)) σ H Q) : tLstRg (tRg1 (tOpd K mg W o)) σ H Q :=
  op_mono (te_op1 h) fun x H1 ⟨T, d, t, q⟩ => by
    cases d with
    | int n =>
      have := t.int; subst this
      exact ⟨n, rfl, lr_ok q⟩
    | _ => exact q.elim
theorem te_lr2 {o p : Opd} (h : TEof K mg W (M.bind (evA [o, p]) fun ds => M.opt (match ds with | [x, y] => lr2S x y | _ => none)) σ H Q) : tLstRg (tRg2 (tOpd K mg W o) (tOpd K mg W p)) σ H Q :=
  op_mono (te_op2 h) fun x H1 h => op_mono h fun y H2 ⟨T, a, b, t1, t2, q⟩ => by
    cases a with
    | int m =>
      cases b with
      | int n =>
        have := t1.int; subst this
        have := t2.int; subst this
        exact ⟨m, n, rfl, rfl, lr_ok q⟩
      | _ => exact q.elim
    | _ => exact q.elim
end
section
variable {X : Cx}
open PyProof.Rows in
/-- xs[::-1] of a list or a tuple -/
theorem pe_rev2 {e : Expr} {te : TE} {k : Nat} {p1 p2 p3 pos : Pos} (he : PE X e te) : PE X (.Subscript e (.Slice none none (some (.UnaryOp .USub (.Constant (.int 1) k p1) p2)) p3) pos) (tRev2 X.K te) := by
  refine ⟨fun pins s σ H Q I h => ?_⟩
  refine Subscript_ (thn (he.run pins s σ H _ I h) fun v s1 ⟨x, H1, I1, r1, a, xs, ex, hq⟩ => ?_)
  subst ex
  cases r1
  have one : PO X (some (.UnaryOp .USub (.Constant (.int 1) k p1) p2)) (tPart (tUn (rU fun i => .int (-i)) (tC (.int 1)))) := po_some (pe_un un_neg pe_int)
  refine wpAny_Slice (thn (po_none.run pins s1 σ H1 (fun o J => o = none ∧ J = H1) I1 ⟨rfl, rfl⟩) fun vl s2 ⟨l, H2, I2, pl, el, e2⟩ => ?_)
  subst el e2
  refine thn (po_none.run pins s2 σ H2 (fun o J => o = none ∧ J = H2) I2 ⟨rfl, rfl⟩) fun vu s3 ⟨u, H3, I3, pu, eu, e3⟩ => ?_
  subst eu e3
  refine thn (one.run pins s3 σ H3 (fun o J => o = some (-1) ∧ J = H3) I3 ⟨1, rfl, -1, rfl, rfl, rfl⟩) fun vs s4 ⟨o, H4, I4, ps, eo, e4⟩ => ?_
  subst eo e4
  have J : Inv X pins σ H4 { s4 with heap := s4.heap.push { cls := .type "slice", data := .fields #[vl, vu, vs] } } := I4.kept (t' := s4.toks) fun b ob q => Heap.get?_push_of_some _ q
  rcases hq with ⟨hx, q⟩ | ⟨hx, q⟩
  · obtain ⟨its, r, ht, hz⟩ := J.list hx
    have hl := r.length
    refine tail_any (ops := [.ref a, .ref s4.heap.objs.size]) ht.isList.typeIs (PySem.slot_list_getitem.lookup) ?_ (by with_unfolding_all rfl)
    refine wpAny_getItem_list_slice ht.isList (Heap.IsSliceOf.new _ vl vu vs) pl pu ps (by decide) ?_ (by rw [List.size_toArray]; omega)
    rw [PySem.W.krv_pick]
    refine ⟨.ref _, _, J.laid (t' := s4.toks) (o := .lst xs.reverse) (fun b ob z => Heap.get?_push_of_some _ z) (Nat.le_refl _) ?_, rfl, q _ (J.hok.fresh (Nat.le_refl _))⟩
    exact ⟨by rw [List.length_reverse]; exact hz, _, 0, r.reverse, Heap.get?_push_size _ rfl⟩
  · obtain ⟨its, r, ht, hz⟩ := J.tuple hx
    have hl := r.length
    refine tail_any (ops := [.ref a, .ref s4.heap.objs.size]) ht.typeIs (PyProof.Rows.slot_tuple_getitem.lookup) ?_ (by with_unfolding_all rfl)
    refine tup_back ht (Heap.IsSliceOf.new _ vl vu vs) pl pu ps ?_ (by rw [List.size_toArray]; omega)
    refine ⟨.ref _, _, J.laid (t' := s4.toks) (o := .tup xs.reverse) (fun b ob z => Heap.get?_push_of_some _ z) (Nat.le_refl _) ?_, rfl, q _ (J.hok.fresh (Nat.le_refl _))⟩
    exact ⟨by rw [List.length_reverse]; exact hz, _, r.reverse, IsTup.new _ _⟩
end
end Lw
end

section
set_option Elab.async false
set_option linter.all false
set_option maxRecDepth 100000
set_option maxHeartbeats 4000000
/-! L17: the checker's word is good: expressions -/
namespace Lw
open PySem L2
variable [TabInfo]
section
variable {K : PySem.W.Frag} {mg : Str → Option Value} {W : WX}
theorem tArg_mono {o : Arg} {σ : L2.St} {H : Hp} {Q Q' : VK} (h : tArg K mg W o σ H Q) (m : ∀ v H, Q v H → Q' v H) : tArg K mg W o σ H Q' := by
  cases o with
  | slot i => obtain ⟨v, e, q⟩ := h; exact ⟨v, e, m _ _ q⟩
  | ex f => exact te_mono h m
theorem tArgs_mono : ∀ (as : List Arg) {σ : L2.St} {H : Hp} {Q Q' : List V → Hp → Prop}, (∀ v H, Q v H → Q' v H) → tArgs K mg W as σ H Q → tArgs K mg W as σ H Q'
  | [], _, _, _, _, m, h => m _ _ h
  | a :: as, _, _, _, _, m, h => tArg_mono (show tArg K mg W a _ _ _ from h) fun v H1 q => tArgs_mono as (fun vs H2 q => m _ _ q) q
end
theorem okN_d {x : Str} (h : okN x = true) : (x == ("__debug__" : Str)) = false := by
  unfold okN at h; revert h; cases (x == ("__debug__" : Str)) <;> simp
theorem okN_c {x : Str} (h : okN x = true) : (x == ("__classdict__" : Str)) = false := by
  unfold okN at h; revert h; cases (x == ("__classdict__" : Str)) <;> simp
theorem okN_n {x : Str} (h : okN x = true) : x ≠ "__name__" := by
  unfold okN at h; intro e; subst e; revert h; simp
section
variable {X : Cx} {c : Ck} {k : Nat} {Φ : Nat → M Sl} {C : Nat → D} {W : WX}
theorem gl_of (o : c.Ok X k Φ C W) {x : Str} (h : glB c x = true) : Gl X x ∧ okN x = true := by
  unfold glB at h
  rw [Bool.and_eq_true] at h
  exact ⟨by show X.env.scope.names.lookup x = _; rw [o.sc]; simpa using h.2, h.1⟩
theorem pe_varO (o : c.Ok X k Φ C W) {i : Nat} {x : Str} {pos : Pos} (h : visB c i x = true) : PE X (.Name x pos) (tVar i) := by
  unfold visB at h
  simp only [Bool.and_eq_true] at h
  obtain ⟨⟨h1, h2⟩, h3⟩ := h
  refine pe_var (by rw [o.N]; simpa using h2) ?_ (okN_d h1) (okN_c h1)
  show X.env.scope.names.lookup x = _ ∨ X.env.scope.names.lookup x = _ ∨ X.env.scope.names.lookup x = _
  rw [o.sc]
  split at h3
  · exact .inl (by assumption)
  · exact .inr (.inl (by assumption))
  · exact .inr (.inr (by assumption))
  · cases h3
theorem visB_name (o : c.Ok X k Φ C W) {i : Nat} {e : Expr} (h : (match e with | .Name x _ => visB c i x | _ => false) = true) : PE X e (tVar i) := by
  cases e <;> first | exact pe_varO o h | cases h
theorem loc_of (o : c.Ok X k Φ C W) {i : Nat} {x : Str} (h : locB c i x = true) : X.N[i]? = some x ∧ L2.Loc X.env.scope x ∧ (X.fn x = true ∨ X.env.scope.names.lookup x = some .local) := by
  unfold locB at h
  simp only [Bool.and_eq_true] at h
  obtain ⟨⟨h1, h2⟩, h3⟩ := h
  refine ⟨by rw [o.N]; simpa using h1, ?_⟩
  unfold L2.Loc
  rw [o.sc]
  split at h3
  · exact ⟨.inl (by assumption), .inr (by assumption)⟩
  · exact ⟨.inr (by assumption), .inl (o.fn h3 x)⟩
  · cases h3
/-! the default forms -/
theorem opd_var {i : Nat} : opd Φ C (.var i) = .slot i := by rw [opd]
theorem opd_ex {a : E} (h : ∀ i, a ≠ .var i) : opd Φ C a = .ex (ev Φ C a) := by
  cases a <;> first | exact absurd rfl (h _) | simp only [opd]
theorem args_var {i : Nat} {r : List E} : args Φ C (.var i :: r) = .slot i :: args Φ C r := by rw [args]
theorem args_ex {a : E} {r : List E} (h : ∀ i, a ≠ .var i) : args Φ C (a :: r) = .ex (ev Φ C a) :: args Φ C r := by
  cases a <;> first | exact absurd rfl (h _) | simp only [args]
def Snd (X : Cx) (W : WX) (Φ : Nat → M Sl) (C : Nat → D) (a : E) (e : Expr) : Mode → Prop
  | .val => PE X e (TEof X.K X.mg W (ev Φ C a))
  | .test => PT X e (TTof X.K X.mg W (evT Φ C a))
  | .iter t => PI X t e (TIof X.K X.mg W (evI Φ C a))
/-- an operand by its expression -/
theorem opd_snd (o : c.Ok X k Φ C W) {a : E} {e : Expr} (h : chk a .val c e = true) (s : Snd X W Φ C a e .val) : PE X e (tOpd X.K X.mg W (opd Φ C a)) := by
  by_cases q : ∃ i, a = .var i
  · obtain ⟨i, rfl⟩ := q
    rw [opd_var]
    exact visB_name o h
  · rw [opd_ex fun i z => q ⟨i, z⟩]
    exact s
theorem pt_truthV {a : Expr} {ta : TE} {r : V → Hp → (Bool → Hp → Prop) → Prop} (ha : PE X a ta) (hr : TruR X r) (he : ∀ whole, isTrue a X.env whole = (do let v ← whole; standAt a.pos; holding [v] (truthy v))) :
    PT X a (fun σ H Q => ta σ H fun x H' => r x H' Q) :=
  ⟨fun pins s σ H Q I h => PyProof.Rows.isTrue_plain (thn (ha.run pins s σ H _ I h) fun v s1 ⟨x, H1, I1, r1, q1⟩ => hr pins s1 σ H1 x v Q I1 r1 q1) (he _)⟩
theorem dflt_snd (o : c.Ok X k Φ C W) {a : E} {e : Expr} (hc : ∀ m, chk a m = dflt (chk a .val) m) (hT : evT Φ C a = M.bind (evA [opd Φ C a]) fun ds => M.opt (match ds with | [d] => truthD d | _ => none)) (hI : evI Φ C a = M.bind (ev Φ C a) fun s => M.opt (itemsD s.d))
    (hv : chk a .val c e = true → PE X e (TEof X.K X.mg W (ev Φ C a))) : ∀ m, chk a m c e = true → Snd X W Φ C a e m
  | .val, h => hv h
  | .test, h => by
    rw [hc] at h
    have h : (plainT e && chk a .val c e) = true := h
    rw [Bool.and_eq_true] at h
    show PT X e (TTof X.K X.mg W (evT Φ C a))
    rw [hT]
    refine PT.imp (pt_truthV (opd_snd o h.2 (hv h.2)) truR fun whole => isTrue_of h.1 whole) fun σ H Q q => tt_val q
  | .iter t, h => by
    rw [hc] at h
    show PI X t e (TIof X.K X.mg W (evI Φ C a))
    rw [hI]
    exact pi_seq (hv h)
/-! calls of defs -/
theorem tArgs_app {K : PySem.W.Frag} {mg : Str → Option Value} : ∀ (l1 l2 : List Arg) {σ : L2.St} {H : Hp} {Q : List V → Hp → Prop}, tArgs K mg W (l1 ++ l2) σ H Q → tArgs K mg W l1 σ H fun vs H1 => vs.length = l1.length ∧ tArgs K mg W l2 σ H1 fun ws H2 => ws.length = l2.length ∧ Q (vs ++ ws) H2 := by
  have len : ∀ (l : List Arg) {σ : L2.St} {H : Hp} {Q : List V → Hp → Prop}, tArgs K mg W l σ H Q → tArgs K mg W l σ H fun vs H1 => vs.length = l.length ∧ Q vs H1 := by
    intro l
    induction l with
    | nil => exact fun h => ⟨rfl, h⟩
    | cons a l ih =>
      intro σ H Q h
      cases a with
      | slot i =>
        have h : tVar i σ H (fun v H1 => tArgs K mg W l σ H1 fun vs H2 => Q (v :: vs) H2) := h
        obtain ⟨v, e, q⟩ := h
        exact ⟨v, e, tArgs_mono l (fun vs H1 q => ⟨by simp [q.1], q.2⟩) (ih q)⟩
      | ex f => exact te_mono (show TEof K mg W f σ H _ from h) fun v H1 q => tArgs_mono l (fun vs H1 q => ⟨by simp [q.1], q.2⟩) (ih q)
  intro l1
  induction l1 with
  | nil => exact fun l2 σ H Q h => ⟨rfl, len l2 h⟩
  | cons a l ih =>
    intro l2 σ H Q h
    have step : ∀ {v : V} {H1 : Hp}, tArgs K mg W (l ++ l2) σ H1 (fun vs H2 => Q (v :: vs) H2) → tArgs K mg W l σ H1 fun vs H1 => (v :: vs).length = (a :: l).length ∧ tArgs K mg W l2 σ H1 fun ws H2 => ws.length = l2.length ∧ Q ((v :: vs) ++ ws) H2 :=
      fun {v H1} q => tArgs_mono l (fun vs H1 q => ⟨by simp [q.1], q.2⟩) (ih l2 q)
    cases a with
    | slot i =>
      have h : tVar i σ H (fun v H1 => tArgs K mg W (l ++ l2) σ H1 fun vs H2 => Q (v :: vs) H2) := h
      obtain ⟨v, e, q⟩ := h
      exact ⟨v, e, step q⟩
    | ex f => exact te_mono (show TEof K mg W f σ H _ from h) fun v H1 q => step q
abbrev PEs (X : Cx) (W : WX) : List Expr → List Arg → Prop := Paired fun e a => PE X e (tArg X.K X.mg W a)
theorem PEs.pa : ∀ {es : List Expr} {as : List Arg}, PEs X W es as → es.all notStar = true → PA X es (tArgs X.K X.mg W as)
  | _, _, .nil, _ => pa_nil
  | _, _, .cons h r, hs => by
    rw [List.all_cons, Bool.and_eq_true] at hs
    exact pa_cons h (PEs.pa r hs.2) (star_cons hs.1 _ _)
theorem PEs.pk : ∀ {kws : List Keyword} {as : List Arg}, PEs X W (kws.map (·.value)) as → PK X kws (tArgs X.K X.mg W as)
  | [], _, .nil => pk_nil
  | ⟨n, e, p⟩ :: kws, _, .cons h r => pk_cons h (PEs.pk r)
theorem paired_split {α β : Type} {F : α → β → Prop} : ∀ {l1 l2 : List α} {m : List β}, Paired F (l1 ++ l2) m → ∃ m1 m2, m = m1 ++ m2 ∧ Paired F l1 m1 ∧ Paired F l2 m2
  | [], l2, m, h => ⟨[], m, rfl, .nil, h⟩
  | a :: l1, l2, _, .cons h r => by
    obtain ⟨m1, m2, rfl, q1, q2⟩ := paired_split r
    exact ⟨_ :: m1, m2, rfl, .cons h q1, q2⟩
theorem paired_len {α β : Type} {F : α → β → Prop} : ∀ {l : List α} {m : List β}, Paired F l m → m.length = l.length
  | _, _, .nil => rfl
  | _, _, .cons _ r => by simp [paired_len r]
theorem kw_all {env : PySem.Env} {pos : Pos} : ∀ {kws : List Keyword}, kws.all (fun q => q.arg.isSome) = true → (backToKw pos (keywordEach kws env)).all (·.1.isSome) = true ∧ (backToKw pos (keywordEach kws env)).any (·.1.isNone) = false ∧ (backToKw pos (keywordEach kws env)).filterMap (·.1) = kws.filterMap (·.arg)
  | [], _ => ⟨rfl, rfl, rfl⟩
  | ⟨n, e, p⟩ :: kws, h => by
    rw [List.all_cons, Bool.and_eq_true] at h
    obtain ⟨q1, q2, q3⟩ := kw_all (env := env) (pos := pos) h.2
    cases n with
    | none => cases h.1
    | some n =>
      have e : backToKw pos (keywordEach (⟨some n, e, p⟩ :: kws) env) = (some n, do let v ← eval e env; standAt pos; pure v) :: backToKw pos (keywordEach kws env) := rfl
      rw [e]
      refine ⟨by rw [List.all_cons, q1]; rfl, by rw [List.any_cons, q2]; rfl, ?_⟩
      simp [q3]
theorem kw_len : ∀ {l : List Keyword}, l.all (fun q => q.arg.isSome) = true → (l.filterMap (·.arg)).length = l.length
  | [], _ => rfl
  | a :: l, h => by
    rw [List.all_cons, Bool.and_eq_true] at h
    cases e : a.arg with
    | none => rw [e] at h; cases h.1
    | some n => simp [e, kw_len h.2]
/-- f(a, .., k = b, ..) -/
theorem pe_callF {fe : FnE} {F : M Sl} {es : List Expr} {kws : List Keyword} {as : List Arg} {p pos : Pos} (fh : FnH X.prog X.w X.K X.mg X.base k fe F) (o : c.Ok X k Φ C W) (hg : Gl X fe.name) (hd : okN fe.name = true)
    (hk : (if kws.isEmpty then fe.np == es.length else kws.all (fun q => q.arg.isSome) && fe.kws.contains (es.length, kws.filterMap (·.arg)) && !es.isEmpty) = true) (ha : PEs X W (es ++ kws.map (·.value)) as) (hs : (es ++ kws.map (·.value)).all notStar = true) :
    as.length = fe.np ∧ PE X (.Call (.Name fe.name p) es kws pos) (fun σ H Q => tArgs X.K X.mg W as σ H fun vs H1 => spF X.K X.mg fe.np F vs H1 Q fun c d H' => W c d σ H') := by
  obtain ⟨f, fd, ps, hm, hkp, hb, hkb, hl, fo⟩ := fh.ex
  have hlen := paired_len ha
  cases kws with
  | nil =>
    have hn : fe.np = es.length := by simpa using hk
    simp only [List.map_nil, List.append_nil] at ha hs hlen
    refine ⟨hlen.trans hn.symm, ⟨fun pins s σ H Q I h => ?_⟩⟩
    refine wpAny_Call_Name_kw (ld_glob I hg hm ?_ (okN_d hd))
    cases es with
    | nil =>
      cases ha
      exact PySem.W.callWith_K0 I.kIn hkp (run_f (us := []) fo o.room o.gd hb (passesS o.tk σ) I .nil h)
    | cons e es =>
      have pa := PEs.pa ha hs
      rw [List.all_cons, Bool.and_eq_true] at hs
      refine PySem.W.callWith_K (h₀ := X.base) I.ok.mod.kin hkp (thn (pa.run pos pins s σ H _ I h) fun us s1 ⟨vs, H1, I1, r, q⟩ => ⟨I1.kIn, ?_⟩) (star_cons hs.1 _ _) (star_plain _ hs.2)
      exact run_f fo o.room o.gd hb (passesS o.tk σ) I1 r q
  | cons kw kws =>
    rw [if_neg (by simp)] at hk
    simp only [Bool.and_eq_true] at hk
    obtain ⟨⟨h1, h2⟩, h3⟩ := hk
    have h2 : (es.length, (kw :: kws).filterMap (·.arg)) ∈ fe.kws := by simpa using h2
    obtain ⟨b1, b2⟩ := hkb _ h2
    have hkl : ((kw :: kws).filterMap (·.arg)).length = (kw :: kws).length := kw_len h1
    obtain ⟨a1, a2, rfl, p1, p2⟩ := paired_split ha
    have l1 := paired_len p1
    have l2 := paired_len p2
    refine ⟨by rw [hlen, ← b1, List.length_append, List.length_map, hkl], ⟨fun pins s σ H Q I h => ?_⟩⟩
    rw [List.all_append, Bool.and_eq_true] at hs
    have pa := PEs.pa p1 hs.1
    have pk := PEs.pk p2
    obtain ⟨k1, k2, k3⟩ := kw_all (env := X.env) (pos := pos) h1
    refine wpAny_Call_Name_kw (ld_glob I hg hm ?_ (okN_d hd))
    cases es with
    | nil => cases h3
    | cons e es =>
      have hs1 := hs.1
      rw [List.all_cons, Bool.and_eq_true] at hs1
      refine PySem.W.callWith_KW (h₀ := X.base) I.ok.mod.kin hkp k1 (thn (pa.run pos pins s σ H _ I (tArgs_app a1 a2 h)) fun us s1 ⟨vs, H1, I1, r, hv, q⟩ => ?_) (by rw [k2, star_plain _ hs.1]; rfl) (star_cons hs1.1 _ _)
      refine thn (pk.run pos pins s1 σ H1 _ I1 q) fun ws s2 ⟨zs, H2, I2, rz, hz, q2⟩ => ⟨I2.kIn, ?_⟩
      rw [k3]
      exact run_fk fo o.room o.gd (passesS o.tk σ) I2 (b2 s2 us ws I2.kIn (by rw [← r.length, hv, l1]) (by rw [← rz.length, hz, l2, List.length_map, hkl])) (r.append rz) q2
theorem pw_bool {op : BoolOp} {vs : List Expr} {p : Pos} {t : TT} (h : PT X (.BoolOp op vs p) t) : PW X (.BoolOp op vs p) t := ⟨fun whole pins s σ H Q I q => h.run pins s σ H Q I q⟩
theorem pt_ifExp {w x y : Expr} {p : Pos} {tc ta tb : TT} (hc : PT X w tc) (ha : PT X x ta) (hb : PT X y tb) : PT X (.IfExp w x y p) (fun σ H Q => tc σ H fun c H1 => if c = true then ta σ H1 Q else tb σ H1 Q) := by
  refine ⟨fun pins s σ H Q I h => ?_⟩
  show wpAny _ _ (do if ← isTrue w X.env (eval w X.env) then isTrue x X.env (eval x X.env) else isTrue y X.env (eval y X.env)) _ _ _
  refine wpAny_bind (thn (hc.run pins s σ H _ I h) fun d s1 ⟨H1, I1, q1⟩ => ?_)
  cases d with
  | true => exact ha.run pins s1 σ H1 Q I1 q1
  | false => exact hb.run pins s1 σ H1 Q I1 q1
theorem Ck.Ok.inner (o : c.Ok X k Φ C W) {scope : Scope} {own : List Nat} {s : Shared} {H : Hp} {Cc : Addr} {cl : List (Str × Addr)} {fp : List Addr} (hk : scope.kind = .function) : (inner c scope own).Ok (X.blk s H scope (compEnvC scope cl Cc X.env) fp) k Φ C W0 where
  N := o.N
  nd := o.nd
  sc := by
    show relS scope X.env.scope = relS scope c.sc
    rw [o.sc]
  kind := hk
  calm := o.calm
  fn := fun h => by cases h
  room := o.room
  gd := o.gd
  tk := fun _ _ x => by
    obtain ⟨_, _, _, _, _, _, _, _, _, _, _, _, _, _, _, _, z⟩ := x
    exact z.elim
  pass := PassesOwn.never
  fs := o.fs
  cs := o.cs
  bl := o.bl
  hd := fun h => by cases h
theorem Ck.Ok.lam (o : c.Ok X k Φ C W) {scope : Scope} {A : Around} {outer : List PySem.Env} {s : Shared} {H : Hp} {f c' : Addr} {j : Nat} (hs : LamX.lamSB c.sc scope = true) (hg : A.guards = some []) (hr : Room j (A.deeper (LamX.lamEnv X scope s.heap.objs.size f c')))
    (fs : ∀ i e, c.fs[i]? = some e → FnH X.prog X.w X.K X.mg X.base j e (Φ i)) : (lamK c scope).Ok (LamX.lamCx X A outer s H noX scope f c') j Φ C W0 where
  N := o.N
  nd := o.nd
  sc := rfl
  kind := (LamX.lamS_by hs).kind
  calm := rfl
  fn := fun h => by cases h
  room := hr
  gd := hg
  tk := fun _ _ x => by
    obtain ⟨_, _, _, _, _, _, _, _, _, _, _, _, _, _, _, _, z⟩ := x
    exact z.elim
  pass := passes_of rfl
  fs := fs
  cs := o.cs
  bl := o.bl
  hd := fun h => by cases h
theorem bi_boot (b : Bi) : bootBuiltins (b.id : Str) = some (.builtin b.id) := by cases b <;> decide +kernel
theorem bt_boot (b : Bt) : bootBuiltins (b.id : Str) = some (.type b.id) := by cases b <;> decide +kernel
theorem ty_boot {n : String} (h : tyNames.contains n = true) : bootBuiltins (n : Str) = some (.type n) := by
  simp [tyNames] at h
  rcases h with rfl | rfl | rfl | rfl | rfl | rfl <;> decide +kernel
def ttOf (K : PySem.W.Frag) (mg : Str → Option Value) (W : WX) (Φ : Nat → M Sl) (C : Nat → D) : List E → TT
  | [] => tYes
  | a :: _ => TTof K mg W (evT Φ C a)
end
end Lw
end

section
set_option Elab.async false
set_option linter.all false
set_option maxRecDepth 100000
set_option maxHeartbeats 4000000
/-! L18: the checker's word is good: every expression -/
namespace Lw
open PySem L2
variable [TabInfo]
section
variable {K : PySem.W.Frag} {mg : Str → Option Value} {W : WX} {σ : L2.St} {H : Hp}
theorem tt_chn {o o' : CmpOp} {oa ob oc : Opd} {Q : Bool → Hp → Prop} (h : tChain (r2D K (cmpS o)) (r2D K (cmpS o')) (tOpd K mg W oa) (tOpd K mg W ob) (tOpd K mg W oc) σ H fun x H1 => rTru K x H1 Q) : tTest (tChain (r2D K (cmpS o)) (r2D K (cmpS o')) (tOpd K mg W oa) (tOpd K mg W ob) (tOpd K mg W oc)) σ H Q := by
  refine op_mono h fun x H1 h => op_mono h fun y H2 h => ?_
  obtain ⟨T, a, b, h1, h2, h3⟩ := h
  refine ⟨T, a, b, h1, h2, ?_⟩
  cases e : cmpS o a b with
  | none => rw [e] at h3; exact h3
  | some s =>
    rw [e] at h3
    intro v H' ext r
    obtain ⟨k, hv, q⟩ := h3 v H' ext r
    refine ⟨k, hv, ?_⟩
    cases k with
    | true =>
      rw [if_pos rfl] at q ⊢
      exact op_mono q fun w H4 q => cmp_tru q
    | false =>
      rw [if_neg (by decide)] at q ⊢
      obtain ⟨T, d, b, t, e, q⟩ := q
      obtain ⟨S, t, _⟩ := t
      cases t with
      | sc t _ =>
        cases t
        cases e
        exact ⟨_, rfl, q⟩
end
section
variable {X : Cx} {c : Ck} {k : Nat} {Φ : Nat → M Sl} {C : Nat → D} {W : WX}
theorem spec_snd (o : c.Ok X k Φ C W) {a : E} {e : Expr} (hc : ∀ t, chk a (.iter t) = chk a .val) (hI : evI Φ C a = M.bind (ev Φ C a) fun s => M.opt (itemsD s.d))
    (hv : chk a .val c e = true → PE X e (TEof X.K X.mg W (ev Φ C a))) (ht : chk a .test c e = true → PT X e (TTof X.K X.mg W (evT Φ C a))) : ∀ m, chk a m c e = true → Snd X W Φ C a e m
  | .val, h => hv h
  | .test, h => ht h
  | .iter t, h => by
    rw [hc] at h
    show PI X t e (TIof X.K X.mg W (evI Φ C a))
    rw [hI]
    exact pi_seq (hv h)
theorem tup_of {t : Expr} (h : (!notTup t) = true) : ∃ es kk p, t = .Tuple es kk p := by
  cases t <;> first | exact ⟨_, _, _, rfl⟩ | cases h
theorem chkTs_len {ifs : List E} {c : Ck} {es : List Expr} (h : chkTs ifs c es = true) : ifs.length ≤ 1 := by
  cases ifs with
  | nil => simp
  | cons a as =>
    rw [chkTs] at h; dsimp only at h
    split at h
    · simp
    · cases h
theorem evT_cmp {o : CmpOp} {a b : E} : evT Φ C (.cmp o a b) = M.bind (evA [opd Φ C (.cmp o a b)]) fun ds => M.opt (match ds with | [d] => truthD d | _ => none) := by rw [evT] <;> first | rfl | (intros; contradiction)
theorem evT_chn {o p : CmpOp} {a b d : E} : evT Φ C (.chn o p a b d) = M.bind (evA [opd Φ C (.chn o p a b d)]) fun ds => M.opt (match ds with | [d] => truthD d | _ => none) := by rw [evT] <;> first | rfl | (intros; contradiction)
theorem tts_of {K : PySem.W.Frag} {mg : Str → Option Value} {σ : L2.St} {H : Hp} {Q : Bool → Hp → Prop} : ∀ (ifs : List E), ifs.length ≤ 1 → TTof K mg W (lcI.allT (evTs Φ C ifs)) σ H Q → ttOf K mg W Φ C ifs σ H Q
  | [], _, h => tt_pure (by rw [evTs] at h; exact h)
  | [a], _, h => by
    rw [evTs, evTs] at h
    refine tt_mono (tt_ite (show TTof K mg W (M.bind (evT Φ C a) fun b => if b then M.pure true else M.pure false) σ H Q from h)) fun b H1 q => ?_
    cases b with
    | true => rw [if_pos rfl] at q; exact tt_pure q
    | false => rw [if_neg (by decide)] at q; exact tt_pure q
  | a :: b :: r, hl, h => by simp at hl
def PoQ (K : PySem.W.Frag) (mg : Str → Option Value) (W : WX) (b : Bool) (o : Opd) (tl : TO) : Prop := ∀ σ H (G : Option Int → Hp → Prop), (tOpd K mg W o σ H fun l H2 => ∃ lo, partV b l = some lo ∧ G lo H2) → tl σ H G
theorem po_of (o : c.Ok X k Φ C W) {lo : E} {l : Option Expr} (h : (match lo, l with
      | .non, none => true
      | .non, some _ => false
      | _, some l => chk lo .val c l
      | _, _ => false) = true) (s : ∀ l, chk lo .val c l = true → PE X l (tOpd X.K X.mg W (opd Φ C lo))) : ∃ tl, PO X l tl ∧ PoQ X.K X.mg W (isNonE lo) (opd Φ C lo) tl := by
  cases l with
  | none =>
    cases lo <;> first | cases h | skip
    refine ⟨_, po_none, fun σ H G q => ?_⟩
    rw [opd_ex (by intros; simp), ev] at q
    obtain ⟨lo, e, q⟩ := te_pure (v := .non) (fun H => .non) q
    cases e
    exact q
  | some l =>
    have hn : isNonE lo = false := by cases lo <;> first | rfl | cases h
    have h : chk lo .val c l = true := by cases lo <;> first | exact h | cases h
    refine ⟨_, po_some (s l h), fun σ H G q => op_mono q fun v H1 ⟨lo', e, q⟩ => ?_⟩
    rw [hn] at e
    unfold partV at e
    split at e
    · rename_i heq _; cases heq
    · cases e; exact ⟨_, rfl, q⟩
    · cases e
end
section
variable {X : Cx} {c : Ck} {k : Nat} {Φ : Nat → M Sl} {C : Nat → D} {W : WX}
mutual
theorem sndG : ∀ (tg : Tgt) (c : Ck) (X : Cx) (k : Nat) (W : WX) (e : Expr), c.Ok X k Φ C W → chkG c tg e = true → PG X e (tgT X.K tg)
  | .nm i, c, X, k, W, e, o, h => by
    rw [chkG] at h; dsimp only at h
    split at h
    · rw [tgT]
      obtain ⟨h1, h2, h3⟩ := loc_of o h
      exact pg_name (by rw [o.N]; exact o.nd) h1 h2 h3
    · cases h
  | .tup ts, c, X, k, W, e, o, h => by
    rw [chkG] at h; dsimp only at h
    split at h
    · rw [tgT]
      obtain ⟨h1, h2, h3⟩ := sndGs ts c X k W _ o h
      exact pg_tup o.calm h1 h2 h3
    · cases h
theorem sndGs : ∀ (ts : List Tgt) (c : Ck) (X : Cx) (k : Nat) (W : WX) (es : List Expr), c.Ok X k Φ C W → chkGs c ts es = true → PGs X es (tgT.tgTs X.K ts) ∧ (assignEach es X.env).length = ts.length ∧ (assignEach es X.env).findIdx? (·.1) = none
  | [], c, X, k, W, es, o, h => by
    rw [chkGs] at h
    cases es with
    | nil => rw [tgT.tgTs]; exact ⟨pgs_nil, rfl, rfl⟩
    | cons e es => cases h
  | t :: ts, c, X, k, W, es, o, h => by
    rw [chkGs] at h
    cases es with
    | nil => cases h
    | cons e es =>
      simp only [Bool.and_eq_true] at h
      obtain ⟨⟨h0, h1⟩, h2⟩ := h
      obtain ⟨q1, q2, q3⟩ := sndGs ts c X k W es o h2
      rw [tgT.tgTs]
      refine ⟨pgs_cons (sndG t c X k W e o h1) q1 (by rw [assign_cons h0]; rfl), by rw [assign_cons h0]; simp [q2], ?_⟩
      rw [assign_cons h0, List.findIdx?_cons]
      simp [q3]
end
end
section
variable {Φ : Nat → M Sl} {C : Nat → D}
mutual
theorem snd : ∀ (a : E) (m : Mode) (c : Ck) (X : Cx) (k : Nat) (W : WX) (e : Expr), c.Ok X k Φ C W → chk a m c e = true → Snd X W Φ C a e m
  | .non, m, c, X, k, W, e, o, h => dflt_snd o (fun m => by cases m <;> rfl) (by rw [evT] <;> first | rfl | (intros; contradiction)) (by rw [evI] <;> first | rfl | (intros; contradiction)) (fun h => by
      rw [chk] at h; dsimp only [dflt] at h
      split at h
      · rw [ev]; exact PE.imp pe_non fun σ H Q => te_pure fun H => .non
      · cases h) m h
  | .bl b, m, c, X, k, W, e, o, h => dflt_snd o (fun m => by cases m <;> rfl) (by rw [evT] <;> first | rfl | (intros; contradiction)) (by rw [evI] <;> first | rfl | (intros; contradiction)) (fun h => by
      rw [chk] at h; dsimp only [dflt] at h
      split at h
      · simp only [beq_iff_eq] at h
        subst h
        rw [ev]
        exact PE.imp pe_bl fun σ H Q => te_pure fun H => .bl _
      · cases h) m h
  | .int b, m, c, X, k, W, e, o, h => dflt_snd o (fun m => by cases m <;> rfl) (by rw [evT] <;> first | rfl | (intros; contradiction)) (by rw [evI] <;> first | rfl | (intros; contradiction)) (fun h => by
      rw [chk] at h; dsimp only [dflt] at h
      split at h
      · simp only [beq_iff_eq] at h
        subst h
        rw [ev]
        exact PE.imp pe_int fun σ H Q => te_pure fun H => .int _
      · cases h) m h
  | .str b, m, c, X, k, W, e, o, h => dflt_snd o (fun m => by cases m <;> rfl) (by rw [evT] <;> first | rfl | (intros; contradiction)) (by rw [evI] <;> first | rfl | (intros; contradiction)) (fun h => by
      rw [chk] at h; dsimp only [dflt] at h
      split at h
      · simp only [beq_iff_eq] at h
        subst h
        rw [ev]
        exact PE.imp pe_str fun σ H Q => te_pure fun H => .str _
      · cases h) m h
  | .tyc n, m, c, X, k, W, e, o, h => dflt_snd o (fun m => by cases m <;> rfl) (by rw [evT] <;> first | rfl | (intros; contradiction)) (by rw [evI] <;> first | rfl | (intros; contradiction)) (fun h => by
      rw [chk] at h; dsimp only [dflt] at h
      split at h
      · simp only [Bool.and_eq_true, beq_iff_eq] at h
        obtain ⟨⟨⟨h1, rfl⟩, h3⟩, h4⟩ := h
        obtain ⟨g1, g2⟩ := gl_of o h3
        rw [ev]
        exact PE.imp (pe_bltn (v := .ty n) g1 (o.bl _ (by simpa using h4)) (ty_boot h1) rfl (okN_n g2) (okN_d g2)) fun σ H Q => te_pure fun H => .ty n
      · cases h) m h
  | .cst i, m, c, X, k, W, e, o, h => dflt_snd o (fun m => by cases m <;> rfl) (by rw [evT] <;> first | rfl | (intros; contradiction)) (by rw [evI] <;> first | rfl | (intros; contradiction)) (fun h => by
      rw [chk] at h; dsimp only [dflt] at h
      split at h
      · simp only [Bool.and_eq_true, beq_iff_eq] at h
        obtain ⟨g1, g2⟩ := gl_of o h.2
        obtain ⟨v, u, q1, q2, q3⟩ := o.cs i _ h.1
        rw [ev]
        exact PE.imp (pe_glob g1 q1 q2 (okN_d g2)) fun σ H Q => te_pure q3
      · cases h) m h
  | .var i, m, c, X, k, W, e, o, h => dflt_snd o (fun m => by cases m <;> rfl) (by rw [evT] <;> first | rfl | (intros; contradiction)) (by rw [evI] <;> first | rfl | (intros; contradiction)) (fun h => by
      rw [chk] at h; dsimp only [dflt] at h
      rw [ev]; exact PE.imp (visB_name o h) fun σ H Q => te_var) m h
  | .fz i, m, c, X, k, W, e, o, h => dflt_snd o (fun m => by cases m <;> rfl) (by rw [evT] <;> first | rfl | (intros; contradiction)) (by rw [evI] <;> first | rfl | (intros; contradiction)) (fun h => by
      rw [chk] at h; dsimp only [dflt] at h
      rw [ev]; exact PE.imp (visB_name o h) fun σ H Q => te_fz) m h
  | .mv i, m, c, X, k, W, e, o, h => dflt_snd o (fun m => by cases m <;> rfl) (by rw [evT] <;> first | rfl | (intros; contradiction)) (by rw [evI] <;> first | rfl | (intros; contradiction)) (fun h => by
      rw [chk] at h; dsimp only [dflt] at h
      rw [ev]; exact PE.imp (visB_name o h) fun σ H Q => te_mv) m h
  | .bop op a b, m, c, X, k, W, e, o, h => dflt_snd o (fun m => by cases m <;> rfl) (by rw [evT] <;> first | rfl | (intros; contradiction)) (by rw [evI] <;> first | rfl | (intros; contradiction)) (fun h => by
      rw [chk] at h; dsimp only [dflt] at h
      split at h
      · simp only [Bool.and_eq_true, beq_iff_eq] at h
        obtain ⟨⟨rfl, h1⟩, h2⟩ := h
        rw [ev]
        exact PE.imp (pe_op (bop_ok op) (opd_snd o h1 (snd a .val c X k W _ o h1)) (opd_snd o h2 (snd b .val c X k W _ o h2))) fun σ H Q => te_op2
      · cases h) m h
  | .neg a, m, c, X, k, W, e, o, h => dflt_snd o (fun m => by cases m <;> rfl) (by rw [evT] <;> first | rfl | (intros; contradiction)) (by rw [evI] <;> first | rfl | (intros; contradiction)) (fun h => by
      rw [chk] at h; dsimp only [dflt] at h
      split at h
      · rw [ev]
        exact PE.imp (pe_un un_neg (opd_snd o h (snd a .val c X k W _ o h))) fun σ H Q => te_neg
      · cases h) m h
  | .idx a b, m, c, X, k, W, e, o, h => dflt_snd o (fun m => by cases m <;> rfl) (by rw [evT] <;> first | rfl | (intros; contradiction)) (by rw [evI] <;> first | rfl | (intros; contradiction)) (fun h => by
      rw [chk] at h; dsimp only [dflt] at h
      split at h
      · simp only [Bool.and_eq_true] at h
        obtain ⟨⟨h0, h1⟩, h2⟩ := h
        rw [ev]
        exact PE.imp (pe_ix ix_ok (opd_snd o h1 (snd a .val c X k W _ o h1)) (opd_snd o h2 (snd b .val c X k W _ o h2)) (plainIx_of h0)) fun σ H Q => te_op2
      · cases h) m h
  | .rev a, m, c, X, k, W, e, o, h => dflt_snd o (fun m => by cases m <;> rfl) (by rw [evT] <;> first | rfl | (intros; contradiction)) (by rw [evI] <;> first | rfl | (intros; contradiction)) (fun h => by
      rw [chk] at h; dsimp only [dflt] at h
      split at h
      · rw [ev]
        exact PE.imp (pe_rev2 (opd_snd o h (snd a .val c X k W _ o h))) fun σ H Q => te_rev
      · cases h) m h
  | .bi b as, m, c, X, k, W, e, o, h => dflt_snd o (fun m => by cases m <;> rfl) (by rw [evT] <;> first | rfl | (intros; contradiction)) (by rw [evI] <;> first | rfl | (intros; contradiction)) (fun h => by
      rw [chk] at h; dsimp only [dflt] at h
      split at h
      · simp only [Bool.and_eq_true, beq_iff_eq, Bool.not_eq_true', List.contains_iff_mem] at h
        obtain ⟨⟨⟨⟨⟨rfl, h3⟩, h4⟩, h5⟩, h6⟩, h7⟩ := h
        obtain ⟨g1, g2⟩ := gl_of o h3
        rw [ev]
        rename_i es _
        cases es with
        | nil => cases h5
        | cons e0 es =>
          have h6' : (e0 :: es).all notStar = true := h6
          rw [List.all_cons, Bool.and_eq_true] at h6
          exact PE.imp (pe_callB (bi_ok o.room o.calm o.gd b) g1 (o.bl _ h4) (bi_boot b) (sndAs as c X k W (e0 :: es) o h6' h7).1 (okN_n g2) (okN_d g2) (star_cons h6.1 _ _) (star_plain _ h6.2)) fun σ H Q => te_opn
      · cases h) m h
  | .ty b as, m, c, X, k, W, e, o, h => dflt_snd o (fun m => by cases m <;> rfl) (by rw [evT] <;> first | rfl | (intros; contradiction)) (by rw [evI] <;> first | rfl | (intros; contradiction)) (fun h => by
      rw [chk] at h; dsimp only [dflt] at h
      split at h
      · simp only [Bool.and_eq_true, beq_iff_eq, Bool.not_eq_true', List.contains_iff_mem] at h
        obtain ⟨⟨⟨⟨⟨rfl, h3⟩, h4⟩, h5⟩, h6⟩, h7⟩ := h
        obtain ⟨g1, g2⟩ := gl_of o h3
        rw [ev]
        rename_i es _
        cases es with
        | nil => cases h5
        | cons e0 es =>
          have h6' : (e0 :: es).all notStar = true := h6
          rw [List.all_cons, Bool.and_eq_true] at h6
          exact PE.imp (pe_callTy (ty_ok b) g1 (o.bl _ h4) (bt_boot b) (sndAs as c X k W (e0 :: es) o h6' h7).1 (okN_n g2) (okN_d g2) (star_cons h6.1 _ _) (star_plain _ h6.2)) fun σ H Q => te_opn
      · cases h) m h
  | .slc a lo hi, m, c, X, k, W, e, o, h => dflt_snd o (fun m => by cases m <;> rfl) (by rw [evT] <;> first | rfl | (intros; contradiction)) (by rw [evI] <;> first | rfl | (intros; contradiction)) (fun h => by
      rw [chk] at h; dsimp only [dflt] at h
      split at h
      · simp only [Bool.and_eq_true] at h
        obtain ⟨⟨h1, h2⟩, h3⟩ := h
        rw [ev]
        have pa := opd_snd o h1 (snd a .val c X k W _ o h1)
        obtain ⟨tl, pl, ql⟩ := po_of o h2 fun l h => opd_snd o h (snd lo .val c X k W _ o h)
        obtain ⟨th, ph, qh⟩ := po_of o h3 fun l h => opd_snd o h (snd hi .val c X k W _ o h)
        exact PE.imp (pe_slice sl_ok pa pl ph) fun σ H Q q => op_mono (te_slc q) fun x H1 q => ql _ _ _ (op_mono q fun l H2 ⟨lo, e, q⟩ => ⟨lo, e, qh _ _ _ q⟩)
      · cases h) m h
  | .tup as, m, c, X, k, W, e, o, h => dflt_snd o (fun m => by cases m <;> rfl) (by rw [evT] <;> first | rfl | (intros; contradiction)) (by rw [evI] <;> first | rfl | (intros; contradiction)) (fun h => by
      rw [chk] at h; dsimp only [dflt] at h
      split at h
      · rw [ev]; exact PE.imp (pe_tup (sndDs as c X k W _ o h)) fun σ H Q => te_tup
      · cases h) m h
  | .lst as, m, c, X, k, W, e, o, h => dflt_snd o (fun m => by cases m <;> rfl) (by rw [evT] <;> first | rfl | (intros; contradiction)) (by rw [evI] <;> first | rfl | (intros; contradiction)) (fun h => by
      rw [chk] at h; dsimp only [dflt] at h
      split at h
      · rw [ev]; exact PE.imp (pe_lst (sndDs as c X k W _ o h)) fun σ H Q => te_lst
      · cases h) m h
  | .call f as, m, c, X, k, W, e, o, h => dflt_snd o (fun m => by cases m <;> rfl) (by rw [evT] <;> first | rfl | (intros; contradiction)) (by rw [evI] <;> first | rfl | (intros; contradiction)) (fun h => by
      rw [chk] at h; dsimp only [dflt] at h
      split at h
      · simp only [Bool.and_eq_true] at h
        obtain ⟨⟨⟨h1, h2⟩, h3⟩, h4⟩ := h
        obtain ⟨g1, g2⟩ := gl_of o h2
        cases ef : c.fs[f]? with
        | none => rw [ef] at h1; cases h1
        | some fe =>
          rw [ef] at h1
          dsimp only at h1
          rw [Bool.and_eq_true] at h1
          obtain ⟨hx, hn⟩ := h1
          have hx := beq_iff_eq.mp hx
          subst hx
          rw [ev]
          obtain ⟨q1, q2⟩ := pe_callF (o.fs f fe ef) o g1 g2 hn (sndAs as c X k W _ o h3 h4).2.2 h3
          exact PE.imp q2 fun σ H Q q => call_sound (Φ f) (args Φ C as) fe.np q1 σ H Q q
      · cases h) m h
  | .dict0, m, c, X, k, W, e, o, h => dflt_snd o (fun m => by cases m <;> rfl) (by rw [evT] <;> first | rfl | (intros; contradiction)) (by rw [evI] <;> first | rfl | (intros; contradiction)) (fun h => by
      rw [chk] at h; dsimp only [dflt] at h
      split at h
      · rw [ev]; exact PE.imp pe_dnewK fun σ H Q => te_dict0
      · cases h) m h
  | .dict1 k' n, m, c, X, k, W, e, o, h => dflt_snd o (fun m => by cases m <;> rfl) (by rw [evT] <;> first | rfl | (intros; contradiction)) (by rw [evI] <;> first | rfl | (intros; contradiction)) (fun h => by
      rw [chk] at h; dsimp only [dflt] at h
      split at h
      · simp only [Bool.and_eq_true, beq_iff_eq] at h
        obtain ⟨rfl, rfl⟩ := h
        rw [ev]
        exact PE.imp (pe_disp (pps_cons pe_str pe_int pps_nil) rfl rfl (by simp) (by simp)) fun σ H Q => te_dict1
      · cases h) m h
  | .dicti k' n, m, c, X, k, W, e, o, h => dflt_snd o (fun m => by cases m <;> rfl) (by rw [evT] <;> first | rfl | (intros; contradiction)) (by rw [evI] <;> first | rfl | (intros; contradiction)) (fun h => by
      rw [chk] at h; dsimp only [dflt] at h
      split at h
      · simp only [Bool.and_eq_true, beq_iff_eq] at h
        obtain ⟨rfl, rfl⟩ := h
        rw [ev]
        exact PE.imp (pe_disp (pps_cons pe_int pe_bl pps_nil) rfl rfl (by simp) (by simp)) fun σ H Q => te_dicti
      · cases h) m h
  | .sset a, m, c, X, k, W, e, o, h => dflt_snd o (fun m => by cases m <;> rfl) (by rw [evT] <;> first | rfl | (intros; contradiction)) (by rw [evI] <;> first | rfl | (intros; contradiction)) (fun h => by
      rw [chk] at h; dsimp only [dflt] at h
      split at h
      · simp only [Bool.and_eq_true, beq_iff_eq, List.contains_iff_mem] at h
        obtain ⟨⟨⟨⟨⟨⟨⟨rfl, rfl⟩, h1⟩, h2⟩, h3⟩, h4⟩, h5⟩, h6⟩ := h
        rw [ev]
        have hu : X.A.units + 64 < cLine := by have := o.room.un; omega
        exact PE.imp (pe_callB (cr_sortedT o.calm) (gl_of o h1).1 (o.bl _ h3) (by decide +kernel) (pa_cons (pe_callTy (cr_setOfT o.calm hu) (gl_of o h2).1 (o.bl _ h4) (by decide +kernel) (pa_cons (opd_snd o h6 (snd a .val c X k W _ o h6)) pa_nil (star_cons h5 _ _)) (okN_n (gl_of o h2).2) (okN_d (gl_of o h2).2) (star_cons h5 _ _) rfl) pa_nil rfl) (okN_n (gl_of o h1).2) (okN_d (gl_of o h1).2) rfl rfl) fun σ H Q => te_sset
      · cases h) m h
  | .lr1 a, m, c, X, k, W, e, o, h => dflt_snd o (fun m => by cases m <;> rfl) (by rw [evT] <;> first | rfl | (intros; contradiction)) (by rw [evI] <;> first | rfl | (intros; contradiction)) (fun h => by
      rw [chk] at h; dsimp only [dflt] at h
      split at h
      · simp only [Bool.and_eq_true, beq_iff_eq, List.contains_iff_mem] at h
        obtain ⟨⟨⟨⟨⟨⟨⟨rfl, rfl⟩, h1⟩, h2⟩, h3⟩, h4⟩, h5⟩, h6⟩ := h
        rw [ev]
        exact PE.imp (pe_listRg o.calm (gl_of o h1).1 (o.bl _ h3) (prg_1 (gl_of o h2).1 (o.bl _ h4) (opd_snd o h6 (snd a .val c X k W _ o h6)) (star_cons h5 _ _))) fun σ H Q => te_lr1
      · cases h) m h
  | .lr2 a b, m, c, X, k, W, e, o, h => dflt_snd o (fun m => by cases m <;> rfl) (by rw [evT] <;> first | rfl | (intros; contradiction)) (by rw [evI] <;> first | rfl | (intros; contradiction)) (fun h => by
      rw [chk] at h; dsimp only [dflt] at h
      split at h
      · simp only [Bool.and_eq_true, beq_iff_eq, List.contains_iff_mem] at h
        obtain ⟨⟨⟨⟨⟨⟨⟨⟨⟨rfl, rfl⟩, h1⟩, h2⟩, h3⟩, h4⟩, h5⟩, h5'⟩, h6⟩, h7⟩ := h
        rw [ev]
        exact PE.imp (pe_listRg o.calm (gl_of o h1).1 (o.bl _ h3) (prg_2 (gl_of o h2).1 (o.bl _ h4) (opd_snd o h6 (snd a .val c X k W _ o h6)) (opd_snd o h7 (snd b .val c X k W _ o h7)) (star_cons h5 _ _) (star_cons h5' _ _) (star_plain _ (by simp [h5'])))) fun σ H Q => te_lr2
      · cases h) m h
  | .lc elt tg it ifs own, m, c, X, k, W, e, o, h => dflt_snd o (fun m => by cases m <;> rfl) (by rw [evT] <;> first | rfl | (intros; contradiction)) (by rw [evI] <;> first | rfl | (intros; contradiction)) (fun h => by
      rw [chk] at h; dsimp only [dflt] at h
      split at h
      · simp only [Bool.and_eq_true] at h
        obtain ⟨⟨⟨⟨⟨⟨h1, h2⟩, h3⟩, h4⟩, h5⟩, h6⟩, h7⟩ := h
        rw [ev]
        have hb := blkOk_by h1
        have hb' := hb
        rw [← o.N, ← o.sc] at hb'
        have hst : ∀ i ∈ tg.st, i ∈ own := fun i hi => by simpa using List.all_eq_true.mp h2 i hi
        have ok := fun s H C' cl fp => o.inner (Cc := C') (cl := cl) (own := own) (s := s) (H := H) (fp := fp) hb.kind
        refine PE.imp (pe_lc (te := TEof X.K X.mg W0 (ev Φ C elt)) (tt := ttOf X.K X.mg W0 Φ C ifs) (g := tgT X.K tg) o.calm (by rw [o.N]; exact o.nd) (snd it (.iter _) c X k W _ o h4) hb' (fun s H C' cl fp => sndG tg _ _ _ _ _ (ok s H C' cl fp) h5) (fun s H C' cl fp => sndTs ifs _ _ _ _ _ (ok s H C' cl fp) h6) (fun s H C' cl fp => snd elt .val _ _ _ _ _ (ok s H C' cl fp) h7) (folded_of h3)) fun σ H Q q => ?_
        have hown : (ownN c own).map (·.2) = own := by simp [ownN, Function.comp_def]
        rw [hown]
        exact lc_sound hst (fun σ H Q => tts_of ifs (chkTs_len h6)) σ H Q q
      · cases h) m h
  | .mth m' a as, m, c, X, k, W, e, o, h => dflt_snd o (fun m => by cases m <;> rfl) (by rw [evT] <;> first | rfl | (intros; contradiction)) (by rw [evI] <;> first | rfl | (intros; contradiction)) (fun h => by
      rw [chk] at h; dsimp only [dflt] at h
      split at h
      · simp only [Bool.and_eq_true, beq_iff_eq] at h
        obtain ⟨⟨⟨rfl, h1⟩, h2⟩, h3⟩ := h
        rw [ev, opds]
        exact PE.imp (pe_upper (opd_snd o h3 (snd a .val c X k W _ o h3)) (base_of h2) (by simpa using h1)) fun σ H Q => te_upper
      · cases h) m h
  | .heard a, m, c, X, k, W, e, o, h => dflt_snd o (fun m => by cases m <;> rfl) (by rw [evT] <;> first | rfl | (intros; contradiction)) (by rw [evI] <;> first | rfl | (intros; contradiction)) (fun h => by
      rw [chk] at h; dsimp only [dflt] at h
      split at h
      · simp only [Bool.and_eq_true, beq_iff_eq] at h
        obtain ⟨⟨⟨⟨⟨rfl, h2⟩, h3⟩, h4⟩, h5⟩, h6⟩ := h
        obtain ⟨g1, g2⟩ := gl_of o h2
        obtain ⟨j, hr, fsj⟩ := o.hd h3
        rw [ev]
        exact PE.imp (hr.rule (tb := TEof X.K X.mg W0 (ev Φ C a)) g1 (by rw [o.sc]; exact h5) h4 (fun _ _ _ _ m q => te_mono q m) fun A outer s H f c' hg hrm => show PE _ _ (TEof X.K X.mg W0 (ev Φ C a)) from snd a .val _ _ j W0 _ (o.lam h5 hg hrm fsj) h6) fun σ H Q => te_heard
      · cases h) m h
  | .star a, m, c, X, k, W, e, o, h => by cases m <;> simp [chk, dflt] at h
  | .rng1 a, m, c, X, k, W, e, o, h => by
      cases m with
      | iter t =>
        rw [chk] at h; dsimp only at h
        show PI X t e (TIof X.K X.mg W (evI Φ C (.rng1 a)))
        split at h
        · simp only [Bool.and_eq_true, beq_iff_eq, List.contains_iff_mem] at h
          obtain ⟨⟨⟨⟨rfl, h2⟩, h3⟩, h4⟩, h5⟩ := h
          obtain ⟨g1, g2⟩ := gl_of o h2
          rw [evI]
          exact pi_rng1 g1 (o.bl _ h3) (pa_cons (snd a .val c X k W _ o h5) pa_nil (star_cons h4 _ _)) (star_cons h4 _ _)
        · cases h
      | _ => simp [chk] at h
  | .rng2 a b, m, c, X, k, W, e, o, h => by
      cases m with
      | iter t =>
        rw [chk] at h; dsimp only at h
        show PI X t e (TIof X.K X.mg W (evI Φ C (.rng2 a b)))
        split at h
        · simp only [Bool.and_eq_true, beq_iff_eq, List.contains_iff_mem] at h
          obtain ⟨⟨⟨⟨⟨⟨rfl, h2⟩, h3⟩, h4⟩, h4'⟩, h5⟩, h6⟩ := h
          obtain ⟨g1, g2⟩ := gl_of o h2
          rw [evI]
          exact pi_rng2 g1 (o.bl _ h3) (pa_cons (opd_snd o h5 (snd a .val c X k W _ o h5)) (pa_cons (opd_snd o h6 (snd b .val c X k W _ o h6)) pa_nil (star_cons h4' _ _)) (star_cons h4 _ _)) (by rw [star_cons h4, star_cons h4']; rfl) (by rw [star_cons h4']; rfl)
        · cases h
      | _ => simp [chk] at h
  | .enum a, m, c, X, k, W, e, o, h => by
      cases m with
      | iter t =>
        rw [chk] at h; dsimp only at h
        show PI X t e (TIof X.K X.mg W (evI Φ C (.enum a)))
        split at h
        · simp only [Bool.and_eq_true, beq_iff_eq, List.contains_iff_mem] at h
          obtain ⟨⟨⟨⟨⟨h0, rfl⟩, h2⟩, h3⟩, h4⟩, h5⟩ := h
          obtain ⟨g1, g2⟩ := gl_of o h2
          obtain ⟨es, kk, tp, rfl⟩ := tup_of h0
          rw [evI]
          exact pi_enum' g1 (o.bl _ h3) (pa_cons (snd a .val c X k W _ o h5) pa_nil (star_cons h4 _ _)) (star_cons h4 _ _)
        · cases h
      | _ => simp [chk] at h
  | .zip a b, m, c, X, k, W, e, o, h => by
      cases m with
      | iter t =>
        rw [chk] at h; dsimp only at h
        show PI X t e (TIof X.K X.mg W (evI Φ C (.zip a b)))
        split at h
        · simp only [Bool.and_eq_true, beq_iff_eq, List.contains_iff_mem] at h
          obtain ⟨⟨⟨⟨⟨⟨⟨h0, rfl⟩, h2⟩, h3⟩, h4⟩, h4'⟩, h5⟩, h6⟩ := h
          obtain ⟨g1, g2⟩ := gl_of o h2
          obtain ⟨es, kk, tp, rfl⟩ := tup_of h0
          rw [evI]
          exact pi_zip' g1 (o.bl _ h3) (pa_cons (snd a .val c X k W _ o h5) (pa_cons (snd b .val c X k W _ o h6) pa_nil (star_cons h4' _ _)) (star_cons h4 _ _)) (star_cons h4 _ _) (star_plain _ (by simp [h4']))
        · cases h
      | _ => simp [chk] at h
  | .andV a b, m, c, X, k, W, e, o, h => spec_snd o (fun t => rfl) (by rw [evI] <;> first | rfl | (intros; contradiction)) (fun h => by
      rw [chk] at h; dsimp only at h
      split at h
      · simp only [Bool.and_eq_true] at h
        obtain ⟨h1, h2⟩ := h
        rw [ev]
        refine PE.imp (pe_and (snd a .val c X k W _ o h1) ?_) fun σ H Q => te_and
        rename_i r _
        cases r with
        | nil => exact pe_one (snd b .val c X k W _ o h2)
        | cons z r => exact snd b .val c X k W _ o h2
      · cases h) (fun h => by
      rw [chk] at h; dsimp only at h
      split at h
      · simp only [Bool.and_eq_true] at h
        obtain ⟨h1, h2⟩ := h
        rw [evT]
        refine PT.imp (pw_and (tB' := TTof X.K X.mg W (evT Φ C b)) (snd a .test c X k W _ o h1) ?_).pt fun σ H Q => tt_and
        rename_i r _
        cases r with
        | nil => exact pw_and1 (snd b .test c X k W _ o h2)
        | cons z r => exact pw_bool (snd b .test c X k W _ o h2)
      · cases h) m h
  | .orV a b, m, c, X, k, W, e, o, h => spec_snd o (fun t => rfl) (by rw [evI] <;> first | rfl | (intros; contradiction)) (fun h => by
      rw [chk] at h; dsimp only at h
      split at h
      · simp only [Bool.and_eq_true] at h
        obtain ⟨h1, h2⟩ := h
        rw [ev]
        refine PE.imp (pe_or (snd a .val c X k W _ o h1) ?_) fun σ H Q => te_or
        rename_i r _
        cases r with
        | nil => exact pe_one (snd b .val c X k W _ o h2)
        | cons z r => exact snd b .val c X k W _ o h2
      · cases h) (fun h => by
      rw [chk] at h; dsimp only at h
      split at h
      · simp only [Bool.and_eq_true] at h
        obtain ⟨h1, h2⟩ := h
        rw [evT]
        refine PT.imp (pw_or (tB' := TTof X.K X.mg W (evT Φ C b)) (snd a .test c X k W _ o h1) ?_).pt fun σ H Q => tt_or
        rename_i r _
        cases r with
        | nil => exact pw_or1 (snd b .test c X k W _ o h2)
        | cons z r => exact pw_bool (snd b .test c X k W _ o h2)
      · cases h) m h
  | .notV a, m, c, X, k, W, e, o, h => spec_snd o (fun t => rfl) (by rw [evI] <;> first | rfl | (intros; contradiction)) (fun h => by
      rw [chk] at h; dsimp only at h
      split at h
      · rw [ev]; exact PE.imp (pe_not (snd a .val c X k W _ o h)) fun σ H Q => te_not
      · cases h) (fun h => by
      rw [chk] at h; dsimp only at h
      split at h
      · rw [evT]; exact PT.imp (pt_not (snd a .test c X k W _ o h)) fun σ H Q => tt_not
      · cases h) m h
  | .ite t a b, m, c, X, k, W, e, o, h => spec_snd o (fun t => rfl) (by rw [evI] <;> first | rfl | (intros; contradiction)) (fun h => by
      rw [chk] at h; dsimp only at h
      split at h
      · simp only [Bool.and_eq_true] at h
        obtain ⟨⟨h1, h2⟩, h3⟩ := h
        rw [ev]; exact PE.imp (pe_ifExp (snd t .test c X k W _ o h1) (snd a .val c X k W _ o h2) (snd b .val c X k W _ o h3)) fun σ H Q => te_ite
      · cases h) (fun h => by
      rw [chk] at h; dsimp only at h
      split at h
      · simp only [Bool.and_eq_true] at h
        obtain ⟨⟨h1, h2⟩, h3⟩ := h
        rw [evT]; exact PT.imp (pt_ifExp (snd t .test c X k W _ o h1) (snd a .test c X k W _ o h2) (snd b .test c X k W _ o h3)) fun σ H Q => tt_ite
      · cases h) m h
  | .cmp op a b, m, c, X, k, W, e, o, h => spec_snd o (fun t => rfl) (by rw [evI] <;> first | rfl | (intros; contradiction)) (fun h => by
      rw [chk] at h; dsimp only at h
      split at h
      · simp only [Bool.and_eq_true, beq_iff_eq] at h
        obtain ⟨⟨⟨rfl, h1⟩, h2⟩, h3⟩ := h
        rw [ev]
        exact PE.imp (pe_cmpR (cmp_ok o.room op) (opd_snd o h2 (snd a .val c X k W _ o h2)) (opd_snd o h3 (snd b .val c X k W _ o h3)) (marks_of h1)) fun σ H Q => te_op2
      · cases h) (fun h => by
      rw [chk] at h; dsimp only at h
      split at h
      · simp only [Bool.and_eq_true, beq_iff_eq] at h
        obtain ⟨⟨⟨rfl, h1⟩, h2⟩, h3⟩ := h
        refine PT.imp (pt_cmpR (cmp_ok o.room op) (opd_snd o h2 (snd a .val c X k W _ o h2)) (opd_snd o h3 (snd b .val c X k W _ o h3)) (marks_of h1)) fun σ H Q q => tt_cmp ?_
        rw [evT_cmp] at q
        have q := tt_val q
        rw [opd_ex (by intros; simp)] at q
        rw [ev] at q
        exact te_op2 q
      · cases h) m h
  | .chn op p a b d, m, c, X, k, W, e, o, h => spec_snd o (fun t => rfl) (by rw [evI] <;> first | rfl | (intros; contradiction)) (fun h => by
      rw [chk] at h; dsimp only at h
      split at h
      · simp only [Bool.and_eq_true, beq_iff_eq] at h
        obtain ⟨⟨⟨⟨⟨rfl, rfl⟩, h1⟩, h2⟩, h3⟩, h4⟩ := h
        rw [ev]
        exact PE.imp (pe_chain (cmp_ok o.room op) (cmp_ok o.room p) (opd_snd o h2 (snd a .val c X k W _ o h2)) (opd_snd o h3 (snd b .val c X k W _ o h3)) (opd_snd o h4 (snd d .val c X k W _ o h4)) (lastMarks_of h1)) fun σ H Q => te_chn
      · cases h) (fun h => by
      rw [chk] at h; dsimp only at h
      split at h
      · simp only [Bool.and_eq_true, beq_iff_eq] at h
        obtain ⟨⟨⟨⟨⟨rfl, rfl⟩, h1⟩, h2⟩, h3⟩, h4⟩ := h
        refine PT.imp (pt_chain (cmp_ok o.room op) (cmp_ok o.room p) (opd_snd o h2 (snd a .val c X k W _ o h2)) (opd_snd o h3 (snd b .val c X k W _ o h3)) (opd_snd o h4 (snd d .val c X k W _ o h4)) (lastMarks_of h1)) fun σ H Q q => tt_chn ?_
        rw [evT_chn] at q
        have q := tt_val q
        rw [opd_ex (by intros; simp)] at q
        rw [ev] at q
        exact te_chn q
      · cases h) m h
theorem sndAs : ∀ (as : List E) (c : Ck) (X : Cx) (k : Nat) (W : WX) (es : List Expr), c.Ok X k Φ C W → es.all notStar = true → chkAs as c es = true → PA X es (tOpds X.K X.mg W (opds Φ C as)) ∧ PA X es (tArgs X.K X.mg W (args Φ C as)) ∧ PEs X W es (args Φ C as)
  | [], c, X, k, W, es, o, hs, h => by
    rw [chkAs] at h
    cases es with
    | nil => rw [opds, args]; exact ⟨pa_nil, pa_nil, .nil⟩
    | cons e es => cases h
  | a :: as, c, X, k, W, es, o, hs, h => by
    rw [chkAs] at h
    cases es with
    | nil => cases h
    | cons e es =>
      have hs' := hs
      rw [List.all_cons, Bool.and_eq_true] at hs
      simp only [Bool.and_eq_true] at h
      have s := snd a .val c X k W e o h.1
      obtain ⟨q1, q2, q3⟩ := sndAs as c X k W es o hs.2 h.2
      have so := opd_snd o h.1 s
      have pe : PEs X W (e :: es) (args Φ C (a :: as)) := by
        by_cases q : ∃ i, a = .var i
        · obtain ⟨i, rfl⟩ := q
          rw [args_var]
          rw [opd_var] at so
          exact .cons so q3
        · rw [args_ex fun i z => q ⟨i, z⟩]
          exact .cons s q3
      rw [opds]
      exact ⟨pa_cons so q1 (star_cons hs.1 _ _), PEs.pa pe hs', pe⟩
theorem sndDs : ∀ (as : List E) (c : Ck) (X : Cx) (k : Nat) (W : WX) (es : List Expr), c.Ok X k Φ C W → chkDs as c es = true → PA X es (tDisp X.K X.mg W Φ C as)
  | [], c, X, k, W, es, o, h => by
    rw [chkDs] at h
    cases es with
    | nil => rw [tDisp]; exact pa_nil
    | cons e es => cases h
  | a :: as, c, X, k, W, es, o, h => by
    rw [chkDs] at h
    cases es with
    | nil => cases h
    | cons e es =>
      simp only [Bool.and_eq_true] at h
      obtain ⟨h1, h2⟩ := h
      have sd := sndDs as c X k W es o h2
      have sa := fun h => snd a .val c X k W e o h
      cases a
      case star b =>
        split at h1
        · have s := snd b .val c X k W _ o h1
          rw [tDisp]
          exact StX.pa_star s sd rfl
        · simp [chk, dflt] at h1
      all_goals (
        have hns : notStar e = true := by
          cases e <;> first | rfl | cases h1
        have h1 := (show chk _ .val c e = true by cases e <;> first | exact h1 | cases hns)
        rw [tDisp_cons _ as (by intros; simp)]
        exact pa_cons (sa h1) sd (star_cons hns _ _))
theorem sndTs : ∀ (as : List E) (c : Ck) (X : Cx) (k : Nat) (W : WX) (es : List Expr), c.Ok X k Φ C W → chkTs as c es = true → PTs X es (ttOf X.K X.mg W Φ C as)
  | [], c, X, k, W, es, o, h => by
    rw [chkTs] at h
    cases es with
    | nil => exact pts_nil
    | cons e es => cases h
  | a :: as, c, X, k, W, es, o, h => by
    rw [chkTs] at h
    dsimp only at h
    split at h
    · exact pts_one (snd a .test c X k W _ o h)
    · cases h
end
end
end Lw
end

section
set_option Elab.async false
set_option linter.all false
set_option maxRecDepth 100000
set_option maxHeartbeats 4000000
/-! L19: the checker's word is good: statements -/
namespace Lw
open PySem L2
variable [TabInfo]
section
variable {X : Cx} {c : Ck} {k : Nat} {Φ : Nat → M Sl} {C : Nat → D} {W : WX}
theorem filterMap_all {α β : Type} {f : α → Option β} : ∀ {l : List α}, (l.filterMap f).length = l.length → ∀ x ∈ l, (f x).isSome = true
  | [], _, x, h => nomatch h
  | a :: l, e, x, h => by
    rw [List.filterMap_cons] at e
    have hle := List.length_filterMap_le f l
    cases ea : f a with
    | none => rw [ea] at e; simp at e; omega
    | some b =>
      rw [ea] at e
      rcases List.mem_cons.mp h with rfl | h
      · rw [ea]; rfl
      · exact filterMap_all (by simpa using e) x h
theorem swap_none {ts : List Expr} {v : Expr} {a b} (o : c.Ok X k Φ C W) (h : plainAsg c ts v = true) : swappedStores [.Tuple ts a b] v X.env = pure none := by
  cases v with
  | Tuple vs k p =>
    unfold swappedStores
    simp only [plainAsg, Bool.or_eq_true] at h
    dsimp only
    split
    · rfl
    · rename_i h1
      split
      · rfl
      · split
        · rfl
        · rename_i h3
          split
          · rfl
          · rename_i h4
            exfalso
            simp only [Bool.or_eq_true, not_or] at h1 h3
            rcases h with ((h | h) | h) | h
            · exact h4 h
            · exact h1.1.1 h
            · exact h1.1.2 h
            · rw [List.any_eq_true] at h
              obtain ⟨e, he, h⟩ := h
              have := filterMap_all (by have q := h3.1; rw [bne_iff_ne] at q; exact Classical.not_not.mp q) e he
              cases e <;> first | cases this | skip
              rename_i x p
              have hk : X.env.kindOf x = c.sc.names.lookup x := by show X.env.scope.names.lookup x = _; rw [o.sc]
              dsimp only at this h
              rw [hk] at this
              cases e2 : (c.sc.names.lookup x == some .local) with
              | false => rw [e2] at this; cases this
              | true => simp only [bne, e2] at h; cases h
  | _ => rfl
theorem names_eq (o : c.Ok X k Φ C W) (l : Nat) : ∀ {ts : List Expr}, (ts.all fun e => match e with
    | .Name x p => c.sc.names.lookup x == some .local && p.line == l
    | _ => false) = true → (ts.filterMap fun e => match e with
    | .Name id pos => if X.env.kindOf id == some .local && pos.line == l then some id else none
    | _ => none) = namesOf ts ∧ (namesOf ts).length = ts.length
  | [], _ => ⟨rfl, rfl⟩
  | e :: ts, h => by
    rw [List.all_cons, Bool.and_eq_true] at h
    obtain ⟨q1, q2⟩ := names_eq o l h.2
    cases e <;> first | cases h.1 | skip
    rename_i x p
    have hk : X.env.kindOf x = c.sc.names.lookup x := by show X.env.scope.names.lookup x = _; rw [o.sc]
    have h1 : (c.sc.names.lookup x == some .local && p.line == l) = true := h.1
    refine ⟨?_, by simp [namesOf, q2]⟩
    rw [List.filterMap_cons]
    dsimp only
    rw [hk, h1, namesOf, ← q1]
    rfl
theorem swap_some {ts vs : List Expr} {a b k' p} (o : c.Ok X k Φ C W) (h : swapAsg c ts vs = true) : swappedStores [.Tuple ts a b] (.Tuple vs k' p) X.env = pure (some (namesOf ts)) := by
  have hb : X.env.blockKind = .function := by unfold Env.blockKind; rw [o.sc, o.kind]; rfl
  simp only [swapAsg, Bool.and_eq_true, Bool.not_eq_true'] at h
  obtain ⟨⟨⟨⟨⟨⟨h1, h2⟩, h3⟩, h4⟩, h5⟩, h6⟩, h7⟩ := h
  obtain ⟨q1, q2⟩ := names_eq o _ h7
  unfold swappedStores
  dsimp only
  have e4 : (vs.any fun | .Starred .. => true | _ => false) = false := by
    rw [List.any_eq_false]
    intro x hx
    have := List.all_eq_true.mp h4 x hx
    cases x <;> first | (simp; done) | cases this
  have eh : ts[0]? = ts.head? := by cases ts <;> rfl
  rw [if_neg (by rw [hb]; simp only [h1]; simp only [beq_iff_eq] at h2; simp [h2])]
  split
  · rename_i z; exact absurd (e4.symm.trans z) (by decide)
  · split
    · rename_i z
      exfalso
      erw [q1] at z
      simp only [beq_iff_eq] at h3
      simp [q2, h3] at z
    · rw [if_neg (by rw [h5]; decide), if_neg (by rw [h6]; decide)]
      erw [q1]
end
end Lw
end

section
set_option Elab.async false
set_option linter.all false
set_option maxRecDepth 100000
set_option maxHeartbeats 4000000
/-! L20: the checker's word is good: every statement -/
namespace Lw
open PySem L2
variable [TabInfo]
section
variable {Φ : Nat → M Sl} {C : Nat → D}
/-- l = [.. for ..] -/
theorem set_lc {X : Cx} {c : Ck} {k : Nat} {W : WX} (o : c.Ok X k Φ C W) {e : E} {i : Nat} {x : Str} {px pos p : Pos} {el : Expr} {gs : List Comprehension} {scope : Scope} (hl : locB c i x = true) (he : chk e .val c (.ListComp el gs scope p) = true)
    (h1 : (c.sc.names.lookup x == some .local) = true) (h2 : (px.line == p.line) = true) (h3 : (scope.names.any fun (n, k) => n == x && (k == .local || k == .cell)) = false) :
    PS X (.Assign [.Name x px] (.ListComp el gs scope p) pos) (tAsg (TEof X.K X.mg W (ev Φ C e)) (gName i)) := by
  cases e
  case mth m a as => rw [chk] at he; dsimp only [dflt] at he; cases m <;> cases as <;> cases he
  case lc =>
    rename_i elt tg it ifs own
    rw [chk] at he; dsimp only [dflt] at he
    split at he
    · rename_i heq
      cases heq
      simp only [Bool.and_eq_true] at he
      obtain ⟨⟨⟨⟨⟨⟨h1', h2'⟩, h3'⟩, h4⟩, h5⟩, h6⟩, h7⟩ := he
      rw [ev]
      have hb := blkOk_by h1'
      have hb' := hb
      rw [← o.N, ← o.sc] at hb'
      have hst : ∀ i ∈ tg.st, i ∈ own := fun i hi => by simpa using List.all_eq_true.mp h2' i hi
      have ok := fun s H C' cl fp => o.inner (Cc := C') (cl := cl) (own := own) (s := s) (H := H) (fp := fp) hb.kind
      obtain ⟨q1, q2, q3⟩ := loc_of o hl
      have hy : X.env.scope.names.lookup x = some .local := by rw [o.sc]; simpa using h1
      refine PS.imp (ps_setLc (te := TEof X.K X.mg W0 (ev Φ C elt)) (tt := ttOf X.K X.mg W0 Φ C ifs) (g := tgT X.K tg) o.calm (by rw [o.N]; exact o.nd) q1 hy (sw_true (by rw [o.sc]; exact o.kind) hy h2 h3) (snd it (.iter _) c X k W _ o h4) hb' (fun s H C' cl fp => sndG tg _ _ _ _ _ (ok s H C' cl fp) h5) (fun s H C' cl fp => sndTs ifs _ _ _ _ _ (ok s H C' cl fp) h6) (fun s H C' cl fp => snd elt .val _ _ _ _ _ (ok s H C' cl fp) h7) (folded_of h3')) fun D σ H q => ?_
      have hown : (ownN c own).map (·.2) = own := by simp [ownN, Function.comp_def]
      rw [hown]
      exact lc_sound hst (fun σ H Q => tts_of ifs (chkTs_len h6)) σ H _ q
    · cases he
  all_goals (rw [chk] at he; dsimp only [dflt] at he; cases he)
theorem par_of {X : Cx} {c : Ck} {k : Nat} {W : WX} (o : c.Ok X k Φ C W) : ∀ {is : List Nat} {ts : List Expr}, chkPar c is ts = true → is.length = ts.length ∧ ∀ i ∈ is, i ∈ c.st
  | [], [], _ => ⟨rfl, fun _ h => nomatch h⟩
  | i :: is, e :: ts, h => by
    cases e <;> first | cases h | skip
    rw [chkPar, Bool.and_eq_true] at h
    obtain ⟨q1, q2⟩ := par_of o h.2
    refine ⟨by simp [q1], fun j hj => ?_⟩
    rcases List.mem_cons.mp hj with rfl | hj
    · have := h.1
      unfold locB at this
      simp only [Bool.and_eq_true] at this
      simpa using this.1.2
    · exact q2 j hj
  | [], e :: ts, h => by simp [chkPar] at h
  | i :: is, [], h => by simp [chkPar] at h
theorem par_cons {c : Ck} {is : List Nat} {ts : List Expr} {n : Nat} (h : chkPar c is ts = true) (e : ts.length = n + 1) : ∃ i is' x px ts', is = i :: is' ∧ ts = .Name x px :: ts' ∧ locB c i x = true ∧ chkPar c is' ts' = true ∧ ts'.length = n := by
  cases ts with
  | nil => cases e
  | cons t ts =>
    cases is with
    | nil => simp [chkPar] at h
    | cons i is =>
      cases t <;> first | cases h | skip
      rw [chkPar, Bool.and_eq_true] at h
      exact ⟨_, _, _, _, _, rfl, rfl, h.1, h.2, by simpa using e⟩
theorem par_nil {c : Ck} {is : List Nat} {ts : List Expr} (h : chkPar c is ts = true) (e : ts.length = 0) : is = [] ∧ ts = [] := by
  cases ts with
  | nil => cases is with
    | nil => exact ⟨rfl, rfl⟩
    | cons i is => simp [chkPar] at h
  | cons t ts => cases e
theorem locB_st {c : Ck} {i : Nat} {x : Str} (h : locB c i x = true) : i ∈ c.st := by
  unfold locB at h
  simp only [Bool.and_eq_true] at h
  simpa using h.1.2
mutual
theorem chkG_st : ∀ (tg : Tgt) {c : Ck} {e : Expr}, chkG c tg e = true → ∀ i ∈ tg.st, i ∈ c.st
  | .nm i, c, e, h, j, hj => by
    rw [chkG] at h; dsimp only at h
    rw [Tgt.st] at hj
    split at h
    · have := locB_st h
      simp at hj; rw [hj]; exact this
    · cases h
  | .tup ts, c, e, h, j, hj => by
    rw [chkG] at h; dsimp only at h
    rw [Tgt.st] at hj
    split at h
    · exact chkGs_st ts h j hj
    · cases h
theorem chkGs_st : ∀ (ts : List Tgt) {c : Ck} {es : List Expr}, chkGs c ts es = true → ∀ i ∈ Tgt.sts ts, i ∈ c.st
  | [], c, es, h, j, hj => by rw [Tgt.sts] at hj; cases hj
  | t :: ts, c, es, h, j, hj => by
    rw [chkGs] at h
    cases es with
    | nil => cases h
    | cons e es =>
      simp only [Bool.and_eq_true] at h
      rw [Tgt.sts] at hj
      rcases List.mem_append.mp hj with hj | hj
      · exact chkG_st t h.1.2 j hj
      · exact chkGs_st ts h.2 j hj
end
theorem aug_add {d x : Lw.D} {s : Sl} (h : augO .Add d x = some s) : ∃ a b, d = .int a ∧ x = .int b ∧ s = vI (a + b) := by
  unfold augO at h
  split at h
  · cases h; exact ⟨_, _, rfl, rfl, rfl⟩
  · rename_i heq; cases heq
  · cases h
theorem aug_sub {d x : Lw.D} {s : Sl} (h : augO .Sub d x = some s) : ∃ a b, d = .int a ∧ x = .int b ∧ s = vI (a - b) := by
  unfold augO at h
  split at h
  · rename_i heq; cases heq
  · cases h; exact ⟨_, _, rfl, rfl, rfl⟩
  · cases h
theorem noswap1 {t e : Expr} {l : Nat} {env : PySem.Env} (h : notComp e = true) : swapsWithSole [t] e l env = pure false := by
  unfold swapsWithSole
  exact noswap_of h
theorem asg_sub {o i : Expr} {pos : Pos} {env : PySem.Env} {v : Value} (h : plainIx i = true) : assign (.Subscript o i pos) env v = (do
      let ov ← holding [v] (eval o env)
      let iv ← holding [v, ov] (eval i env)
      standAt pos
      holding [v, ov, iv] (setItem ov iv v)
      release [v, ov, iv] []) := by
  cases i <;> first | rfl | cases h
theorem base_name {x : Str} {p : Pos} {m : Str} {env : PySem.Env} {w : Sem Value} : attributeBase (.Name x p) m env w = w := rfl
mutual
theorem sndS : ∀ (a : S) (c : Ck) (X : Cx) (k : Nat) (W : WX) (s : Stmt), c.Ok X k Φ C W → chkS a c s = true → PS X s (TSof X.K X.mg W c.st (ex Φ C a))
  | .set i e, c, X, k, W, s, o, h => by
    rw [chkS] at h; dsimp only at h
    split at h
    · rename_i x px v pos
      simp only [Bool.and_eq_true, Bool.or_eq_true] at h
      obtain ⟨⟨h1, h2⟩, h3⟩ := h
      refine PS.imp (t := tAsg (TEof X.K X.mg W (ev Φ C e)) (gName i)) ?_ fun D σ H q => ss_set (locB_st h1) (by rw [ex] at q; exact q)
      rcases h3 with h3 | h3
      · obtain ⟨q1, q2, q3⟩ := loc_of o h1
        exact ps_set (by rw [o.N]; exact o.nd) q1 q2 (snd e .val c X k W v o h2) (noswap_of h3) q3
      · split at h3
        · simp only [Bool.and_eq_true, Bool.not_eq_true'] at h3
          exact set_lc o h1 h2 h3.1.1 h3.1.2 h3.2
        · cases h3
    · cases h
  | .setT tg e, c, X, k, W, s, o, h => by
    rw [chkS] at h; dsimp only at h
    split at h
    · rename_i tg ts a b v pos
      simp only [Bool.and_eq_true] at h
      obtain ⟨⟨⟨h1, h2⟩, h3⟩, h4⟩ := h
      obtain ⟨q1, q2, q3⟩ := sndGs tg c X k W ts o h1
      refine PS.imp (ps_asg (snd e .val c X k W v o h4) (pg_tup o.calm q1 q2 q3) (noswap1 h2) (swap_none o h3) rfl) fun D σ H q => ?_
      rw [ex] at q
      have := ss_setT (chkGs_st tg h1) q
      rwa [tgT] at this
    · cases h
  | .par is es, c, X, k, W, s, o, h => by
    rw [chkS] at h; dsimp only at h
    split at h
    · rename_i ts a b vs k' p pos
      simp only [Bool.and_eq_true] at h
      obtain ⟨⟨⟨⟨h1, h2⟩, h3⟩, h4⟩, h5⟩ := h
      have hsw := swap_some (a := a) (b := b) (k' := k') (p := p) o h4
      obtain ⟨hl, hst⟩ := par_of o h1
      have h4' := h4
      simp only [swapAsg, Bool.and_eq_true, Bool.not_eq_true'] at h4'
      obtain ⟨⟨⟨⟨⟨⟨g1, g2⟩, g3⟩, g4⟩, g5⟩, g6⟩, g7⟩ := h4'
      have nd : is.Nodup := by simpa using h2
      have lcl : ∀ {x p}, Expr.Name x p ∈ ts → X.env.scope.names.lookup x = some .local := fun {x p} hx => by
        have := List.all_eq_true.mp g7 _ hx
        simp only [Bool.and_eq_true] at this
        rw [o.sc]; simpa using this.1
      have hN : X.N.Nodup := by rw [o.N]; exact o.nd
      have pa := (sndAs es c X k W vs o g4 h5).2.1
      simp only [Bool.or_eq_true, beq_iff_eq] at g1 g2
      rcases g1 with g1 | g1
      · obtain ⟨i, is1, x, px, ts1, rfl, rfl, l1, h1, e1⟩ := par_cons h1 g1
        obtain ⟨j, is2, y, py, ts2, rfl, rfl, l2, h1, e2⟩ := par_cons h1 e1
        obtain ⟨rfl, rfl⟩ := par_nil h1 e2
        obtain ⟨x1, _, _⟩ := loc_of o l1
        obtain ⟨y1, _, _⟩ := loc_of o l2
        obtain ⟨v, w, rfl⟩ : ∃ v w, vs = [v, w] := by
          match vs, g2 with
          | [v, w], _ => exact ⟨v, w, rfl⟩
        refine PS.imp (ps_par o.calm hN x1 y1 (by intro e; simp [e] at nd) (lcl (p := px) (by simp)) (lcl (p := py) (by simp)) pa hsw rfl) fun D σ H q => ?_
        rw [ex] at q
        exact tPar_of (fun σ H Q Q' m => tArgs_mono _ m) (ss_par hst q)
      · obtain ⟨i, is1, x, px, ts1, rfl, rfl, l1, h1, e1⟩ := par_cons h1 g1
        obtain ⟨j, is2, y, py, ts2, rfl, rfl, l2, h1, e2⟩ := par_cons h1 e1
        obtain ⟨l, is3, z, pz, ts3, rfl, rfl, l3, h1, e3⟩ := par_cons h1 e2
        obtain ⟨rfl, rfl⟩ := par_nil h1 e3
        obtain ⟨x1, _, _⟩ := loc_of o l1
        obtain ⟨y1, _, _⟩ := loc_of o l2
        obtain ⟨z1, _, _⟩ := loc_of o l3
        obtain ⟨v, w, u, rfl⟩ : ∃ v w u, vs = [v, w, u] := by
          match vs, g2 with
          | [v, w, u], _ => exact ⟨v, w, u, rfl⟩
        refine PS.imp (ps_par3 o.calm hN x1 y1 z1 (by intro e; simp [e] at nd) (by intro e; simp [e] at nd) (by intro e; simp [e] at nd) (lcl (p := px) (by simp)) (lcl (p := py) (by simp)) (lcl (p := pz) (by simp)) pa hsw rfl) fun D σ H q => ?_
        rw [ex] at q
        refine tArgs_mono _ (fun vs H1 ⟨hl, q⟩ => ?_) (ss_par hst q)
        match vs, hl, q with
        | [v, w, u], _, q => exact ⟨v, w, u, rfl, q⟩
    · cases h
  | .aug i op e, c, X, k, W, s, o, h => by
    rw [chkS] at h; dsimp only at h
    split at h
    · rename_i x px op' v pos
      simp only [Bool.and_eq_true, Bool.or_eq_true, beq_iff_eq] at h
      obtain ⟨⟨⟨rfl, h1⟩, h2⟩, h3⟩ := h
      obtain ⟨q1, q2, q3⟩ := loc_of o h2
      have hN : X.N.Nodup := by rw [o.N]; exact o.nd
      rcases h1 with rfl | rfl
      · exact PS.imp (ps_aug hN q1 q2 (snd e .val c X k W v o h3) ip_add q3) fun D σ H q => ss_aug (fun d x s => aug_add) (locB_st h2) (by rw [ex] at q; exact q)
      · exact PS.imp (ps_aug hN q1 q2 (snd e .val c X k W v o h3) ip_sub q3) fun D σ H q => ss_aug (fun d x s => aug_sub) (locB_st h2) (by rw [ex] at q; exact q)
    · cases h
  | .sidx i kx e, c, X, k, W, s, o, h => by
    rw [chkS] at h; dsimp only at h
    split at h
    · rename_i x px kx' p2 v pos
      simp only [Bool.and_eq_true] at h
      obtain ⟨⟨⟨⟨h1, h2⟩, h3⟩, h4⟩, h5⟩ := h
      refine PS.imp (ps_asg (snd e .val c X k W v o h5) (pg_sub (pe_varO o h1) (snd kx .val c X k W kx' o h4) set_list (fun v => asg_sub h2)) (noswap1 h3) (by cases v <;> rfl) rfl) fun D σ H q => ?_
      rw [ex] at q
      exact ss_sidx q
    · cases h
  | .dset i kx e, c, X, k, W, s, o, h => by
    rw [chkS] at h; dsimp only at h
    split at h
    · rename_i x px kx' p2 v pos
      simp only [Bool.and_eq_true] at h
      obtain ⟨⟨⟨⟨h1, h2⟩, h3⟩, h4⟩, h5⟩ := h
      refine PS.imp (ps_asg (snd e .val c X k W v o h5) (pg_sub (pe_varO o h1) (snd kx .val c X k W kx' o h4) (set_dict (by have := o.room.un; omega)) (fun v => asg_sub h2)) (noswap1 h3) (by cases v <;> rfl) rfl) fun D σ H q => ?_
      rw [ex] at q
      exact ss_dset q
    · cases h
  | .app i e, c, X, k, W, s, o, h => by
    rw [chkS] at h; dsimp only at h
    split at h
    · rename_i x px m ap v cp p
      simp only [Bool.and_eq_true, beq_iff_eq] at h
      obtain ⟨⟨⟨⟨rfl, h1⟩, h2⟩, h3⟩, h4⟩ := h
      refine PS.imp (ps_expr (pe_bm PySem.F.plainAttrs_list PySem.F.slot_list_append PySem.F.type_list_append mt_append (pe_varO o h2) (pa_cons (snd e .val c X k W v o h4) pa_nil (star_cons h3 _ _)) rfl (by rw [star_cons h3]; rfl) (by simpa using h1) (star_cons h3 _ _) rfl) rfl) fun D σ H q => ?_
      rw [ex] at q
      exact ss_app q
    · cases h
  | .ext i e, c, X, k, W, s, o, h => by
    rw [chkS] at h; dsimp only at h
    split at h
    · rename_i x px m ap v cp p
      simp only [Bool.and_eq_true, beq_iff_eq] at h
      obtain ⟨⟨⟨⟨rfl, h1⟩, h2⟩, h3⟩, h4⟩ := h
      refine PS.imp (ps_expr (pe_bm PySem.F.plainAttrs_list PySem.F.slot_list_extend PySem.F.type_list_extend mt_extend (pe_varO o h2) (pa_cons (snd e .val c X k W v o h4) pa_nil (star_cons h3 _ _)) rfl (by rw [star_cons h3]; rfl) (by simpa using h1) (star_cons h3 _ _) rfl) rfl) fun D σ H q => ?_
      rw [ex] at q
      exact ss_ext q
    · cases h
  | .ex e, c, X, k, W, s, o, h => by
    rw [chkS] at h; dsimp only at h
    split at h
    · simp only [Bool.and_eq_true] at h
      exact PS.imp (ps_expr (snd e .val c X k W _ o h.2) (noswap_of h.1)) fun D σ H q => ss_drop (by rw [ex] at q; exact q)
    · cases h
  | .ret e, c, X, k, W, s, o, h => by
    rw [chkS] at h; dsimp only at h
    split at h
    · exact PS.imp (ps_ret (snd e .val c X k W _ o h)) fun D σ H q => ss_ret (by rw [ex] at q; exact q)
    · cases h
  | .retN, c, X, k, W, s, o, h => by
    rw [chkS] at h; dsimp only at h
    split at h
    · exact PS.imp ps_retN fun D σ H q => ss_retN (by rw [ex] at q; exact q)
    · cases h
  | .ite t a b, c, X, k, W, s, o, h => by
    rw [chkS] at h; dsimp only at h
    split at h
    · simp only [Bool.and_eq_true] at h
      exact PS.imp (ps_if (snd t .test c X k W _ o h.1.1) (sndSs a c X k W _ o h.1.2) (sndSs b c X k W _ o h.2)) fun D σ H q => ss_if (by rw [ex] at q; exact q)
    · cases h
  | .whl t a, c, X, k, W, s, o, h => by
    rw [chkS] at h; dsimp only at h
    split at h
    · simp only [Bool.and_eq_true] at h
      exact PS.imp (ps_while o.pass (snd t .test c X k W _ o h.1) (sndSs a c X k W _ o h.2)) fun D σ H q => ss_while (by rw [ex] at q; exact q)
    · cases h
  | .for_ tg it a, c, X, k, W, s, o, h => by
    rw [chkS] at h; dsimp only at h
    split at h
    · simp only [Bool.and_eq_true] at h
      obtain ⟨⟨⟨h1, h2⟩, h3⟩, h4⟩ := h
      exact PS.imp (ps_for o.pass o.calm (snd it (.iter _) c X k W _ o h3) (sndG tg c X k W _ o h2) (sndSs a c X k W _ o h4) (folded_of h1)) fun D σ H q => ss_for (chkG_st tg h2) (by rw [ex] at q; exact q)
    · cases h
  | .brk, c, X, k, W, s, o, h => by
    rw [chkS] at h; dsimp only at h
    split at h
    · exact PS.imp ps_break fun D σ H q => ss_bk (by rw [ex] at q; exact q)
    · cases h
  | .cnt, c, X, k, W, s, o, h => by
    rw [chkS] at h; dsimp only at h
    split at h
    · exact PS.imp ps_continue fun D σ H q => ss_ct (by rw [ex] at q; exact q)
    · cases h
  | .pas, c, X, k, W, s, o, h => by
    rw [chkS] at h; dsimp only at h
    split at h
    · exact PS.imp ps_pass fun D σ H q => ss_nil (by rw [ex] at q; exact q)
    · cases h
  | .nev, c, X, k, W, s, o, h => PS.imp ps_never fun D σ H q => ss_bad (t := tNever) (by rw [ex] at q; exact q)
theorem sndSs : ∀ (as : List S) (c : Ck) (X : Cx) (k : Nat) (W : WX) (ss : List Stmt), c.Ok X k Φ C W → chkSs as c ss = true → PSs X ss (TSof X.K X.mg W c.st (exs Φ C as))
  | [], c, X, k, W, ss, o, h => by
    rw [chkSs] at h
    cases ss with
    | nil => exact ⟨fun pins s σ H D I q => pss_nil.run pins s σ H D I (ss_nil (by rw [exs] at q; exact q))⟩
    | cons s ss => cases h
  | a :: as, c, X, k, W, ss, o, h => by
    rw [chkSs] at h
    cases ss with
    | nil => cases h
    | cons s ss =>
      simp only [Bool.and_eq_true] at h
      have q := pss_cons (sndS a c X k W s o h.1) (sndSs as c X k W ss o h.2)
      exact ⟨fun pins s σ H D I h => q.run pins s σ H D I (ss_seq (by rw [exs] at h; exact h))⟩
end
end
end Lw
end

section
set_option Elab.async false
set_option linter.all false
set_option maxRecDepth 100000
set_option maxHeartbeats 4000000
/-! LI: the def that hears -/
namespace Lw
open PySem PySem.Spec PyProof.Rows L2 LamX
variable [TabInfo]
def hdNs : List Str := ["call", "caught", "back", "error"]
def HdBody (bg : List Stmt) : Prop := ∃ (p1 p2 p3 p4 p5 p6 p7 p8 p9 p10 p11 p12 p13 p14 p15 p16 : Pos) (k1 k2 k3 k4 k5 : Nat) (h0 : ExceptHandler) (hs : List ExceptHandler),
  bg = [.Assign [.Tuple [.Name "caught" p1, .Name "back" p2] k1 p3] (.Tuple [.Constant .none k2 p4, .Constant .none k3 p5] k4 p6) p7,
    .Try [.Assign [.Name "back" p8] (.Call (.Name "call" p9) [] [] p10) p11] (h0 :: hs) [] [] p12,
    .Return (some (.Tuple [.Name "caught" p13, .Name "back" p14] k5 p15)) p16]
/-- what is known of _law_heard and of the def of the name qual, whose code is cdv -/
structure HdF (K : PySem.W.Frag) (mg : Str → Option Value) (base : Heap) (qual : Str) (cdv : Value) : Prop where
  ex : ∃ (g cc tb : Addr) (fd : FuncData) (pg : Arguments) (bg : List Stmt) (sg : Scope) (kws : List (Str × V)), mg hdN = some (.ref g) ∧ FunD K hdN hdN pg bg sg [] kws g fd ∧ C8.scC hdNs ["call"] sg = true ∧ (∀ x ∈ hdNs, sg.names.lookup x = some .local) ∧ HdBody bg ∧
    (∀ (s : Shared) (u : Value), BindsTo s fd ⟨[u], []⟩ [("call", u)]) ∧ cdv = .ref cc ∧ TabB base mg cc tb ∧ (tb, qual ++ ".<locals>." ++ "<lambda>") ∈ TabInfo.T ∧ ∀ p ∈ TabInfo.T, p.1 = tb → p.2 = qual ++ ".<locals>." ++ "<lambda>"
theorem noPar_dflt {a : Arguments} {env : PySem.Env} (h : noPar a = true) : defaultsOf a env = ([], []) ∧ ∀ (q : Str) (bd : Expr) (sc : Scope) (cl : List (Str × Addr)) (pm cv ctv : Value), bindArgs (PySem.W.kla_fn "<lambda>" q a bd sc cl pm cv ctv) ⟨[], []⟩ = pure [] := by
  obtain ⟨po, ar, va, ko, kd, kw, df⟩ := a
  simp only [noPar, Bool.and_eq_true, List.isEmpty_iff, Option.isNone_iff_eq_none] at h
  obtain ⟨⟨⟨⟨⟨⟨rfl, rfl⟩, rfl⟩, rfl⟩, rfl⟩, rfl⟩, rfl⟩ := h
  exact ⟨rfl, fun _ _ _ _ _ _ _ => rfl⟩
theorem hdR_of {P : Program} {w : World} {K : PySem.W.Frag} {mg : Str → Option Value} {base : Heap} {N : List Str} {qual : Str} {scope : Scope} {f : Addr} {cdv : Value} {A : Around} {outer : List PySem.Env} {s0 : Shared} {H0 : Hp} {E : XK} {j : Nat}
    (h : HdF K mg base qual cdv) (hr : Room (j + 2) (A.deeper (envOfC qual scope s0.heap.objs.size f cdv))) (hg : (A.deeper (envOfC qual scope s0.heap.objs.size f cdv)).guards = some []) : HdR (cxOf (L2.CX P w) P w K mg base N qual scope f cdv A outer s0 H0 E) j := by
  generalize hX : cxOf (L2.CX P w) P w K mg base N qual scope f cdv A outer s0 H0 E = X
  have XA : X.A = A.deeper (envOfC qual scope s0.heap.objs.size f cdv) := by rw [← hX]; rfl
  have XK' : X.K = K := by rw [← hX]; rfl
  have Xm : X.mg = mg := by rw [← hX]; rfl
  have Xb : X.base = base := by rw [← hX]; rfl
  have Xc : X.env.code = cdv := by rw [← hX]; rfl
  have Xq : X.env.qual = qual ++ ".<locals>." := by rw [← hX]; rfl
  rw [← XA] at hr hg
  obtain ⟨g, cc, tb, fd, pg, bg, sg, kws, hm, D, hsc, hloc, hbody, hbind, hcv, TB, mT, uT⟩ := h.ex
  obtain ⟨oc, od, dV, kV, doc, pm, an, cdg, ct, osl, rfl, lk, hcd, _, _⟩ := D.ex
  have S : FnScope hdNs ["call"] sg := C8.fnScope_by hsc
  obtain ⟨p1, p2, p3, p4, p5, p6, p7, p8, p9, p10, p11, p12, p13, p14, p15, p16, k1, k2, k3, k4, k5, h0, hs, rfl⟩ := hbody
  refine ⟨fun {params body scope' p lpos pos tbr} hgl hls hnp mono run => ⟨fun pins s σ H Q I ⟨hT, hq⟩ => ?_⟩⟩
  obtain ⟨nd, nb⟩ := noPar_dflt (env := X.env) hnp
  have L := lamS_by hls
  have hk : PySem.W.keepIn X.K (.ref g) = true := by rw [XK']; exact D.kp
  rw [← XK'] at lk hcd
  rw [← Xm] at hm TB
  rw [← Xb] at TB
  rw [← Xq] at mT uT
  refine wpAny_Call_Name_kw (ld_glob I hgl hm ?_ (by decide +kernel))
  refine PySem.W.callWith_K (h₀ := X.base) I.ok.mod.kin hk ?_ (by rfl) (by rfl)
  show wpAny _ _ (spliced ((false, _) :: backTo pos (starEach [] X.env))) _ _ s
  refine Calls.spliced_cons (lam_mk I TB (by rw [Xc, hcv]) mT uT hT nd (L.has I.ok) fun f1 c1 pm1 ctv1 H1 s1 I1 eT of1 ⟨nf1, ns1⟩ oc1 => Calls.spliced_nil ⟨I1.kIn, ?_⟩)
  have rc : codeAny (model X.prog X.w) X.A (.call (.ref g) ⟨[.ref f1], []⟩) (CR (L2.CX X.prog X.w) X.stack X.prog X.w H1 s1 Q noX) s1 := by
    refine run_ofS (N := hdNs) (ps := ["call"]) (us := [.ref f1]) (vs := [.ref f1]) lk hcd S hr I1.env0 (hbind s1 (.ref f1)) (.cons rfl .nil) rfl fun hr1 => ?_
    generalize hZ : cxOf (L2.CX X.prog X.w) X.prog X.w X.K X.mg X.base hdNs hdN sg g cdg X.A X.stack s1 H1 noX = Z
    have ZN : Z.N = hdNs := by rw [← hZ]; rfl
    have Zs : Z.env.scope = sg := by rw [← hZ]; rfl
    have Zc : Z.calm = true := by rw [← hZ]; rfl
    have Zf : ∀ x, Z.fn x = true := fun x => by rw [← hZ]; rfl
    have loc : ∀ {x : Str}, x ∈ hdNs → L2.Loc Z.env.scope x := fun {x} hx => .inl (by rw [Zs]; exact hloc x hx)
    have vis : ∀ {x : Str}, x ∈ hdNs → Vis Z.env.scope x := fun {x} hx => .inl (by rw [Zs]; exact hloc x hx)
    have n0 : Z.N[0]? = some ("call" : Str) := by rw [ZN]; rfl
    have n1 : Z.N[1]? = some ("caught" : Str) := by rw [ZN]; rfl
    have n2 : Z.N[2]? = some ("back" : Str) := by rw [ZN]; rfl
    have znd : Z.N.Nodup := by rw [ZN]; exact S.nd
    have m1 : ("caught" : Str) ∈ hdNs := by simp [hdNs]
    have m2 : ("back" : Str) ∈ hdNs := by simp [hdNs]
    have hsw : swappedStores [.Tuple [.Name "caught" p1, .Name "back" p2] k1 p3] (.Tuple [.Constant .none k2 p4, .Constant .none k3 p5] k4 p6) Z.env = pure none := by
      unfold swappedStores
      dsimp only
      split
      · rfl
      · split
        · rfl
        · split
          · rfl
          · split
            · rfl
            · rename_i h4
              exact absurd (by rfl) h4
    have st1 := ps_asg (X := Z) (pos := p7) (pe_tup (x1 := k4) (pos := p6) (pa_cons (pe_non (j := k2) (pos := p4)) (pa_cons (pe_non (j := k3) (pos := p5)) pa_nil))) (pg_tup (k := k1) (pos := p3) Zc (pgs_cons (pg_name (pos := p1) znd n1 (loc m1) (.inl (Zf _))) (pgs_cons (pg_name (pos := p2) znd n2 (loc m2) (.inl (Zf _))) pgs_nil))) (by rfl) hsw (by rfl)
    have gA : X.A.guards = some [] := hg
    have act := pe_actN (CX := L2.CX X.prog X.w) (Ng := hdNs) (qg := hdN) (sg := sg) (g := g) (cdg := cdg) (i := 0) (a := "call") (p1 := p9) (p2 := p10) (k := j) rfl I1 L of1 nf1 ns1 (nb _ _ _ _ _ _ _) hr1 gA (fun A' outer' s' H' h1 h2 => run A' outer' s' H' f1 c1 h1 h2) rfl (.inl (hloc _ (by simp [hdNs]))) (by decide +kernel) (by decide +kernel)
    rw [hZ] at act
    have st2 := ps_try_thru0 (X := Z) (h₀ := h0) (hs := hs) (pos := p12) (pss_one (ps_set (X := Z.nox) (pos := p11) (pos' := p8) znd n2 (loc m2) act (by rfl) (.inl (Zf _))))
    have st3 := ps_ret (X := Z) (pos := p16) (pe_tup (x1 := k5) (pos := p15) (pa_cons (pe_var (pos := p13) n1 (vis m1) (by decide +kernel) (by decide +kernel)) (pa_cons (pe_var (pos := p14) n2 (vis m2) (by decide +kernel) (by decide +kernel)) pa_nil)))
    refine ⟨_, pss_cons st1 (pss_cons st2 (pss_one st3)), ?_⟩
    refine ⟨by decide +kernel, fun q hq' => ⟨q, _, rfl, SqT.of upd_same, rfl, _, _, rfl, _, _, rfl, rfl, ?_⟩⟩
    refine ⟨rfl, ext_upd hq' _ _ oc1, mono _ _ _ _ (fun v H3 hv => ?_) (hq H1 eT q hq')⟩
    exact ⟨.non, rfl, v, rfl, (by rw [sizeLine_eq]; simp : [V.non, v].length ≤ sizeLine), fun p2 hp2 => hv p2 hp2⟩
  refine wpAny_call (codeAny_mono rc fun r s2 hq2 => ?_)
  match r, hq2 with
  | .error e, hq2 =>
    obtain ⟨_, _, _, _, _, _, _, _, _, _, _, _, z⟩ := hq2
    exact z.elim
  | .ok (.ret u), hq2 => exact I1.after hq2
  | .ok .next, hq2 => exact hq2.elim
  | .ok .brk, hq2 => exact hq2.elim
  | .ok .cont, hq2 => exact hq2.elim
end Lw
end

section
set_option Elab.async false
set_option linter.all false
set_option maxRecDepth 100000
set_option maxHeartbeats 4000000
/-! L21: a def by its IR -/
namespace Lw
open PySem L2
variable [TabInfo]
section
variable {K : PySem.W.Frag} {mg : Str → Option Value} {W : WX} {P P' P1 P2 : Addr → Prop} {H H' H1 H0 H2 : Hp} {σ σ' σ1 σ2 : L2.St} {E E' E1 E2 E0 : SE}
/-- the slots seen anew: what is there agrees -/
theorem own_re (hm : ∀ (i : Nat) (s : Sl), E2[i]? = some s → s ≠ .no → E[i]? = some s ∧ σ2[i]? = σ[i]?) {a : Addr} (h : OwnS σ2 E2 a) : OwnS σ E a := by
  obtain ⟨i, d, e1, e2⟩ := h
  obtain ⟨q1, q2⟩ := hm i _ e1 (by simp)
  exact ⟨i, d, q1, by rw [← q2]; exact e2⟩
theorem Good.re (g : Good K P H σ E) (hl : σ2.length = E2.length) (hm : ∀ (i : Nat) (s : Sl), E2[i]? = some s → s ≠ .no → E[i]? = some s ∧ σ2[i]? = σ[i]?) : Good K P H σ2 E2 where
  len := hl
  dom := g.dom
  val := fun i d e => by
    obtain ⟨q1, q2⟩ := hm i _ e (by simp)
    obtain ⟨v, e1, r⟩ := g.val i d q1
    exact ⟨v, by rw [q2]; exact e1, r.mono fun a z => ⟨z.1, fun q => z.2 (own_re hm q)⟩⟩
  own := fun i d e => by
    obtain ⟨q1, q2⟩ := hm i _ e (by simp)
    obtain ⟨v, e1, r⟩ := g.own i d q1
    exact ⟨v, by rw [q2]; exact e1, r.monoD fun a _ _ z => ⟨z.1, fun q => z.2 (own_re hm q)⟩⟩
  dis := fun a q => g.dis a (own_re hm q)
  inj := fun i j d d' a e1 e2 e3 e4 => by
    obtain ⟨q1, q2⟩ := hm i _ e1 (by simp)
    obtain ⟨q3, q4⟩ := hm j _ e2 (by simp)
    exact g.inj i j d d' a q1 q3 (by rw [← q2]; exact e3) (by rw [← q4]; exact e4)
  tab := g.tab
theorem Lnk.re (l : Lnk P σ E H P' σ' E' H') (h1 : ∀ a, OwnS σ E a → OwnS σ1 E1 a) (h2 : ∀ a, OwnS σ2 E2 a → OwnS σ' E' a) (h3 : ∀ a, OwnS σ E a → OwnS σ1 E1 a) : Lnk P σ1 E1 H P' σ2 E2 H' :=
  ⟨fun a o e t n => l.keep a o e t fun q => n (h1 a q), fun a q => (l.new a (h2 a q)).imp (h1 a) id, fun a p => (l.pr a p).imp id (·.imp (h1 a) id), l.tbs⟩
end
section
variable {P : Program} {w : World} {K : PySem.W.Frag} {mg : Str → Option Value} {base : Heap} {k : Nat} {Φ : Nat → M Sl} {C : Nat → D}
/-- a body by its IR -/
theorem body_of {W : WX} {Pr : Addr → Prop} {H : Hp} {vs : List V} {E : SE} {n : Nat} {rb st : List Nat} {body : List S} {Q : VK} (hn : vs.length ≤ n) (hst : ∀ i, i < vs.length → i ∈ st → i ∈ rb) (hW : ∀ c d σ σ' H, W c d σ H → W c d σ' H) (g : Good K Pr H (vs.map some) E)
    (h : PostE K mg W Pr (vs.map some) E H Q (fnS Φ C n rb body E)) : TSof K mg W st (exs Φ C body) { nx := fun _ H' => Q .non H', rt := Q } (vs.map some ++ List.replicate (n - vs.length) none) H := by
  have hlen : E.length = vs.length := by rw [← g.len, List.length_map]
  have m0 : ∀ (i : Nat) (s : Sl), (E ++ List.replicate (n - E.length) Sl.no)[i]? = some s → s ≠ .no → E[i]? = some s ∧ (vs.map some ++ List.replicate (n - vs.length) none)[i]? = (vs.map some)[i]? := fun i s e hs => by
    by_cases hi : i < E.length
    · rw [List.getElem?_append_left hi] at e
      exact ⟨e, List.getElem?_append_left (by rw [List.length_map]; omega)⟩
    · rw [List.getElem?_append_right (by omega), List.getElem?_replicate] at e
      split at e
      · cases e; exact absurd rfl hs
      · cases e
  have m1 : ∀ (i : Nat) (s : Sl), E[i]? = some s → s ≠ .no → (E ++ List.replicate (n - E.length) Sl.no)[i]? = some s ∧ (vs.map some)[i]? = (vs.map some ++ List.replicate (n - vs.length) none)[i]? := fun i s e hs => by
    have hi : i < E.length := by
      rcases Nat.lt_or_ge i E.length with h | h
      · exact h
      · rw [List.getElem?_eq_none h] at e; cases e
    exact ⟨by rw [List.getElem?_append_left hi]; exact e, (List.getElem?_append_left (by rw [List.length_map]; omega)).symm⟩
  have g0 : Good K Pr H (vs.map some ++ List.replicate (n - vs.length) none) (E ++ List.replicate (n - E.length) Sl.no) := g.re (by simp [hlen]) m0
  refine ⟨Pr, _, g0, ?_⟩
  unfold fnS at h
  -- the slots at the end, seen from outside
  have fin : ∀ {σ' : L2.St} {E' : SE}, σ'.length = E'.length → Same st (vs.map some ++ List.replicate (n - vs.length) none) σ' → (vs.map some).length = ((wipeE E' rb).take E.length).length ∧
      ∀ (i : Nat) (s : Sl), ((wipeE E' rb).take E.length)[i]? = some s → s ≠ .no → E'[i]? = some s ∧ (vs.map some)[i]? = σ'[i]? := fun {σ' E'} hl sm => by
    have hl' : E'.length = n := by
      rw [← hl, sm.1]; simp; omega
    refine ⟨by rw [List.length_take, wipeE_len, hl', hlen]; simp; omega, fun i s e hs => ?_⟩
    rw [List.getElem?_take] at e
    split at e
    · rename_i hi
      rw [wipeE_at] at e
      split at e
      · split at e
        · cases e; exact absurd rfl hs
        · cases e
      · rename_i hr
        refine ⟨e, ?_⟩
        rw [sm.2 i fun q => hr (hst i (by omega) q)]
        exact (List.getElem?_append_left (by rw [List.length_map]; omega)).symm
    · cases e
  cases e : exs Φ C body (E ++ List.replicate (n - E.length) .no) with
  | bad => rw [e] at h; exact h.elim
  | bk E' => rw [e] at h; exact h.elim
  | ct E' => rw [e] at h; exact h.elim
  | nx E' =>
    rw [e] at h
    intro σ' H' g' l' s'
    obtain ⟨f1, f2⟩ := fin g'.len s'
    have g2 := g'.re f1 f2
    refine h .non H' (g2.less fun a z => z.elim id False.elim) ?_ .non fun a z => z.elim
    exact (l'.re (fun a => own_re m0) (fun a => own_re f2) (fun a => own_re m0)).less fun a z => z.elim id False.elim
  | rt s E' =>
    rw [e] at h
    intro v σ' H' g' l' s' r' n'
    obtain ⟨f1, f2⟩ := fin g'.len s'
    exact h v H' (g'.re f1 f2) (l'.re (fun a => own_re m0) (fun a => own_re f2) (fun a => own_re m0)) (r'.mono2 fun a z => ⟨z.1, fun q => z.2 (own_re f2 q)⟩) n'
  | exc Cn x E' =>
    rw [e] at h
    intro σ' H' cls d g' l' s' x'
    obtain ⟨f1, f2⟩ := fin g'.len s'
    exact hW _ _ _ _ _ (h H' cls d (g'.re f1 f2) (l'.re (fun a => own_re m0) (fun a => own_re f2) (fun a => own_re m0)) (x'.less fun a z => ⟨z.1, fun q => z.2 (own_re f2 q)⟩))
/-- what a def's text may lean on -/
structure Facts (P : Program) (w : World) (K : PySem.W.Frag) (mg : Str → Option Value) (base : Heap) (k : Nat) (Φ : Nat → M Sl) (C : Nat → D) (fs : List FnE) (cs bl : List Str) : Prop where
  fs : ∀ i e, fs[i]? = some e → FnH P w K mg base k e (Φ i)
  cs : ∀ i n, cs[i]? = some n → ∃ v u, mg n = some u ∧ RelV v u ∧ ∀ H, RepB K H (fun _ => False) v (C i)
  bl : ∀ n ∈ bl, mg n = none
def slotsOk (np : Nat) (st rb : List Nat) : Bool := st.all fun i => !(decide (i < np)) || rb.contains i
theorem fn_ok {f : Addr} {name qual : Str} {params : Arguments} {body : List Stmt} {scope : Scope} {dV kV doc pm cdv ct oc : Value} {an od : Option Addr}
    {osl : Array (Option Value)} {N ps : List Str} {fs : List FnE} {cs bl : List Str} {st rb : List Nat} {b : List S}
    (lk : K.lookup f = some ⟨oc, od, .func (PySem.W.fnOf name qual params body scope dV kV doc pm an cdv ct), osl⟩) (hcd : PySem.W.codeIn K cdv qual = true) (S : FnScope N ps scope)
    {hd : Bool} (F : Facts P w K mg base k Φ C fs cs bl) (hs : slotsOk ps.length st rb = true) (hc : chkSs b ⟨N, scope, fs, cs, bl, st, true, hd⟩ body = true)
    (hH : hd = true → HdF K mg base qual cdv ∧ ∃ j, j + 2 ≤ k ∧ ∀ i e, fs[i]? = some e → FnH P w K mg base j e (Φ i)) :
    FOk P w K mg base (k + 1) f (PySem.W.fnOf name qual params body scope dV kV doc pm an cdv ct) ps (spF K mg ps.length (fnS Φ C N.length rb b)) := by
  refine ⟨fun vs H Q E h => h.1, fun A outer s H args us vs Q E hr hg e0 hb r hsp => ?_⟩
  obtain ⟨hl, Pr, E0, g, hp⟩ := hsp
  have hpl : ps.length ≤ N.length := by have := congrArg List.length S.pre; rw [List.length_take] at this; omega
  have KX : K.In s.heap := e0.mod.kin.keeps fun b o e => (e0.bs b o e).1
  have lim : s.heap.NoLimit := e0.mod.nolimit.keeps fun b o e => (e0.bs b o e).1
  have hkind : ∀ y ∈ ps.zip us, scope.names.lookup y.1 = some .local ∨ (scope.names.lookup y.1 = some .cell ∧ ((cellsFrom (s.heap.objs.size + 1) scope.names []).lookup y.1).isSome = true) := fun ⟨n, v⟩ hy => by
    rcases S.par n (List.of_mem_zip hy).1 with q | q
    · exact .inl q
    · exact .inr ⟨q, PySem.W.cellsFrom_some _ _ _ (.inl q)⟩
  refine codeAny_call_function hr.depth (KX _ _ lk) rfl S.co S.gen rfl (PySem.W.codeRec_of KX hcd) (hb _ _ _ _ ?_)
  refine wpAny_newFunctionEnv_cells S.kind hkind fun env he s1 x => ?_
  subst he
  refine ⟨lim.keeps x.toInCall.keep, codeAny_func ?_⟩
  have I : Inv (cxOf (L2.CX P w) P w K mg base N qual scope f cdv A outer s H E) [] (start N vs) H s1 := inv_start S hr.hd e0 hl r x
  have ok : (⟨N, scope, fs, cs, bl, st, true, hd⟩ : Ck).Ok (cxOf (L2.CX P w) P w K mg base N qual scope f cdv A outer s H E) k Φ C (fun c d _ H' => E c d H') :=
    ⟨rfl, S.nd, rfl, S.kind, rfl, fun _ _ => rfl, hr.deeper _, hg, takes_of rfl rfl rfl rfl, passes_of rfl, F.fs, F.cs, F.bl, fun hh => by
      obtain ⟨h1, j, hj, h2⟩ := hH hh
      exact ⟨j, hdR_of h1 ((hr.deeper _).mono hj) hg, h2⟩⟩
  have hq : TSof K mg (fun c d _ H' => E c d H') st (exs Φ C b) { nx := fun _ H' => Q .non H', rt := Q } (start N vs) H :=
    body_of (by omega) (fun i hi hs' => by
      have := List.all_eq_true.mp hs i hs'
      have hi' : i < ps.length := by omega
      simpa [hi'] using this) (fun _ _ _ _ _ h => h) g hp
  refine wpAny_mono ((sndSs b _ _ k _ body ok hc).run [] s1 (start N vs) H _ I hq) (fun fl s' hs => ?_) fun e s' hs => hs
  have fin : ∀ {σ' : L2.St} {H' : Hp} {v : V} {u : Value}, Inv (cxOf (L2.CX P w) P w K mg base N qual scope f cdv A outer s H E) [] σ' H' s' → RelV v u → Q v H' → CE outer P w H s Q u s' :=
    fun {σ' H' v u} J rv q => ⟨v, H', J.os, J.bare, J.base, J.hok, rv, q⟩
  cases fl with
  | ret u =>
    obtain ⟨v, σ', H', J, rv, q⟩ := hs
    exact fin J rv q
  | next =>
    obtain ⟨σ', H', J, q⟩ := hs
    exact fin (v := V.non) (u := Value.none) J rfl q
  | brk =>
    obtain ⟨_, _, _, q⟩ := hs
    exact False.elim q
  | cont =>
    obtain ⟨_, _, _, q⟩ := hs
    exact False.elim q
end
end Lw
end

section
set_option Elab.async false
set_option linter.all false
set_option maxRecDepth 100000
set_option maxHeartbeats 4000000
/-! L22: the defs of a text, all together -/
namespace Lw
open PySem L2 PySem.Spec PyProof.Rows
variable [TabInfo]
def nx (Φ : Nat → M Sl) (j : Nat) (F : M Sl) : Nat → M Sl := fun i => if i = j then F else Φ i
section
variable {P : Program} {w : World} {K : PySem.W.Frag} {mg : Str → Option Value} {base : Heap} {k : Nat} {Φ : Nat → M Sl} {C : Nat → D} {fs : List FnE} {cs bl : List Str}
theorem FnH.mono {e : FnE} {F : M Sl} {j : Nat} (h : FnH P w K mg base j e F) (hj : j ≤ k) : FnH P w K mg base k e F := by
  obtain ⟨f, fd, ps, h1, h2, h3, h4, h5, h6⟩ := h.ex
  exact ⟨f, fd, ps, h1, h2, h3, h4, h5, h6.mono hj⟩
theorem _root_.L2.FunD.bindsKw {x qual : Str} {params : Arguments} {body : List Stmt} {scope : Scope} {kws : List (Str × V)} {f : Addr} {fd : FuncData} {A : Args} {r : List (Str × Value)} (F : FunD K x qual params body scope [] kws f fd)
    (h : ∀ (kV doc pm : Value) (an : Option Addr) (cdv ct : Value), bindArgs (PySem.W.fnOf x qual params body scope .none kV doc pm an cdv ct) A = pure r) (s : Shared) : BindsTo s fd A r := by
  obtain ⟨oc, od, dV, kV, doc, pm, an, cdv, ct, osl, rfl, _, _, hD, _⟩ := F.ex
  rcases hD with ⟨_, rfl⟩ | ⟨e, _⟩
  · exact .of_eq (h kV doc pm an cdv ct)
  · exact absurd rfl e
theorem Facts.none (hc : ∀ i n, cs[i]? = some n → ∃ v u, mg n = some u ∧ RelV v u ∧ ∀ H, RepB K H (fun _ => False) v (C i)) (hb : ∀ n ∈ bl, mg n = Option.none) : Facts P w K mg base 0 (fun _ => M.bad) C [] cs bl :=
  ⟨fun i e h => by simp at h, hc, hb⟩
/-- one def more -/
theorem Facts.def_ (F : Facts P w K mg base k Φ C fs cs bl) {x : Str} {params : Arguments} {body : List Stmt} {scope : Scope} {kws : List (Str × V)} {f : Addr} {fd : FuncData} {N ps : List Str} {st rb : List Nat} {b : List S}
    (D : FunD K x x params body scope [] kws f fd) (S : C8.scC N ps scope = true) (hs : slotsOk ps.length st rb = true) (hc : chkSs b ⟨N, scope, fs, cs, bl, st, true, false⟩ body = true) :
    FOk P w K mg base (k + 1) f fd ps (spF K mg ps.length (fnS Φ C N.length rb b)) := by
  obtain ⟨oc, od, dV, kV, doc, pm, an, cdv, ct, osl, rfl, lk, hcd, _, _⟩ := D.ex
  exact fn_ok lk hcd (C8.fnScope_by S) F hs hc fun z => by cases z
theorem Facts.step (F : Facts P w K mg base k Φ C fs cs bl) {x : Str} {params : Arguments} {body : List Stmt} {scope : Scope} {kws : List (Str × V)} {f : Addr} {fd : FuncData} {N ps : List Str} {st rb : List Nat} {b : List S}
    (D : FunD K x x params body scope [] kws f fd) (hm : mg x = some (.ref f))
    (ks : List (Nat × List Str)) (hb : ∀ (kV doc pm : Value) (an : Option Addr) (cdv ct : Value) (us : List Value), us.length = ps.length → bindArgs (PySem.W.fnOf x x params body scope .none kV doc pm an cdv ct) ⟨us, []⟩ = pure (ps.zip us))
    (hkb : ∀ q ∈ ks, q.1 + q.2.length = ps.length ∧ ∀ (kV doc pm : Value) (an : Option Addr) (cdv ct : Value) (us ws : List Value), us.length = q.1 → ws.length = q.2.length → bindArgs (PySem.W.fnOf x x params body scope .none kV doc pm an cdv ct) ⟨us, q.2.zip ws⟩ = pure (ps.zip (us ++ ws)))
    (S : C8.scC N ps scope = true) (hs : slotsOk ps.length st rb = true) (hc : chkSs b ⟨N, scope, fs, cs, bl, st, true, false⟩ body = true) :
    Facts P w K mg base (k + 1) (nx Φ fs.length (fnS Φ C N.length rb b)) C (fs ++ [⟨x, ps.length, ks⟩]) cs bl := by
  refine ⟨fun i e h => ?_, F.cs, F.bl⟩
  rcases Nat.lt_or_ge i fs.length with hi | hi
  · rw [List.getElem?_append_left hi] at h
    have hne : i ≠ fs.length := by omega
    have := (F.fs i e h).mono (Nat.le_succ k)
    unfold nx
    rw [if_neg hne]; exact this
  · rw [List.getElem?_append_right hi] at h
    have : i = fs.length := by
      rcases Nat.lt_or_ge (i - fs.length) 1 with q | q
      · omega
      · rw [List.getElem?_eq_none (by simpa using q)] at h; cases h
    subst this
    simp at h
    subst h
    unfold nx
    rw [if_pos rfl]
    exact ⟨f, fd, ps, hm, D.kp, D.bindsN hb, fun q hq => ⟨(hkb q hq).1, fun s us ws _ h1 h2 => D.bindsKw (fun kV doc pm an cdv ct => (hkb q hq).2 kV doc pm an cdv ct us ws h1 h2) s⟩, rfl, F.def_ D S hs hc⟩
theorem Facts.mono {j : Nat} (F : Facts P w K mg base j Φ C fs cs bl) (h : j ≤ k) : Facts P w K mg base k Φ C fs cs bl := ⟨fun i e z => (F.fs i e z).mono h, F.cs, F.bl⟩
/-- one def more, in which a lambda is handed to _law_heard -/
theorem Facts.stepH (F : Facts P w K mg base k Φ C fs cs bl) {x : Str} {params : Arguments} {body : List Stmt} {scope : Scope} {kws : List (Str × V)} {f : Addr} {fd : FuncData} {N ps : List Str} {st rb : List Nat} {b : List S}
    (D : FunD K x x params body scope [] kws f fd) (hm : mg x = some (.ref f))
    (hb : ∀ (kV doc pm : Value) (an : Option Addr) (cdv ct : Value) (us : List Value), us.length = ps.length → bindArgs (PySem.W.fnOf x x params body scope .none kV doc pm an cdv ct) ⟨us, []⟩ = pure (ps.zip us))
    (S : C8.scC N ps scope = true) (hs : slotsOk ps.length st rb = true) (hc : chkSs b ⟨N, scope, fs, cs, bl, st, true, true⟩ body = true)
    (hH : ∀ (oc dV kV doc pm cdv ct : Value) (od an : Option Addr) (osl : Array (Option Value)), K.lookup f = some ⟨oc, od, .func (PySem.W.fnOf x x params body scope dV kV doc pm an cdv ct), osl⟩ → PySem.W.codeIn K cdv x = true → HdF K mg base x cdv) :
    Facts P w K mg base (k + 3) (nx Φ fs.length (fnS Φ C N.length rb b)) C (fs ++ [⟨x, ps.length, []⟩]) cs bl := by
  refine ⟨fun i e h => ?_, F.cs, F.bl⟩
  rcases Nat.lt_or_ge i fs.length with hi | hi
  · rw [List.getElem?_append_left hi] at h
    have hne : i ≠ fs.length := by omega
    have := (F.fs i e h).mono (show k ≤ k + 3 by omega)
    unfold nx
    rw [if_neg hne]; exact this
  · rw [List.getElem?_append_right hi] at h
    have : i = fs.length := by
      rcases Nat.lt_or_ge (i - fs.length) 1 with q | q
      · omega
      · rw [List.getElem?_eq_none (by simpa using q)] at h; cases h
    subst this
    simp at h
    subst h
    unfold nx
    rw [if_pos rfl]
    refine ⟨f, fd, ps, hm, D.kp, D.bindsN hb, fun q hq => (List.not_mem_nil hq).elim, rfl, ?_⟩
    obtain ⟨oc, od, dV, kV, doc, pm, an, cdv, ct, osl, rfl, lk, hcd, _, _⟩ := D.ex
    exact fn_ok lk hcd (C8.fnScope_by S) (F.mono (Nat.le_add_right k 2)) hs hc fun _ => ⟨hH oc dV kV doc pm cdv ct od an osl lk hcd, k, Nat.le_refl _, F.fs⟩
/-- a def that is not to be come to -/
theorem Facts.bad (F : Facts P w K mg base k Φ C fs cs bl) {x : Str} {params : Arguments} {body : List Stmt} {scope : Scope} {kws : List (Str × V)} {f : Addr} {fd : FuncData} {ps : List Str}
    (D : FunD K x x params body scope [] kws f fd) (hm : mg x = some (.ref f))
    (hb : ∀ (kV doc pm : Value) (an : Option Addr) (cdv ct : Value) (us : List Value), us.length = ps.length → bindArgs (PySem.W.fnOf x x params body scope .none kV doc pm an cdv ct) ⟨us, []⟩ = pure (ps.zip us)) :
    Facts P w K mg base (k + 1) (nx Φ fs.length M.bad) C (fs ++ [⟨x, ps.length, []⟩]) cs bl := by
  refine ⟨fun i e h => ?_, F.cs, F.bl⟩
  rcases Nat.lt_or_ge i fs.length with hi | hi
  · rw [List.getElem?_append_left hi] at h
    have hne : i ≠ fs.length := by omega
    have := (F.fs i e h).mono (Nat.le_succ k)
    unfold nx
    rw [if_neg hne]; exact this
  · rw [List.getElem?_append_right hi] at h
    have : i = fs.length := by
      rcases Nat.lt_or_ge (i - fs.length) 1 with q | q
      · omega
      · rw [List.getElem?_eq_none (by simpa using q)] at h; cases h
    subst this
    simp at h
    subst h
    unfold nx
    rw [if_pos rfl]
    refine ⟨f, fd, ps, hm, D.kp, D.bindsN hb, fun q hq => (List.not_mem_nil hq).elim, rfl, fun vs H Q E h => h.1, fun A outer s H args us vs Q E _ _ _ _ _ h => ?_⟩
    obtain ⟨_, Pr, E0, g, z⟩ := h
    exact z.elim
end
/-! ### the law's end -/
section
variable {P : Program} {w : World} {K : PySem.W.Frag} {mg mb : Str → Option Value} {k : Nat} {fa a : Addr} {fd : FuncData} {x : Str} {s : Shared} {us : List Value} {ns : List Int} {cs : List (Addr × Addr)}
/-- the heap of what is tracked at the start: the script, where the module does not know it, and the tables cs -/
def scrH (K : PySem.W.Frag) (cs : List (Addr × Addr)) (a : Addr) (us : List Value) (ns : List Int) : Hp := fun b =>
  if b ∈ cs.map (·.2) then some (.tbl #[]) else if b = a ∧ K.lookup a = none then some (.frz { cls := .type "list", data := .seq us.toArray } (.lst (ns.map V.int))) else none
theorem scrH_ne {b : Addr} {u : HO} (h : scrH K cs a us ns b = some u) : (b ∈ cs.map (·.2) ∧ u = .tbl #[]) ∨ (b ∉ cs.map (·.2) ∧ (b = a ∧ K.lookup a = none) ∧ u = .frz { cls := .type "list", data := .seq us.toArray } (.lst (ns.map V.int))) := by
  unfold scrH at h
  split at h
  · rename_i hb
    cases h; exact .inl ⟨hb, rfl⟩
  · rename_i hb
    split at h
    · rename_i hc
      cases h; exact .inr ⟨hb, hc, rfl⟩
    · cases h
theorem law_end {F : M Sl} {E' : SE} (KX : K.In s.heap) (hns : s.heap.Ns mainGlobals mg) (hb : s.heap.Ns builtinsNs mb) (hbb : ∀ x : Str, x ≠ "__name__" → mb x = bootBuiltins x) (hlim : s.heap.NoLimit) (hg : s.gens = #[])
    (tT : ∀ q ∈ cs, s.heap.get? q.2 = some { cls := .none, data := .fields #[] }) (tK : ∀ q ∈ cs, K.lookup q.2 = none) (tC : ∀ q ∈ cs, PySem.W.CodeHd s.heap q.1 q.2) (tI : ∀ q ∈ TabInfo.T, q.1 ∈ cs.map (·.2))
    (tM : cs ≠ [] → ∃ (bm : Addr) (ob : Obj), mg "__builtins__" = some (.ref bm) ∧ bm ≠ builtinsNs ∧ s.heap.get? bm = some ob ∧ ob.cls = .type "module" ∧ ob.dict = some builtinsNs ∧ ob.data = .plain)
    (ha : s.heap.get? a = some { cls := .type "list", data := .seq us.toArray }) (hi : IntsAre us ns) (hl : ns.length ≤ sizeLine) (hr : Room k callerA)
    (hF : ∀ base : Heap, K.In base → base.Ns mainGlobals mg → (∀ q ∈ cs, LamX.TabB base mg q.1 q.2) → FOk P w K mg base k fa fd [x] (spF K mg 1 F)) (hbind : ∀ (s : Shared) (u : Value), BindsTo s fd ⟨[u], []⟩ [(x, u)])
    (plain : F [.val (.scr ns)] = .ok (.val (.bl true)) E') :
    codeAny (model P w) callerA (.call (.ref fa) ⟨[.ref a], []⟩) (fun r t => r = .ok (.ret (.bool true)) ∧ OldK s.heap t.heap ∧ t.os = s.os ∧ AllBare t.gens) s := by
  generalize hH : scrH K cs a us ns = H
  have isTb : ∀ {b : Addr}, b ∈ cs.map (·.2) → s.heap.get? b = some { cls := .none, data := .fields #[] } := fun {b} z => by
    obtain ⟨q, hq, rfl⟩ := List.mem_map.mp z
    exact tT q hq
  have aNo : a ∉ cs.map (·.2) := fun z => by
    have e := isTb z
    rw [ha] at e
    have e2 := congrArg Obj.data (Option.some.inj e)
    cases e2
  have cse : ∀ {b u}, H b = some u → (b ∈ cs.map (·.2) ∧ u = .tbl #[]) ∨ (b ∉ cs.map (·.2) ∧ (b = a ∧ K.lookup a = none) ∧ u = .frz { cls := .type "list", data := .seq us.toArray } (.lst (ns.map V.int))) := fun {b u} z => scrH_ne (by rw [hH]; exact z)
  have atT : ∀ {b}, b ∈ cs.map (·.2) → H b = some (.tbl #[]) := fun {b} z => by rw [← hH]; exact if_pos z
  have lenV := hi.length
  have rv := vals_ints hi
  -- what is neither a list nor an empty table is not tracked
  have free : ∀ {b : Addr} {o : Obj}, s.heap.get? b = some o → o.data ≠ .seq us.toArray → o.data ≠ .fields #[] → H b = none := fun {b o} e n1 n2 => by
    cases q : H b with
    | none => rfl
    | some u =>
      rcases cse q with ⟨z, _⟩ | ⟨_, ⟨z, _⟩, _⟩
      · rw [isTb z] at e; cases e; exact absurd rfl n2
      · rw [z, ha] at e; cases e; exact absurd rfl n1
  have freeD : ∀ {b : Addr} {o : Obj} {es : Array DictEntry} {ep : Nat}, s.heap.get? b = some o → o.data = .dict es ep → H b = none := fun {b o es ep} e d => free e (by rw [d]; exact fun z => nomatch z) (by rw [d]; exact fun z => nomatch z)
  have ns' : ∀ {b : Addr} {m : Str → Option Value}, s.heap.Ns b m → (hidT s.heap H).Ns b m := fun {b m} z => by
    obtain ⟨o, es, ep, e, d, r⟩ := z
    exact ⟨o, es, ep, hidT_get e (freeD e d), d, r⟩
  have inK : K.In (hidT s.heap H) := fun b o e => hidT_get (KX b o e) (by
    cases q : H b with
    | none => rfl
    | some u =>
      rcases cse q with ⟨z, _⟩ | ⟨_, ⟨z, n⟩, _⟩
      · obtain ⟨p, hp, rfl⟩ := List.mem_map.mp z
        rw [tK p hp] at e; cases e
      · rw [z, n] at e; cases e)
  have md : Mod K mg (hidT s.heap H) := ⟨inK, ns' hns, ⟨mb, ns' hb, hbb⟩, by
    obtain ⟨mc, h1, h2⟩ := hlim
    exact ⟨mc, ns' h1, h2⟩⟩
  have good : HOk P w H s.heap := fun b u z => by
    rcases cse z with ⟨hb, rfl⟩ | ⟨_, ⟨hb, _⟩, rfl⟩
    · exact isTb hb
    · rw [hb]
      exact ⟨ha, by rw [List.length_map]; exact hl, us, _, rv, ha⟩
  have env : Env0 P w K mg (hidT s.heap H) callerA [] s H := ⟨rfl, md, fun b o e => of_hidT e, Nat.le_of_eq (hidT_size _ _), trivial, fun b z => (List.not_mem_nil z).elim, good, .of_eq hg⟩
  have tabs : ∀ q ∈ cs, LamX.TabB (hidT s.heap H) mg q.1 q.2 := fun q hq => by
    have at2 := tT q hq
    refine ⟨?_, ?_, fun z => ?_⟩
    · obtain ⟨o, vs, f1, f2, f3, f4, f5, f6, f7, e, r1, r2, r3, rest⟩ := tC q hq
      refine ⟨o, vs, f1, f2, f3, f4, f5, f6, f7, hidT_get e (free e ?_ ?_), r1, r2, r3, rest⟩
      · rw [r2]; exact fun z => nomatch z
      · rw [r2]
        intro z
        cases z
        simp at r3
    · obtain ⟨bm, ob, b1, b2, b3, b4, b5, b6⟩ := tM (fun z => by rw [z] at hq; cases hq)
      refine ⟨bm, ob, b1, b2, fun z => ?_, fun z => ?_, hidT_get b3 (free b3 ?_ ?_), b4, b5, b6⟩
      · obtain ⟨o, es, ep, e, d, _⟩ := hns
        rw [z, e] at b3; cases b3
        rw [d] at b6; cases b6
      · rw [z, at2] at b3; cases b3; cases b6
      · rw [b6]; exact fun z => nomatch z
      · rw [b6]; exact fun z => nomatch z
    · obtain ⟨o, es, ep, e, d, _⟩ := hns
      rw [z, at2] at e; cases e; cases d
  have scr : Scr K H a ns := by
    cases q : K.lookup a with
    | none => exact .inl ⟨_, by rw [← hH]; unfold scrH; rw [if_neg aNo]; exact if_pos ⟨rfl, q⟩⟩
    | some o =>
      have e := KX a o q
      rw [ha] at e; cases e
      exact .inr ⟨_, us.toArray, _, q, rfl, rfl, rfl, by rw [List.size_toArray, lenV]; exact hl, by simpa using rv⟩
  have sp : spF K mg 1 F [.ref a] H (fun v _ => v = .bl true) fun _ _ _ => False := by
    refine ⟨rfl, fun _ => False, [.val (.scr ns)], ⟨rfl, fun _ h => h.elim, fun i d e => ?_, fun i d e => ?_, fun b _ h => h, fun i j d d' b e => ?_, fun q hq => LamX.TabS.nil (atT (tI q hq))⟩, ?_⟩
    · rcases i with _ | i
      · cases e
        exact ⟨_, rfl, ⟨_, .scr scr, fun _ z => nomatch z⟩⟩
      · simp at e
    · rcases i with _ | i
      · cases e
      · simp at e
    · rcases i with _ | i
      · cases e
      · simp at e
    · rw [plain]
      intro v H' _ _ r _
      obtain ⟨S, r, _⟩ := (show RepB K H' _ v (.bl true) from r)
      cases r; rfl
  refine codeAny_mono ((hF _ inK (ns' hns) tabs).run callerA [] s H ⟨[.ref a], []⟩ [.ref a] [.ref a] _ _ hr rfl env (hbind s (.ref a)) (.cons rfl .nil) sp) fun r t h => ?_
  match r, h with
  | .error e, h =>
    obtain ⟨a, B, H', cls, d, _, _, _, _, _, _, _, z⟩ := h
    exact z.elim
  | .ok .next, h => exact h.elim
  | .ok .brk, h => exact h.elim
  | .ok .cont, h => exact h.elim
  | .ok (.ret u), h =>
    obtain ⟨v, H', os, bare, un, hok', r', q⟩ := h
    obtain rfl : v = .bl true := q
    obtain rfl : u = Value.bool true := r'
    have same : ∀ {b : Addr} {o : Obj}, b ∉ cs.map (·.2) → s.heap.get? b = some o → t.heap.get? b = some o := fun {b o} hb e => by
      cases q : H b with
      | none => exact un.keep b o e q List.not_mem_nil (by simp)
      | some u =>
        rcases cse q with ⟨z, _⟩ | ⟨_, ⟨z, _⟩, rfl⟩
        · exact absurd z hb
        · have z2 := un.frzs b _ _ q
          obtain ⟨e1, _⟩ := good b _ q
          obtain ⟨e2, _⟩ := hok' b _ z2
          rw [e] at e1; cases e1
          exact e2
    have more : ∀ q ∈ cs, ∃ ps : Array Value, t.heap.get? q.2 = some { cls := .none, data := .fields ps } := fun q hq => by
      obtain ⟨ps, z⟩ := un.tbls q.2 #[] (atT (List.mem_map.mpr ⟨q, hq, rfl⟩))
      exact ⟨_, hok' q.2 _ z⟩
    refine ⟨rfl, ⟨fun b o e => ?_, fun b o e => ?_⟩, os, bare⟩
    · by_cases hb : b ∈ cs.map (·.2)
      · obtain ⟨q, hq, rfl⟩ := List.mem_map.mp hb
        obtain ⟨ps, z⟩ := more q hq
        rw [tT q hq] at e; cases e
        refine .inr (.inl ⟨((tC q hq).tab (tT q hq)).isCodeTable, rfl, #[], ps, rfl, ?_⟩)
        rw [Array.empty_append]; exact z
      · exact .inl (same hb e)
    · by_cases hb : b ∈ cs.map (·.2)
      · obtain ⟨q, hq, rfl⟩ := List.mem_map.mp hb
        obtain ⟨ps, z⟩ := more q hq
        exact ⟨_, z⟩
      · exact ⟨o, same hb e⟩
end
/-- a law whose defs make no lambdas -/
theorem walk_end {l : PySem.W.OpenLaw} {n k : Nat} {x : Str} {q : Program} {loose : List Str} {XP : (Str → Option Value) → Heap → Prop} {YP : World → Heap → Prop} {d : DefRec}
    (hn : l.most = some n) (hn2 : n ≤ sizeLine) (hdf : d.params.defaults = []) (hr : Room k callerA)
    (F : ∀ (w : World) (mg : Str → Option Value) (fa : Addr) (h : Heap), YP w h → h.Ns mainGlobals mg → mg d.name = some (.ref fa) →
      ∃ (K : PySem.W.Frag) (fd : FuncData) (f : M Sl), K.In h ∧ (∀ (s : Shared) (u : Value), BindsTo s fd ⟨[u], []⟩ [(x, u)]) ∧ (∀ ns : List Int, ns.length ≤ n → ∃ E', f [.val (.scr ns)] = .ok (.val (.bl true)) E') ∧
        ∀ [TabInfo] (base : Heap), K.In base → base.Ns mainGlobals mg → FOk l.prog w K mg base k fa fd [x] (spF K mg 1 f)) :
    PySem.W.WalkO q loose XP YP l.row.toRowW d [] (fun f vs => PySem.call f vs) := by
  refine Att.attach_call hn hdf fun w s₀ s₁ mg mb fa o pm cd doc a vs ns G Y ho hd hcd hmg hobj hints hlen hg => ?_
  obtain ⟨K, fd, f, KX, hb, hp, hF⟩ := F w mg fa _ Y G.T.g hmg
  obtain ⟨E', hp⟩ := hp ns hlen
  letI : TabInfo := ⟨[]⟩
  exact law_end (cs := []) KX G.T.g G.T.b G.T.builtins G.T.nolimit hg (fun _ z => nomatch z) (fun _ z => nomatch z) (fun _ z => nomatch z) (fun _ z => nomatch z) (fun z => absurd rfl z) hobj hints (Nat.le_trans hlen hn2) hr (fun base h1 h2 _ => hF base h1 h2) hb hp
/-- a law whose defs make lambdas: cs, the code objects and their tables -/
theorem walk_endT {l : PySem.W.OpenLaw} {n k : Nat} {x : Str} {q : Program} {loose : List Str} {XP : (Str → Option Value) → Heap → Prop} {YP : World → Heap → Prop} {d : DefRec}
    (hn : l.most = some n) (hn2 : n ≤ sizeLine) (hdf : d.params.defaults = []) (hr : Room k callerA)
    (F : ∀ (w : World) (mg : Str → Option Value) (fa : Addr) (h : Heap), YP w h → h.Ns mainGlobals mg → mg d.name = some (.ref fa) →
      ∃ (K : PySem.W.Frag) (fd : FuncData) (f : M Sl) (cs : List (Addr × Addr)) (T : List (Addr × Str)), K.In h ∧ (∀ (s : Shared) (u : Value), BindsTo s fd ⟨[u], []⟩ [(x, u)]) ∧ (∀ ns : List Int, ns.length ≤ n → ∃ E', f [.val (.scr ns)] = .ok (.val (.bl true)) E') ∧
        (∀ p ∈ cs, h.get? p.2 = some { cls := .none, data := .fields #[] }) ∧ (∀ p ∈ cs, K.lookup p.2 = none) ∧ (∀ p ∈ cs, PySem.W.CodeHd h p.1 p.2) ∧ (∀ p ∈ T, p.1 ∈ cs.map (·.2)) ∧
        ∀ base : Heap, K.In base → base.Ns mainGlobals mg → (∀ p ∈ cs, LamX.TabB base mg p.1 p.2) → @FOk l.prog w K mg base k fa fd [x] (@spF ⟨T⟩ K mg 1 f)) :
    PySem.W.WalkO q loose XP YP l.row.toRowW d [] (fun f vs => PySem.call f vs) := by
  refine Att.attach_callB hn hdf fun w s₀ s₁ mg mb fa o pm cd doc a vs ns G Y ho hd hcd hmg hobj hints hlen hbits hg => ?_
  obtain ⟨K, fd, f, cs, T, KX, hb, hp, h1, h2, h3, h4, hF⟩ := F w mg fa _ Y G.T.g hmg
  obtain ⟨E', hp⟩ := hp ns hlen
  letI : TabInfo := ⟨T⟩
  exact law_end (cs := cs) KX G.T.g G.T.b G.T.builtins G.T.nolimit hg h1 h2 h3 h4 (fun _ => G.T.bmain) hobj hints (Nat.le_trans hlen hn2) hr hF hb hp
end Lw
end

section
set_option Elab.async false
set_option linter.all false
set_option maxRecDepth 100000
set_option maxHeartbeats 4000000
/-! L23: the head of a law with a lambda -/
namespace Lw
open PySem PySem.Spec PyProof.Rows L2 LamX
def hdBodyB : List Stmt → Bool
  | [.Assign [.Tuple [.Name a _, .Name b _] _ _] (.Tuple [.Constant .none _ _, .Constant .none _ _] _ _) _,
     .Try [.Assign [.Name b' _] (.Call (.Name c _) [] [] _) _] (_ :: _) [] [] _,
     .Return (some (.Tuple [.Name a' _, .Name b'' _] _ _)) _] => a == ("caught" : Str) && b == ("back" : Str) && b' == ("back" : Str) && c == ("call" : Str) && a' == ("caught" : Str) && b'' == ("back" : Str)
  | _ => false
theorem hdBodyB_ok {bg : List Stmt} (h : hdBodyB bg = true) : HdBody bg := by
  unfold hdBodyB at h
  split at h
  · simp only [Bool.and_eq_true, beq_iff_eq] at h
    obtain ⟨⟨⟨⟨⟨rfl, rfl⟩, rfl⟩, rfl⟩, rfl⟩, rfl⟩ := h
    exact ⟨_, _, _, _, _, _, _, _, _, _, _, _, _, _, _, _, _, _, _, _, _, _, _, rfl⟩
  · cases h
theorem hdF_of {K : PySem.W.Frag} {mg : Str → Option Value} {base : Heap} {q : Str} {g : Addr} {fd : FuncData} {pg : Arguments} {bg : List Stmt} {sg : Scope} {kws : List (Str × V)}
    (hm : mg hdN = some (.ref g)) (D : FunD K hdN hdN pg bg sg [] kws g fd) (hs : C8.scC hdNs ["call"] sg = true) (hl : ∀ x ∈ hdNs, sg.names.lookup x = some .local) (hb : hdBodyB bg = true)
    (hbind : ∀ (s : Shared) (u : Value), BindsTo s fd ⟨[u], []⟩ [("call", u)])
    {oc : Value} {od : Option Addr} {osl : Array (Option Value)} {fd' : FuncData} {cdv : Value} (lk : K.lookup (He.fAd K (q, none)) = some ⟨oc, od, .func fd', osl⟩) (hc : fd'.code = cdv) (hcd : PySem.W.codeIn K cdv q = true)
    (TB : TabB base mg (He.cT K (q, none)).1 (He.cT K (q, none)).2) :
    @HdF ⟨[((He.cT K (q, none)).2, q ++ ".<locals>." ++ "<lambda>")]⟩ K mg base q cdv := by
  letI : TabInfo := ⟨[((He.cT K (q, none)).2, q ++ ".<locals>." ++ "<lambda>")]⟩
  obtain ⟨c, rfl⟩ := He.codeIn_ref hcd
  refine ⟨⟨g, c, (He.cT K (q, none)).2, fd, pg, bg, sg, kws, hm, D, hs, hl, hdBodyB_ok hb, hbind, rfl, ?_, List.mem_cons_self, fun p hp _ => ?_⟩⟩
  · have e : (He.cT K (q, none)).1 = c := He.codeOf_eq lk hc
    rw [← e]; exact TB
  · rcases List.mem_cons.mp hp with rfl | hp
    · rfl
    · cases hp
end Lw
end

section
set_option Elab.async false
set_option linter.all false
set_option maxRecDepth 100000
set_option maxHeartbeats 0
namespace Lw
open PySem L2 PySem.Spec PyProof.Rows
abbrev PR : Program := PySem.Challenge.pw_howeveritpasses_k84_whole_how_late_and_h
def top (i : Nat) : Stmt := PR.main.body.getD i (.Pass ⟨0, 0, 0, 0⟩)
def CS : List Str := ["MOST_PAIRS", "MOST_RATE", "MOST_BURST", "MOST_LATE", "NEVER", "LATE", "MOST_SIZE", "MOST_TICKS", "THREE"]
def CC : Nat → D := fun i => ([.int 8, .int 100, .int 400, .int 200, .str "never", .str "late", .int 1000, .int 500, .int 3] : List D).getD i .non
def BL : List Str := ["int", "len", "range", "tuple", "min", "max", "isinstance", "bool", "all", "zip", "enumerate", "sorted", "sum", "str", "list", "repr", "set", "abs"]
def P0 : Nat → M Sl := fun _ => M.bad
/-! 0 _law_take -/
def N0 : List Str := ["pot", "upto", "prime", "blend", "digit"]
def B0 : List S := [.ite (.cmp .Gt (.idx (.var 0) (.int 0)) (.int 0)) [.set 4 (.bop .Mod (.ty .int [(.idx (.var 0) (.int 0))]) (.var 1)), .sidx 0 (.int 0) (.bop .FloorDiv (.idx (.var 0) (.int 0)) (.var 1)), .ret (.mv 4)] [], .sidx 0 (.int 2) (.bop .Add (.idx (.var 0) (.int 2)) (.int 1)), .set 2 (.idx (.lst [(.int 2147483647), (.int 2147483629), (.int 2147483587), (.int 2147483579), (.int 2147483563)]) (.bop .Mod (.ty .int [(.idx (.var 0) (.int 2))]) (.int 5))), .set 3 (.bop .Mod (.ty .int [(.bop .Pow (.ty .int [(.bop .Add (.bop .Add (.idx (.var 0) (.int 1)) (.bop .Mult (.bop .Mult (.int 96179) (.idx (.var 0) (.int 2))) (.idx (.var 0) (.int 2)))) (.int 2131))]) (.int 3))]) (.var 2)), .set 3 (.bop .Mod (.ty .int [(.bop .Mult (.var 3) (.bop .Add (.bop .Mod (.ty .int [(.var 3)]) (.int 11833)) (.bop .Mult (.int 367) (.idx (.var 0) (.int 2)))))]) (.int 2305843009213693907)), .ret (.bop .Mod (.ty .int [(.bop .FloorDiv (.var 3) (.int 191))]) (.var 1))]
def F0 : M Sl := fnS P0 CC 5 [] B0
def P1 : Nat → M Sl := nx P0 0 F0
/-! 1 _law_of -/
def N1 : List Str := ["pot", "some"]
def B1 : List S := [.ret (.idx (.var 1) (.call 0 [(.var 0), (.bi .len [(.var 1)])]))]
def F1 : M Sl := fnS P1 CC 2 [] B1
def P2 : Nat → M Sl := nx P1 1 F1
/-! 2 _law_curve_drawn -/
def N2 : List Str := ["pot", "burst", "rate", "found", "lap"]
def B2 : List S := [.par [1, 2, 3] [(.call 1 [(.var 0), (.lst [(.int 0), (.int 1), (.int 3), (.int 10), (.int 40)])]), (.call 1 [(.var 0), (.lst [(.int 3), (.int 8), (.int 20)])]), (.lst [])], .for_ (.nm 4) (.rng1 (.bop .Add (.int 1) (.call 0 [(.var 0), (.int 3)]))) [.app 3 (.tup [(.ty .int [(.var 1)]), (.ty .int [(.var 2)])]), .par [1, 2] [(.bop .Add (.bop .Add (.var 1) (.int 1)) (.call 0 [(.var 0), (.int 30)])), (.bop .Sub (.bop .Sub (.var 2) (.int 1)) (.call 0 [(.var 0), (.int 3)]))], .ite (.cmp .Lt (.var 2) (.int 0)) [.brk] []], .ret (.ty .tuple [(.var 3)])]
def F2 : M Sl := fnS P2 CC 5 [] B2
def P3 : Nat → M Sl := nx P2 2 F2
/-! 3 _law_server_drawn -/
def N3 : List Str := ["pot"]
def B3 : List S := [.ret (.tup [(.ty .int [(.call 1 [(.var 0), (.lst [(.int 0), (.int 1), (.int 2), (.int 5), (.int 9), (.int 30)])])]), (.ty .int [(.call 1 [(.var 0), (.lst [(.int 0), (.int 0), (.int 1), (.int 3), (.int 10)])])])])]
def F3 : M Sl := fnS P3 CC 1 [] B3
def P4 : Nat → M Sl := nx P3 3 F3
/-! 4 _law_let -/
def N4 : List Str := ["curve", "ticks", "burst", "rate"]
def B4 : List S := [.ret (.ite (.cmp .Gt (.var 1) (.int 0)) (.bi .min [(.lc (.bop .Add (.var 2) (.bop .Mult (.var 3) (.var 1))) (.tup [(.nm 2), (.nm 3)]) (.fz 0) [] [2, 3])]) (.int 0))]
def F4 : M Sl := fnS P4 CC 4 [] B4
def P5 : Nat → M Sl := nx P4 4 F4
/-! 5 _law_served -/
def N5 : List Str := ["server", "ticks"]
def B5 : List S := [.ret (.bop .Mult (.idx (.var 0) (.int 0)) (.bi .max [(.int 0), (.bop .Sub (.var 1) (.idx (.var 0) (.int 1)))]))]
def F5 : M Sl := fnS P5 CC 2 [] B5
def P6 : Nat → M Sl := nx P5 5 F5
/-! 6 _law_most -/
def N6 : List Str := ["curve", "server", "late", "much", "ticks", "too_fast"]
def B6 : List S := [.ite (.cmp .Eq (.call 4 [(.var 0), (.int 1)]) (.int 0)) [.ret (.tup [(.int 0), (.int 0)])] [], .setT (.tup [(.nm 2), (.nm 3)]) (.tup [(.int 0), (.int 0)]), .for_ (.nm 4) (.rng2 (.int 1) (.int 81)) [.set 3 (.bi .max [(.var 3), (.bop .Sub (.call 4 [(.var 0), (.var 4)]) (.call 5 [(.var 1), (.bop .Sub (.var 4) (.int 1))]))]), .ite (.cmp .Gt (.idx (.var 1) (.int 0)) (.int 0)) [.set 2 (.bi .max [(.var 2), (.bop .Sub (.bop .Sub (.idx (.var 1) (.int 1)) (.bop .FloorDiv (.neg (.call 4 [(.var 0), (.var 4)])) (.idx (.var 1) (.int 0)))) (.var 4))])] []], .set 5 (.cmp .Gt (.idx (.idx (.var 0) (.neg (.int 1))) (.int 1)) (.idx (.var 1) (.int 0))), .ret (.tup [(.ite (.orV (.var 5) (.cmp .Eq (.idx (.var 1) (.int 0)) (.int 0))) .non (.fz 2)), (.ite (.var 5) .non (.fz 3))])]
def F6 : M Sl := fnS P6 CC 6 [] B6
def P7 : Nat → M Sl := nx P6 6 F6
/-! 7 is_int -/
def N7 : List Str := ["value", "low", "high"]
def B7 : List S := [.ret (.andV (.bi .isinstance [(.var 0), (.tyc "int")]) (.andV (.notV (.bi .isinstance [(.var 0), (.tyc "bool")])) (.chn .LtE .LtE (.var 1) (.var 0) (.var 2))))]
def F7 : M Sl := fnS P7 CC 3 [] B7
def P8 : Nat → M Sl := nx P7 7 F7
/-! 8 is_curve -/
def N8 : List Str := ["value", "pair", "one", "other"]
def B8 : List S := [.ite (.orV (.notV (.bi .isinstance [(.var 0), (.tyc "tuple")])) (.notV (.chn .LtE .LtE (.int 1) (.bi .len [(.var 0)]) (.cst 0)))) [.ret (.bl false)] [], .for_ (.nm 1) (.fz 0) [.ite (.orV (.notV (.bi .isinstance [(.var 1), (.tyc "tuple")])) (.cmp .NotEq (.bi .len [(.var 1)]) (.int 2))) [.ret (.bl false)] [], .ite (.orV (.notV (.call 7 [(.idx (.var 1) (.int 0)), (.int 0), (.cst 2)])) (.notV (.call 7 [(.idx (.var 1) (.int 1)), (.int 0), (.cst 1)]))) [.ret (.bl false)] []], .ret (.bi .all [(.lc (.andV (.cmp .Lt (.idx (.var 2) (.int 0)) (.idx (.var 3) (.int 0))) (.cmp .Gt (.idx (.var 2) (.int 1)) (.idx (.var 3) (.int 1)))) (.tup [(.nm 2), (.nm 3)]) (.zip (.fz 0) (.slc (.var 0) (.int 1) .non)) [] [2, 3])])]
def F8 : M Sl := fnS P8 CC 4 [] B8
def P9 : Nat → M Sl := nx P8 8 F8
/-! 9 look_at_curve -/
def N9 : List Str := ["curve"]
def B9 : List S := [.ite (.notV (.call 8 [(.var 0)])) [.nev] []]
def F9 : M Sl := fnS P9 CC 1 [] B9
def P10 : Nat → M Sl := nx P9 9 F9
/-! 10 is_server -/
def N10 : List Str := ["value"]
def B10 : List S := [.ite (.orV (.notV (.bi .isinstance [(.var 0), (.tyc "tuple")])) (.cmp .NotEq (.bi .len [(.var 0)]) (.int 2))) [.ret (.bl false)] [], .ret (.andV (.call 7 [(.idx (.var 0) (.int 0)), (.int 0), (.cst 1)]) (.call 7 [(.idx (.var 0) (.int 1)), (.int 0), (.cst 3)]))]
def F10 : M Sl := fnS P10 CC 1 [] B10
def P11 : Nat → M Sl := nx P10 10 F10
/-! 11 look_at_server -/
def N11 : List Str := ["server"]
def B11 : List S := [.ite (.notV (.call 10 [(.var 0)])) [.nev] []]
def F11 : M Sl := fnS P11 CC 1 [] B11
def P12 : Nat → M Sl := nx P11 11 F11
/-! 12 told_at -/
def N12 : List Str := ["curve", "ticks", "burst", "rate"]
def B12 : List S := [.ret (.ite (.cmp .Gt (.var 1) (.int 0)) (.bi .min [(.lc (.bop .Add (.var 2) (.bop .Mult (.var 3) (.var 1))) (.tup [(.nm 2), (.nm 3)]) (.fz 0) [] [2, 3])]) (.int 0))]
def F12 : M Sl := fnS P12 CC 4 [] B12
def P13 : Nat → M Sl := nx P12 12 F12
/-! 13 late_by -/
def N13 : List Str := ["server", "need", "ticks"]
def B13 : List S := [.ret (.bop .Sub (.bop .Add (.idx (.var 0) (.int 1)) (.neg (.bop .FloorDiv (.neg (.var 1)) (.idx (.var 0) (.int 0))))) (.var 2))]
def F13 : M Sl := fnS P13 CC 3 [] B13
def P14 : Nat → M Sl := nx P13 13 F13
/-! 14 ticks_of -/
def N14 : List Str := ["curve", "found", "at", "one", "other", "bend", "tick"]
def B14 : List S := [.set 1 (.dicti 1 true), .for_ (.tup [(.nm 2), (.nm 3)]) (.enum (.fz 0)) [.for_ (.nm 4) (.slc (.var 0) (.bop .Add (.var 2) (.int 1)) .non) [.set 5 (.bop .FloorDiv (.bop .Sub (.idx (.var 4) (.int 0)) (.idx (.var 3) (.int 0))) (.bop .Sub (.idx (.var 3) (.int 1)) (.idx (.var 4) (.int 1)))), .for_ (.nm 6) (.tup [(.fz 5), (.bop .Add (.var 5) (.int 1))]) [.dset 1 (.bi .max [(.int 1), (.var 6)]) (.bl true)]]], .ret (.bi .sorted [(.var 1)])]
def F14 : M Sl := fnS P14 CC 7 [] B14
def P15 : Nat → M Sl := nx P14 14 F14
/-! 15 told_late -/
def N15 : List Str := ["curve", "server", "ticks"]
def B15 : List S := [.ite (.cmp .Eq (.call 12 [(.var 0), (.int 1)]) (.int 0)) [.ret (.int 0)] [], .ite (.orV (.cmp .Eq (.idx (.var 1) (.int 0)) (.int 0)) (.cmp .Gt (.idx (.idx (.var 0) (.neg (.int 1))) (.int 1)) (.idx (.var 1) (.int 0)))) [.ret .non] [], .ret (.bi .max [(.lst [(.int 0), (.star (.lc (.call 13 [(.var 1), (.call 12 [(.var 0), (.var 2)]), (.var 2)]) (.nm 2) (.call 14 [(.var 0)]) [] [2]))])])]
def F15 : M Sl := fnS P15 CC 3 [] B15
def P16 : Nat → M Sl := nx P15 15 F15
/-! 16 greatest -/
def N16 : List Str := ["curve", "ticks", "tick"]
def B16 : List S := [.ret (.ty .tuple [(.lc (.bop .Sub (.call 12 [(.var 0), (.bop .Add (.var 2) (.int 1))]) (.call 12 [(.var 0), (.var 2)])) (.nm 2) (.rng1 (.fz 1)) [] [2])])]
def F16 : M Sl := fnS P16 CC 3 [] B16
def P17 : Nat → M Sl := nx P16 16 F16
/-! 17 late_most -/
def N17 : List Str := ["curve", "server", "told", "some", "ticks"]
def B17 : List S := [.ex (.call 9 [(.var 0)]), .ex (.call 11 [(.var 1)]), .set 2 (.call 15 [(.var 0), (.var 1)]), .ite (.cmp .Is (.var 2) .non) [.ret (.tup [(.cst 4)])] [], .ite (.cmp .Eq (.var 2) (.int 0)) [.ret (.tup [(.cst 5), (.int 0), (.tup [])])] [], .set 3 (.lc (.fz 4) (.nm 4) (.call 14 [(.var 0)]) [(.cmp .Eq (.call 13 [(.var 1), (.call 12 [(.var 0), (.var 4)]), (.var 4)]) (.var 2))] [4]), .ret (.tup [(.cst 5), (.fz 2), (.call 16 [(.var 0), (.idx (.var 3) (.int 0))])])]
def F17 : M Sl := fnS P17 CC 5 [] B17
def P18 : Nat → M Sl := nx P17 17 F17
/-! 18 _law_fitting_drawn -/
def N18 : List Str := ["pot", "curve", "most", "found", "lap", "rests", "many"]
def B18 : List S := [.set 3 (.tup []), .for_ (.nm 4) (.rng1 (.call 0 [(.var 0), (.bop .Add (.var 2) (.int 1))])) [.set 5 (.lc (.bop .Sub (.call 4 [(.var 1), (.var 6)]) (.bi .sum [(.slc (.var 3) (.bop .Sub (.bop .Add (.bi .len [(.var 3)]) (.int 1)) (.var 6)) .non)])) (.nm 6) (.rng2 (.int 1) (.bop .Add (.bi .len [(.var 3)]) (.int 2))) [] [6]), .set 3 (.bop .Add (.var 3) (.tup [(.ty .int [(.call 1 [(.var 0), (.lst [(.int 0), (.bi .min [(.var 5)]), (.bi .min [(.var 5)]), (.call 0 [(.var 0), (.bop .Add (.bi .min [(.var 5)]) (.int 1))])])])])]))], .ret (.mv 3)]
def F18 : M Sl := fnS P18 CC 7 [] B18
def P19 : Nat → M Sl := nx P18 18 F18
/-! 19 _law_late -/
def N19 : List Str := ["server", "traffic", "worst", "last", "start", "need", "ticks"]
def B19 : List S := [.ite (.cmp .Eq (.idx (.var 0) (.int 0)) (.int 0)) [.ret (.ite (.cmp .Gt (.bi .sum [(.var 1)]) (.int 0)) .non (.int 0))] [], .set 2 (.int 0), .for_ (.nm 3) (.rng1 (.bi .len [(.var 1)])) [.ite (.cmp .Eq (.idx (.var 1) (.var 3)) (.int 0)) [.cnt] [], .for_ (.nm 4) (.rng1 (.bop .Add (.var 3) (.int 1))) [.par [5, 6] [(.bi .sum [(.slc (.var 1) (.var 4) (.bop .Add (.var 3) (.int 1)))]), (.int 0)], .whl (.cmp .Lt (.call 5 [(.var 0), (.var 6)]) (.var 5)) [.set 6 (.bop .Add (.var 6) (.int 1))], .set 2 (.bi .max [(.var 2), (.bop .Sub (.bop .Sub (.bop .Add (.var 4) (.var 6)) (.int 1)) (.var 3))])]], .ret (.mv 2)]
def F19 : M Sl := fnS P19 CC 7 [] B19
def P20 : Nat → M Sl := nx P19 19 F19
/-! 20 _law_is_int -/
def N20 : List Str := ["value", "low", "high"]
def B20 : List S := [.ret (.andV (.bi .isinstance [(.var 0), (.tyc "int")]) (.andV (.notV (.bi .isinstance [(.var 0), (.tyc "bool")])) (.chn .LtE .LtE (.var 1) (.var 0) (.var 2))))]
def F20 : M Sl := fnS P20 CC 3 [] B20
def P21 : Nat → M Sl := nx P20 20 F20
/-! 21 _law_too_much -/
def N21 : List Str := ["curve", "traffic", "found", "start", "many"]
def B21 : List S := [.set 2 (.lst []), .for_ (.nm 3) (.rng1 (.bi .len [(.var 1)])) [.for_ (.nm 4) (.rng2 (.int 1) (.bop .Add (.bop .Sub (.bi .len [(.var 1)]) (.var 3)) (.int 1))) [.ite (.cmp .Gt (.bi .sum [(.slc (.var 1) (.var 3) (.bop .Add (.var 3) (.var 4)))]) (.call 4 [(.var 0), (.var 4)])) [.app 2 (.tup [(.fz 3), (.fz 4)])] []]], .ret (.mv 2)]
def F21 : M Sl := fnS P21 CC 5 [] B21
def P22 : Nat → M Sl := nx P21 21 F21
/-! 22 _law_is_due -/
def N22 : List Str := ["curve", "server", "late", "value", "one"]
def B22 : List S := [.ite (.orV (.notV (.bi .isinstance [(.var 3), (.tyc "tuple")])) (.orV (.cmp .NotIn (.bi .len [(.var 3)]) (.tup [(.int 1), (.int 3)])) (.notV (.bi .isinstance [(.idx (.var 3) (.int 0)), (.tyc "str")])))) [.ret (.bl false)] [], .ite (.cmp .Eq (.bi .len [(.var 3)]) (.int 1)) [.ret (.andV (.cmp .Eq (.idx (.var 3) (.int 0)) (.str "never")) (.cmp .Is (.var 2) .non))] [], .ite (.orV (.cmp .NotEq (.idx (.var 3) (.int 0)) (.str "late")) (.orV (.cmp .Is (.var 2) .non) (.orV (.notV (.call 20 [(.idx (.var 3) (.int 1)), (.var 2), (.var 2)])) (.notV (.bi .isinstance [(.idx (.var 3) (.int 2)), (.tyc "tuple")]))))) [.ret (.bl false)] [], .ite (.orV (.cmp .Gt (.bi .len [(.idx (.var 3) (.int 2))]) (.int 500)) (.notV (.bi .all [(.lc (.call 20 [(.var 4), (.int 0), (.int 1000)]) (.nm 4) (.idx (.var 3) (.int 2)) [] [4])]))) [.ret (.bl false)] [], .ret (.andV (.cmp .Eq (.call 21 [(.var 0), (.idx (.var 3) (.int 2))]) (.lst [])) (.orV (.cmp .Eq (.var 2) (.int 0)) (.cmp .Eq (.call 19 [(.var 1), (.idx (.var 3) (.int 2))]) (.var 2))))]
def F22 : M Sl := fnS P22 CC 5 [] B22
def P23 : Nat → M Sl := nx P22 22 F22
/-! 23 is_traffic -/
def N23 : List Str := ["value", "one"]
def B23 : List S := [.ret (.andV (.bi .isinstance [(.var 0), (.tyc "tuple")]) (.andV (.cmp .LtE (.bi .len [(.var 0)]) (.cst 7)) (.bi .all [(.lc (.call 7 [(.var 1), (.int 0), (.cst 6)]) (.nm 1) (.fz 0) [] [1])])))]
def F23 : M Sl := fnS P23 CC 2 [] B23
def P24 : Nat → M Sl := nx P23 23 F23
/-! 24 look_at_traffic -/
def N24 : List Str := ["traffic"]
def B24 : List S := [.ite (.notV (.call 23 [(.var 0)])) [.nev] []]
def F24 : M Sl := fnS P24 CC 1 [] B24
def P25 : Nat → M Sl := nx P24 24 F24
/-! 25 told_passed -/
def N25 : List Str := ["server", "traffic", "found", "last", "ends", "start", "need"]
def B25 : List S := [.set 2 (.lst []), .for_ (.nm 3) (.rng1 (.bi .len [(.var 1)])) [.set 4 (.lst [(.fz 3)]), .for_ (.nm 5) (.rng1 (.bop .Add (.var 3) (.int 1))) [.set 6 (.bi .sum [(.slc (.var 1) (.var 5) (.bop .Add (.var 3) (.int 1)))]), .ite (.cmp .Gt (.var 6) (.int 0)) [.app 4 (.bop .Add (.var 3) (.call 13 [(.var 0), (.var 6), (.bop .Add (.bop .Sub (.var 3) (.var 5)) (.int 1))]))] []], .app 2 (.bi .max [(.var 4)])], .ret (.mv 2)]
def F25 : M Sl := fnS P25 CC 7 [] B25
def P26 : Nat → M Sl := nx P25 25 F25
/-! 26 lateness -/
def N26 : List Str := ["server", "traffic", "last", "end"]
def B26 : List S := [.ex (.call 11 [(.var 0)]), .ex (.call 24 [(.var 1)]), .ite (.cmp .Eq (.idx (.var 0) (.int 0)) (.int 0)) [.ret (.ite (.cmp .Gt (.bi .sum [(.var 1)]) (.int 0)) .non (.int 0))] [], .ret (.bi .max [(.lst [(.int 0), (.star (.lc (.bop .Sub (.var 3) (.var 2)) (.tup [(.nm 2), (.nm 3)]) (.enum (.call 25 [(.var 0), (.var 1)])) [(.cmp .Gt (.idx (.var 1) (.var 2)) (.int 0))] [2, 3]))])])]
def F26 : M Sl := fnS P26 CC 4 [] B26
def P27 : Nat → M Sl := nx P26 26 F26
/-! 27 told_served -/
def N27 : List Str := ["server", "ticks"]
def B27 : List S := [.ret (.bop .Mult (.idx (.var 0) (.int 0)) (.bi .max [(.int 0), (.bop .Sub (.var 1) (.idx (.var 0) (.int 1)))]))]
def F27 : M Sl := fnS P27 CC 2 [] B27
def P28 : Nat → M Sl := nx P27 27 F27
/-! 28 held -/
def N28 : List Str := ["server", "traffic", "found", "last", "start"]
def B28 : List S := [.ex (.call 11 [(.var 0)]), .ex (.call 24 [(.var 1)]), .set 2 (.int 0), .for_ (.nm 3) (.rng1 (.bi .len [(.var 1)])) [.for_ (.nm 4) (.rng1 (.bop .Add (.var 3) (.int 1))) [.set 2 (.bi .max [(.var 2), (.bop .Sub (.bi .sum [(.slc (.var 1) (.var 4) (.bop .Add (.var 3) (.int 1)))]) (.call 27 [(.var 0), (.bop .Sub (.var 3) (.var 4))]))])]], .ret (.mv 2)]
def F28 : M Sl := fnS P28 CC 5 [] B28
def P29 : Nat → M Sl := nx P28 28 F28
/-! 29 _law_held -/
def N29 : List Str := ["server", "traffic", "found", "last", "start"]
def B29 : List S := [.set 2 (.int 0), .for_ (.nm 3) (.rng1 (.bi .len [(.var 1)])) [.for_ (.nm 4) (.rng1 (.bop .Add (.var 3) (.int 1))) [.set 2 (.bi .max [(.var 2), (.bop .Sub (.bi .sum [(.slc (.var 1) (.var 4) (.bop .Add (.var 3) (.int 1)))]) (.call 5 [(.var 0), (.bop .Sub (.var 3) (.var 4))]))])]], .ret (.mv 2)]
def F29 : M Sl := fnS P29 CC 5 [] B29
def P30 : Nat → M Sl := nx P29 29 F29
/-! 30 _law_odd -/
def N30 : List Str := ["pot", "some"]
def B30 : List S := [.set 1 (.lst [.non, (.bl true), (.bl false), (.int 0), (.int 1), (.neg (.int 1)), (.int 2), (.int 256), (.bop .Pow (.int 10) (.int 20)), (.str ""), (.str "a"), (.str "pass"), (.str "never"), (.tup []), (.lst []), .dict0, (.tup [(.int 0)]), (.tup [(.tup [])]), (.lst [(.int 0)])]), .set 1 (.bop .Add (.var 1) (.lst [(.tup [(.str "a")]), (.tup [(.int 0), (.int 255)]), (.tup [(.tup [(.int 0), (.int 255)])]), (.tup [.non]), (.dict1 "a" 1), (.tup [(.str "covered"), (.tup [])]), (.tup [(.str "left"), (.tup [])]), (.tup [(.tup [(.bl true), (.int 1)])])])), .ret (.call 1 [(.var 0), (.var 1)])]
def F30 : M Sl := fnS P30 CC 2 [] B30
def P31 : Nat → M Sl := nx P30 30 F30
def F31 : M Sl := M.bad
def P32 : Nat → M Sl := nx P31 31 F31
/-! 32 _law_bent -/
def N32 : List Str := ["pot", "value", "at"]
def B32 : List S := [.ite (.andV (.bi .isinstance [(.var 1), (.tyc "tuple")]) (.andV (.cmp .NotEq (.var 1) (.tup [])) (.cmp .Gt (.call 0 [(.var 0), (.int 5)]) (.int 0)))) [.set 2 (.call 0 [(.var 0), (.bi .len [(.var 1)])]), .ret (.bop .Add (.bop .Add (.slc (.var 1) .non (.var 2)) (.tup [(.call 31 [(.var 0), (.idx (.var 1) (.var 2))])])) (.slc (.var 1) (.bop .Add (.var 2) (.int 1)) .non))] [], .ite (.bi .isinstance [(.var 1), (.tyc "tuple")]) [.ret (.call 1 [(.var 0), (.lst [(.ty .list [(.var 1)]), (.slc (.var 1) (.int 1) .non), (.slc (.var 1) .non (.neg (.int 1))), (.bop .Add (.var 1) (.slc (.var 1) (.neg (.int 1)) .non)), (.rev (.var 1)), (.tup []), .non])])] [], .ite (.bi .isinstance [(.var 1), (.tyc "bool")]) [.ret (.call 1 [(.var 0), (.lst [(.notV (.fz 1)), (.ty .int [(.var 1)]), .non])])] [], .ite (.bi .isinstance [(.var 1), (.tyc "int")]) [.ret (.call 1 [(.var 0), (.lst [(.bop .Add (.var 1) (.int 1)), (.bop .Sub (.var 1) (.int 1)), (.bop .Sub (.neg (.var 1)) (.int 1)), (.ty .str [(.var 1)]), (.cmp .Eq (.var 1) (.int 1)), .non, (.tup [(.fz 1)]), (.bop .Pow (.int 10) (.int 9))])])] [], .ite (.bi .isinstance [(.var 1), (.tyc "str")]) [.ret (.call 1 [(.var 0), (.lst [(.bop .Add (.var 1) (.str "a")), (.slc (.var 1) (.int 1) .non), (.mth .upper (.var 1) []), (.str ""), .non, (.int 0)])])] [], .ret (.call 30 [(.var 0)])]
def F32 : M Sl := fnS P32 CC 3 [] B32
def P33 : Nat → M Sl := nx P32 32 F32
/-! 33 _law_bent -/
def N33 : List Str := ["pot", "value", "at"]
def B33 : List S := [.ite (.andV (.bi .isinstance [(.var 1), (.tyc "tuple")]) (.andV (.cmp .NotEq (.var 1) (.tup [])) (.cmp .Gt (.call 0 [(.var 0), (.int 5)]) (.int 0)))) [.set 2 (.call 0 [(.var 0), (.bi .len [(.var 1)])]), .ret (.bop .Add (.bop .Add (.slc (.var 1) .non (.var 2)) (.tup [(.call 32 [(.var 0), (.idx (.var 1) (.var 2))])])) (.slc (.var 1) (.bop .Add (.var 2) (.int 1)) .non))] [], .ite (.bi .isinstance [(.var 1), (.tyc "tuple")]) [.ret (.call 1 [(.var 0), (.lst [(.ty .list [(.var 1)]), (.slc (.var 1) (.int 1) .non), (.slc (.var 1) .non (.neg (.int 1))), (.bop .Add (.var 1) (.slc (.var 1) (.neg (.int 1)) .non)), (.rev (.var 1)), (.tup []), .non])])] [], .ite (.bi .isinstance [(.var 1), (.tyc "bool")]) [.ret (.call 1 [(.var 0), (.lst [(.notV (.fz 1)), (.ty .int [(.var 1)]), .non])])] [], .ite (.bi .isinstance [(.var 1), (.tyc "int")]) [.ret (.call 1 [(.var 0), (.lst [(.bop .Add (.var 1) (.int 1)), (.bop .Sub (.var 1) (.int 1)), (.bop .Sub (.neg (.var 1)) (.int 1)), (.ty .str [(.var 1)]), (.cmp .Eq (.var 1) (.int 1)), .non, (.tup [(.fz 1)]), (.bop .Pow (.int 10) (.int 9))])])] [], .ite (.bi .isinstance [(.var 1), (.tyc "str")]) [.ret (.call 1 [(.var 0), (.lst [(.bop .Add (.var 1) (.str "a")), (.slc (.var 1) (.int 1) .non), (.mth .upper (.var 1) []), (.str ""), .non, (.int 0)])])] [], .ret (.call 30 [(.var 0)])]
def F33 : M Sl := fnS P33 CC 3 [] B33
def P34 : Nat → M Sl := nx P33 33 F33
/-! 34 _law_bent -/
def N34 : List Str := ["pot", "value", "at"]
def B34 : List S := [.ite (.andV (.bi .isinstance [(.var 1), (.tyc "tuple")]) (.andV (.cmp .NotEq (.var 1) (.tup [])) (.cmp .Gt (.call 0 [(.var 0), (.int 5)]) (.int 0)))) [.set 2 (.call 0 [(.var 0), (.bi .len [(.var 1)])]), .ret (.bop .Add (.bop .Add (.slc (.var 1) .non (.var 2)) (.tup [(.call 33 [(.var 0), (.idx (.var 1) (.var 2))])])) (.slc (.var 1) (.bop .Add (.var 2) (.int 1)) .non))] [], .ite (.bi .isinstance [(.var 1), (.tyc "tuple")]) [.ret (.call 1 [(.var 0), (.lst [(.ty .list [(.var 1)]), (.slc (.var 1) (.int 1) .non), (.slc (.var 1) .non (.neg (.int 1))), (.bop .Add (.var 1) (.slc (.var 1) (.neg (.int 1)) .non)), (.rev (.var 1)), (.tup []), .non])])] [], .ite (.bi .isinstance [(.var 1), (.tyc "bool")]) [.ret (.call 1 [(.var 0), (.lst [(.notV (.fz 1)), (.ty .int [(.var 1)]), .non])])] [], .ite (.bi .isinstance [(.var 1), (.tyc "int")]) [.ret (.call 1 [(.var 0), (.lst [(.bop .Add (.var 1) (.int 1)), (.bop .Sub (.var 1) (.int 1)), (.bop .Sub (.neg (.var 1)) (.int 1)), (.ty .str [(.var 1)]), (.cmp .Eq (.var 1) (.int 1)), .non, (.tup [(.fz 1)]), (.bop .Pow (.int 10) (.int 9))])])] [], .ite (.bi .isinstance [(.var 1), (.tyc "str")]) [.ret (.call 1 [(.var 0), (.lst [(.bop .Add (.var 1) (.str "a")), (.slc (.var 1) (.int 1) .non), (.mth .upper (.var 1) []), (.str ""), .non, (.int 0)])])] [], .ret (.call 30 [(.var 0)])]
def F34 : M Sl := fnS P34 CC 3 [] B34
def P35 : Nat → M Sl := nx P34 34 F34
/-! 35 _law_bent -/
def N35 : List Str := ["pot", "value", "at"]
def B35 : List S := [.ite (.andV (.bi .isinstance [(.var 1), (.tyc "tuple")]) (.andV (.cmp .NotEq (.var 1) (.tup [])) (.cmp .Gt (.call 0 [(.var 0), (.int 5)]) (.int 0)))) [.set 2 (.call 0 [(.var 0), (.bi .len [(.var 1)])]), .ret (.bop .Add (.bop .Add (.slc (.var 1) .non (.var 2)) (.tup [(.call 34 [(.var 0), (.idx (.var 1) (.var 2))])])) (.slc (.var 1) (.bop .Add (.var 2) (.int 1)) .non))] [], .ite (.bi .isinstance [(.var 1), (.tyc "tuple")]) [.ret (.call 1 [(.var 0), (.lst [(.ty .list [(.var 1)]), (.slc (.var 1) (.int 1) .non), (.slc (.var 1) .non (.neg (.int 1))), (.bop .Add (.var 1) (.slc (.var 1) (.neg (.int 1)) .non)), (.rev (.var 1)), (.tup []), .non])])] [], .ite (.bi .isinstance [(.var 1), (.tyc "bool")]) [.ret (.call 1 [(.var 0), (.lst [(.notV (.fz 1)), (.ty .int [(.var 1)]), .non])])] [], .ite (.bi .isinstance [(.var 1), (.tyc "int")]) [.ret (.call 1 [(.var 0), (.lst [(.bop .Add (.var 1) (.int 1)), (.bop .Sub (.var 1) (.int 1)), (.bop .Sub (.neg (.var 1)) (.int 1)), (.ty .str [(.var 1)]), (.cmp .Eq (.var 1) (.int 1)), .non, (.tup [(.fz 1)]), (.bop .Pow (.int 10) (.int 9))])])] [], .ite (.bi .isinstance [(.var 1), (.tyc "str")]) [.ret (.call 1 [(.var 0), (.lst [(.bop .Add (.var 1) (.str "a")), (.slc (.var 1) (.int 1) .non), (.mth .upper (.var 1) []), (.str ""), .non, (.int 0)])])] [], .ret (.call 30 [(.var 0)])]
def F35 : M Sl := fnS P35 CC 3 [] B35
def P36 : Nat → M Sl := nx P35 35 F35
/-! 36 _law_is_bool -/
def N36 : List Str := ["told", "due"]
def B36 : List S := [.ret (.andV (.bi .isinstance [(.var 0), (.tyc "bool")]) (.cmp .Eq (.var 0) (.var 1)))]
def F36 : M Sl := fnS P36 CC 2 [] B36
def P37 : Nat → M Sl := nx P36 36 F36
/-! 37 held_most -/
def N37 : List Str := ["curve", "server", "some", "tick"]
def B37 : List S := [.ex (.call 9 [(.var 0)]), .ex (.call 11 [(.var 1)]), .ite (.cmp .Gt (.idx (.idx (.var 0) (.neg (.int 1))) (.int 1)) (.idx (.var 1) (.int 0))) [.ret .non] [], .set 2 (.lst [(.star (.call 14 [(.var 0)])), (.bop .Add (.idx (.var 1) (.int 1)) (.int 1)), (.bop .Add (.idx (.var 1) (.int 1)) (.int 2))]), .ret (.bi .max [(.lc (.bop .Sub (.call 12 [(.var 0), (.var 3)]) (.call 27 [(.var 1), (.bop .Sub (.var 3) (.int 1))])) (.nm 3) (.fz 2) [] [3])])]
def F37 : M Sl := fnS P37 CC 4 [] B37
def P38 : Nat → M Sl := nx P37 37 F37
/-! 38 _law_full -/
def N38 : List Str := ["curve", "ticks", "tick"]
def B38 : List S := [.ret (.ty .tuple [(.lc (.bop .Sub (.call 4 [(.var 0), (.bop .Add (.var 2) (.int 1))]) (.call 4 [(.var 0), (.var 2)])) (.nm 2) (.rng1 (.fz 1)) [] [2])])]
def F38 : M Sl := fnS P38 CC 3 [] B38
def P39 : Nat → M Sl := nx P38 38 F38
/-! 39 too_much -/
def N39 : List Str := ["curve", "traffic", "start", "total", "many"]
def B39 : List S := [.for_ (.nm 2) (.rng1 (.bi .len [(.var 1)])) [.set 3 (.int 0), .for_ (.nm 4) (.rng2 (.int 1) (.bop .Add (.bop .Sub (.bi .len [(.var 1)]) (.var 2)) (.int 1))) [.aug 3 .Add (.idx (.var 1) (.bop .Sub (.bop .Add (.var 2) (.var 4)) (.int 1))), .ite (.cmp .Gt (.var 3) (.call 12 [(.var 0), (.var 4)])) [.ret (.tup [(.fz 2), (.fz 4)])] []]], .ret .non]
def F39 : M Sl := fnS P39 CC 5 [] B39
def P40 : Nat → M Sl := nx P39 39 F39
/-! 40 shows_late_most -/
def N40 : List Str := ["curve", "server", "value", "told"]
def B40 : List S := [.ex (.call 9 [(.var 0)]), .ex (.call 11 [(.var 1)]), .set 3 (.call 15 [(.var 0), (.var 1)]), .ite (.orV (.notV (.bi .isinstance [(.var 2), (.tyc "tuple")])) (.orV (.cmp .NotIn (.bi .len [(.var 2)]) (.tup [(.int 1), (.cst 8)])) (.notV (.bi .isinstance [(.idx (.var 2) (.int 0)), (.tyc "str")])))) [.ret (.bl false)] [], .ite (.cmp .Eq (.bi .len [(.var 2)]) (.int 1)) [.ret (.andV (.cmp .Eq (.idx (.var 2) (.int 0)) (.cst 4)) (.cmp .Is (.var 3) .non))] [], .ite (.orV (.cmp .NotEq (.idx (.var 2) (.int 0)) (.cst 5)) (.orV (.cmp .Is (.var 3) .non) (.orV (.notV (.call 7 [(.idx (.var 2) (.int 1)), (.var 3), (.var 3)])) (.notV (.call 23 [(.idx (.var 2) (.int 2))]))))) [.ret (.bl false)] [], .ret (.andV (.cmp .Is (.call 39 [(.var 0), (.idx (.var 2) (.int 2))]) .non) (.orV (.cmp .Eq (.var 3) (.int 0)) (.cmp .Eq (.call 26 [(.var 1), (.idx (.var 2) (.int 2))]) (.var 3))))]
def F40 : M Sl := fnS P40 CC 4 [] B40
def P41 : Nat → M Sl := nx P40 40 F40
/-! 41 _law_is_server_right -/
def N41 : List Str := ["pot", "curve", "server", "late", "much", "told", "traffic", "mine", "values", "value", "ticks", "lap"]
def B41 : List S := [.setT (.tup [(.nm 3), (.nm 4)]) (.call 6 [(.var 1), (.var 2)]), .set 5 (.call 17 [(.var 1), (.var 2)]), .ite (.orV (.notV (.call 22 [(.var 1), (.var 2), (.var 3), (.var 5)])) (.cmp .NotEq (.bi .repr [(.call 37 [(.var 1), (.var 2)])]) (.bi .repr [(.var 4)]))) [.ret (.bl false)] [], .set 6 (.call 18 [(.var 0), (.var 1), (.int 10)]), .set 7 (.call 19 [(.var 2), (.var 6)]), .ite (.cmp .NotEq (.bi .repr [(.call 26 [(.var 2), (.var 6)])]) (.bi .repr [(.var 7)])) [.ret (.bl false)] [], .ite (.cmp .NotEq (.bi .repr [(.call 28 [(.var 2), (.var 6)])]) (.bi .repr [(.call 29 [(.var 2), (.var 6)])])) [.ret (.bl false)] [], .ite (.orV (.andV (.cmp .IsNot (.var 3) .non) (.orV (.cmp .Is (.var 7) .non) (.cmp .Gt (.var 7) (.var 3)))) (.andV (.cmp .IsNot (.var 4) .non) (.cmp .Gt (.call 29 [(.var 2), (.var 6)]) (.var 4)))) [.ret (.bl false)] [], .set 8 (.lst [(.fz 5), (.ty .list [(.var 5)]), (.tup [(.str "never")]), (.tup [(.str "late"), (.int 0), (.tup [])]), (.tup [(.str "late"), (.int 0), (.fz 6)]), (.tup [(.str "late"), (.fz 7), (.fz 6)]), (.slc (.var 5) .non (.int 2))]), .ext 8 (.lc (.tup [(.str "late"), (.fz 3), (.call 38 [(.var 1), (.var 10)])]) (.nm 10) (.tup [(.int 1), (.int 2), (.int 5), (.int 12)]) [] [10]), .for_ (.nm 9) (.bop .Add (.bop .Add (.var 8) (.lst [(.call 30 [(.var 0)])])) (.lc (.call 35 [(.var 0), (.var 5)]) (.nm 11) (.rng1 (.int 8)) [] [11])) [.ite (.notV (.call 36 [(.call 40 [(.var 1), (.var 2), (.var 9)]), (.call 22 [(.var 1), (.var 2), (.var 3), (.var 9)])])) [.ret (.bl false)] []], .ret (.bl true)]
def F41 : M Sl := fnS P41 CC 12 [] B41
def P42 : Nat → M Sl := nx P41 41 F41
/-! 42 one_behind_other -/
def N42 : List Str := ["one", "other"]
def B42 : List S := [.ex (.call 11 [(.var 0)]), .ex (.call 11 [(.var 1)]), .ite (.cmp .Gt (.bop .Add (.idx (.var 0) (.int 1)) (.idx (.var 1) (.int 1))) (.cst 3)) [.nev] [], .ret (.tup [(.bi .min [(.idx (.var 0) (.int 0)), (.idx (.var 1) (.int 0))]), (.bop .Add (.idx (.var 0) (.int 1)) (.idx (.var 1) (.int 1)))])]
def F42 : M Sl := fnS P42 CC 2 [] B42
def P43 : Nat → M Sl := nx P42 42 F42
/-! 43 passed_on -/
def N43 : List Str := ["server", "ticks"]
def B43 : List S := [.ex (.call 11 [(.var 0)]), .ite (.notV (.call 7 [(.var 1), (.int 0), (.bop .Pow (.int 10) (.int 6))])) [.nev] [], .ret (.call 27 [(.var 0), (.var 1)])]
def F43 : M Sl := fnS P43 CC 2 [] B43
def P44 : Nat → M Sl := nx P43 43 F43
/-! 44 told_least -/
def N44 : List Str := ["pairs", "kept", "pair"]
def B44 : List S := [.set 1 (.lst []), .for_ (.nm 2) (.bi .sorted [(.var 0)]) [.ite (.orV (.cmp .Eq (.var 1) (.lst [])) (.andV (.cmp .Lt (.idx (.var 2) (.int 1)) (.idx (.idx (.var 1) (.neg (.int 1))) (.int 1))) (.cmp .Gt (.idx (.var 2) (.int 0)) (.idx (.idx (.var 1) (.neg (.int 1))) (.int 0))))) [.app 1 (.fz 2)] []], .ret (.ty .tuple [(.var 1)])]
def F44 : M Sl := fnS P44 CC 3 [] B44
def P45 : Nat → M Sl := nx P44 44 F44
/-! 45 behind -/
def N45 : List Str := ["curve", "server", "made", "burst", "rate"]
def B45 : List S := [.ex (.call 9 [(.var 0)]), .ex (.call 11 [(.var 1)]), .ite (.cmp .Gt (.idx (.idx (.var 0) (.neg (.int 1))) (.int 1)) (.idx (.var 1) (.int 0))) [.ret .non] [], .set 2 (.call 44 [(.lc (.tup [(.bop .Add (.var 3) (.bop .Mult (.var 4) (.idx (.var 1) (.int 1)))), (.fz 4)]) (.tup [(.nm 3), (.nm 4)]) (.fz 0) [(.cmp .LtE (.var 4) (.idx (.var 1) (.int 0)))] [3, 4])]), .ite (.cmp .Gt (.idx (.idx (.var 2) (.neg (.int 1))) (.int 0)) (.cst 2)) [.nev] [], .ret (.mv 2)]
def F45 : M Sl := fnS P45 CC 5 [] B45
def P46 : Nat → M Sl := nx P45 45 F45
/-! 46 _law_are_servers_right -/
def N46 : List Str := ["pot", "curve", "one", "other", "both", "ticks", "due", "caught", "told", "some", "pair", "smaller", "burst", "rate", "its"]
def B46 : List S := [.set 4 (.call 42 [(.var 2), (.var 3)]), .set 5 (.ty .int [(.call 0 [(.var 0), (.int 40)])]), .ite (.cmp .NotEq (.bi .repr [(.call 43 [(.var 2), (.var 5)])]) (.bi .repr [(.call 5 [(.var 2), (.var 5)])])) [.ret (.bl false)] [], .set 6 (.bi .min [(.lc (.bop .Add (.call 5 [(.var 2), (.var 9)]) (.call 5 [(.var 3), (.bop .Sub (.var 5) (.var 9))])) (.nm 9) (.rng1 (.bop .Add (.var 5) (.int 1))) [] [9])]), .ite (.orV (.cmp .NotEq (.call 5 [(.var 4), (.var 5)]) (.var 6)) (.cmp .NotEq (.var 4) (.tup [(.bi .min [(.idx (.var 2) (.int 0)), (.idx (.var 3) (.int 0))]), (.bop .Add (.idx (.var 2) (.int 1)) (.idx (.var 3) (.int 1)))]))) [.ret (.bl false)] [], .setT (.tup [(.nm 7), (.nm 8)]) (.heard (.call 45 [(.var 1), (.var 2)])), .ite (.cmp .Gt (.idx (.idx (.var 1) (.neg (.int 1))) (.int 1)) (.idx (.var 2) (.int 0))) [.ret (.andV (.cmp .Is (.var 7) .non) (.cmp .Is (.var 8) .non))] [], .par [9, 6] [(.lc (.tup [(.bop .Add (.var 12) (.bop .Mult (.var 13) (.idx (.var 2) (.int 1)))), (.fz 13)]) (.tup [(.nm 12), (.nm 13)]) (.fz 1) [(.cmp .LtE (.var 13) (.idx (.var 2) (.int 0)))] [12, 13]), (.lst [])], .for_ (.nm 10) (.sset (.var 9)) [.set 11 (.lc (.fz 14) (.nm 14) (.fz 9) [(.andV (.cmp .NotEq (.var 14) (.var 10)) (.andV (.cmp .LtE (.idx (.var 14) (.int 0)) (.idx (.var 10) (.int 0))) (.cmp .LtE (.idx (.var 14) (.int 1)) (.idx (.var 10) (.int 1)))))] [14]), .set 6 (.bop .Add (.var 6) (.bop .Mult (.lst [(.fz 10)]) (.ty .int [(.cmp .Eq (.var 11) (.lst []))])))], .ite (.cmp .Gt (.idx (.idx (.var 6) (.neg (.int 1))) (.int 0)) (.int 400)) [.nev] [], .ret (.andV (.cmp .Is (.var 7) .non) (.cmp .Eq (.bi .repr [(.var 8)]) (.bi .repr [(.ty .tuple [(.var 6)])])))]
def F46 : M Sl := fnS P46 CC 15 [] B46
def P47 : Nat → M Sl := nx P46 46 F46
/-! 47 _law_right -/
def N47 : List Str := ["pot", "lap", "curve", "server"]
def B47 : List S := [.for_ (.nm 1) (.rng1 (.int 3)) [.par [2, 3] [(.call 2 [(.var 0)]), (.call 3 [(.var 0)])], .ite (.notV (.call 41 [(.var 0), (.var 2), (.var 3)])) [.ret (.bl false)] [], .ite (.notV (.call 46 [(.var 0), (.var 2), (.var 3), (.call 3 [(.var 0)])])) [.ret (.bl false)] []], .ret (.bl true)]
def F47 : M Sl := fnS P47 CC 4 [] B47
def P48 : Nat → M Sl := nx P47 47 F47
/-! 48 _law_pot -/
def N48 : List Str := ["script", "place", "cell", "own", "small"]
def B48 : List S := [.set 2 (.ite (.cmp .Lt (.var 1) (.bi .len [(.var 0)])) (.idx (.var 0) (.var 1)) (.bop .Add (.bop .Add (.bop .Mod (.ty .int [(.bi .sum [(.slc (.var 0) .non (.int 1))])]) (.int 999979)) (.bop .Mult (.int 3389) (.var 1))) (.int 2131))), .set 3 (.bop .Mult (.bop .Mod (.ty .int [(.bi .abs [(.var 2)])]) (.bop .Pow (.bop .Pow (.int 10) (.int 60)) (.int 5))) (.ty .int [(.cmp .GtE (.bi .abs [(.var 2)]) (.bop .Pow (.int 10) (.int 18)))])), .set 4 (.bop .Mod (.ty .int [(.var 2)]) (.int 2305843009213693951)), .ret (.lst [(.fz 3), (.bop .Mod (.ty .int [(.bop .Add (.bop .Add (.bop .Mult (.var 4) (.int 84313)) (.bop .Mult (.bop .Mult (.int 11257) (.var 1)) (.var 1))) (.int 1847))]) (.int 2305843009213693921)), (.int 0)])]
def F48 : M Sl := fnS P48 CC 5 [] B48
def P49 : Nat → M Sl := nx P48 48 F48
/-! 49 _law_cells -/
def N49 : List Str := ["script", "most"]
def B49 : List S := [.ret (.lr1 (.bi .max [(.int 1), (.bi .min [(.var 1), (.bi .len [(.var 0)])])]))]
def F49 : M Sl := fnS P49 CC 2 [] B49
def P50 : Nat → M Sl := nx P49 49 F49
/-! 50 law -/
def N50 : List Str := ["script", "place"]
def B50 : List S := [.ret (.bi .all [(.lc (.call 47 [(.call 48 [(.var 0), (.var 1)])]) (.nm 1) (.call 49 [(.var 0), (.int 3)]) [] [1])])]
def F50 : M Sl := fnS P50 CC 2 [] B50
def P51 : Nat → M Sl := nx P50 50 F50
def FS : List FnE := [⟨"_law_take", 2, []⟩, ⟨"_law_of", 2, []⟩, ⟨"_law_curve_drawn", 1, []⟩, ⟨"_law_server_drawn", 1, []⟩, ⟨"_law_let", 2, []⟩, ⟨"_law_served", 2, []⟩, ⟨"_law_most", 2, []⟩, ⟨"is_int", 3, []⟩, ⟨"is_curve", 1, []⟩, ⟨"look_at_curve", 1, []⟩, ⟨"is_server", 1, []⟩, ⟨"look_at_server", 1, []⟩, ⟨"told_at", 2, []⟩, ⟨"late_by", 3, []⟩, ⟨"ticks_of", 1, []⟩, ⟨"told_late", 2, []⟩, ⟨"greatest", 2, []⟩, ⟨"late_most", 2, [(1, ["server"])]⟩, ⟨"_law_fitting_drawn", 3, []⟩, ⟨"_law_late", 2, []⟩, ⟨"_law_is_int", 3, []⟩, ⟨"_law_too_much", 2, []⟩, ⟨"_law_is_due", 4, []⟩, ⟨"is_traffic", 1, []⟩, ⟨"look_at_traffic", 1, []⟩, ⟨"told_passed", 2, []⟩, ⟨"lateness", 2, [(1, ["traffic"])]⟩, ⟨"told_served", 2, []⟩, ⟨"held", 2, [(1, ["traffic"])]⟩, ⟨"_law_held", 2, []⟩, ⟨"_law_odd", 1, []⟩, ⟨"_law_bent", 2, []⟩, ⟨"_law_bent", 2, []⟩, ⟨"_law_bent", 2, []⟩, ⟨"_law_bent", 2, []⟩, ⟨"_law_bent", 2, []⟩, ⟨"_law_is_bool", 2, []⟩, ⟨"held_most", 2, [(1, ["server"])]⟩, ⟨"_law_full", 2, []⟩, ⟨"too_much", 2, []⟩, ⟨"shows_late_most", 3, [(2, ["value"])]⟩, ⟨"_law_is_server_right", 3, []⟩, ⟨"one_behind_other", 2, [(1, ["other"])]⟩, ⟨"passed_on", 2, [(1, ["ticks"])]⟩, ⟨"told_least", 1, []⟩, ⟨"behind", 2, [(1, ["server"])]⟩, ⟨"_law_are_servers_right", 4, []⟩, ⟨"_law_right", 1, []⟩, ⟨"_law_pot", 2, []⟩, ⟨"_law_cells", 2, []⟩, ⟨"law", 1, []⟩]
theorem sc0 : C8.scC N0 ["pot", "upto"] (defScope (top 43)) = true := by decide +kernel
theorem ck0 : chkSs B0 ⟨N0, defScope (top 43), FS.take 0, CS, BL, [2, 3, 4], true, false⟩ (defBody (top 43)) = true := by decide +kernel
theorem sc1 : C8.scC N1 ["pot", "some"] (defScope (top 44)) = true := by decide +kernel
theorem ck1 : chkSs B1 ⟨N1, defScope (top 44), FS.take 1, CS, BL, [], true, false⟩ (defBody (top 44)) = true := by decide +kernel
theorem sc2 : C8.scC N2 ["pot"] (defScope (top 51)) = true := by decide +kernel
theorem ck2 : chkSs B2 ⟨N2, defScope (top 51), FS.take 2, CS, BL, [1, 2, 3, 4], true, false⟩ (defBody (top 51)) = true := by decide +kernel
theorem sc3 : C8.scC N3 ["pot"] (defScope (top 52)) = true := by decide +kernel
theorem ck3 : chkSs B3 ⟨N3, defScope (top 52), FS.take 3, CS, BL, [], true, false⟩ (defBody (top 52)) = true := by decide +kernel
theorem sc4 : C8.scC N4 ["curve", "ticks"] (defScope (top 53)) = true := by decide +kernel
theorem ck4 : chkSs B4 ⟨N4, defScope (top 53), FS.take 4, CS, BL, [], true, false⟩ (defBody (top 53)) = true := by decide +kernel
theorem sc5 : C8.scC N5 ["server", "ticks"] (defScope (top 54)) = true := by decide +kernel
theorem ck5 : chkSs B5 ⟨N5, defScope (top 54), FS.take 5, CS, BL, [], true, false⟩ (defBody (top 54)) = true := by decide +kernel
theorem sc6 : C8.scC N6 ["curve", "server"] (defScope (top 59)) = true := by decide +kernel
theorem ck6 : chkSs B6 ⟨N6, defScope (top 59), FS.take 6, CS, BL, [2, 3, 4, 5], true, false⟩ (defBody (top 59)) = true := by decide +kernel
theorem sc7 : C8.scC N7 ["value", "low", "high"] (defScope (top 7)) = true := by decide +kernel
theorem ck7 : chkSs B7 ⟨N7, defScope (top 7), FS.take 7, CS, BL, [], true, false⟩ (defBody (top 7)) = true := by decide +kernel
theorem sc8 : C8.scC N8 ["value"] (defScope (top 18)) = true := by decide +kernel
theorem ck8 : chkSs B8 ⟨N8, defScope (top 18), FS.take 8, CS, BL, [1], true, false⟩ (defBody (top 18)) = true := by decide +kernel
theorem sc9 : C8.scC N9 ["curve"] (defScope (top 19)) = true := by decide +kernel
theorem ck9 : chkSs B9 ⟨N9, defScope (top 19), FS.take 9, CS, BL, [], true, false⟩ (defBody (top 19)) = true := by decide +kernel
theorem sc10 : C8.scC N10 ["value"] (defScope (top 20)) = true := by decide +kernel
theorem ck10 : chkSs B10 ⟨N10, defScope (top 20), FS.take 10, CS, BL, [], true, false⟩ (defBody (top 20)) = true := by decide +kernel
theorem sc11 : C8.scC N11 ["server"] (defScope (top 21)) = true := by decide +kernel
theorem ck11 : chkSs B11 ⟨N11, defScope (top 21), FS.take 11, CS, BL, [], true, false⟩ (defBody (top 21)) = true := by decide +kernel
theorem sc12 : C8.scC N12 ["curve", "ticks"] (defScope (top 24)) = true := by decide +kernel
theorem ck12 : chkSs B12 ⟨N12, defScope (top 24), FS.take 12, CS, BL, [], true, false⟩ (defBody (top 24)) = true := by decide +kernel
theorem sc13 : C8.scC N13 ["server", "need", "ticks"] (defScope (top 29)) = true := by decide +kernel
theorem ck13 : chkSs B13 ⟨N13, defScope (top 29), FS.take 13, CS, BL, [], true, false⟩ (defBody (top 29)) = true := by decide +kernel
theorem sc14 : C8.scC N14 ["curve"] (defScope (top 30)) = true := by decide +kernel
theorem ck14 : chkSs B14 ⟨N14, defScope (top 30), FS.take 14, CS, BL, [1, 2, 3, 4, 5, 6], true, false⟩ (defBody (top 30)) = true := by decide +kernel
theorem sc15 : C8.scC N15 ["curve", "server"] (defScope (top 28)) = true := by decide +kernel
theorem ck15 : chkSs B15 ⟨N15, defScope (top 28), FS.take 15, CS, BL, [], true, false⟩ (defBody (top 28)) = true := by decide +kernel
theorem sc16 : C8.scC N16 ["curve", "ticks"] (defScope (top 32)) = true := by decide +kernel
theorem ck16 : chkSs B16 ⟨N16, defScope (top 32), FS.take 16, CS, BL, [], true, false⟩ (defBody (top 32)) = true := by decide +kernel
theorem sc17 : C8.scC N17 ["curve", "server"] (defScope (top 31)) = true := by decide +kernel
theorem ck17 : chkSs B17 ⟨N17, defScope (top 31), FS.take 17, CS, BL, [2, 3], true, false⟩ (defBody (top 31)) = true := by decide +kernel
theorem sc18 : C8.scC N18 ["pot", "curve", "most"] (defScope (top 61)) = true := by decide +kernel
theorem ck18 : chkSs B18 ⟨N18, defScope (top 61), FS.take 18, CS, BL, [3, 4, 5], true, false⟩ (defBody (top 61)) = true := by decide +kernel
theorem sc19 : C8.scC N19 ["server", "traffic"] (defScope (top 57)) = true := by decide +kernel
theorem ck19 : chkSs B19 ⟨N19, defScope (top 57), FS.take 19, CS, BL, [2, 3, 4, 5, 6], true, false⟩ (defBody (top 57)) = true := by decide +kernel
theorem sc20 : C8.scC N20 ["value", "low", "high"] (defScope (top 48)) = true := by decide +kernel
theorem ck20 : chkSs B20 ⟨N20, defScope (top 48), FS.take 20, CS, BL, [], true, false⟩ (defBody (top 48)) = true := by decide +kernel
theorem sc21 : C8.scC N21 ["curve", "traffic"] (defScope (top 55)) = true := by decide +kernel
theorem ck21 : chkSs B21 ⟨N21, defScope (top 55), FS.take 21, CS, BL, [2, 3, 4], true, false⟩ (defBody (top 55)) = true := by decide +kernel
theorem sc22 : C8.scC N22 ["curve", "server", "late", "value"] (defScope (top 60)) = true := by decide +kernel
theorem ck22 : chkSs B22 ⟨N22, defScope (top 60), FS.take 22, CS, BL, [], true, false⟩ (defBody (top 60)) = true := by decide +kernel
theorem sc23 : C8.scC N23 ["value"] (defScope (top 22)) = true := by decide +kernel
theorem ck23 : chkSs B23 ⟨N23, defScope (top 22), FS.take 23, CS, BL, [], true, false⟩ (defBody (top 22)) = true := by decide +kernel
theorem sc24 : C8.scC N24 ["traffic"] (defScope (top 23)) = true := by decide +kernel
theorem ck24 : chkSs B24 ⟨N24, defScope (top 23), FS.take 24, CS, BL, [], true, false⟩ (defBody (top 23)) = true := by decide +kernel
theorem sc25 : C8.scC N25 ["server", "traffic"] (defScope (top 33)) = true := by decide +kernel
theorem ck25 : chkSs B25 ⟨N25, defScope (top 33), FS.take 25, CS, BL, [2, 3, 4, 5, 6], true, false⟩ (defBody (top 33)) = true := by decide +kernel
theorem sc26 : C8.scC N26 ["server", "traffic"] (defScope (top 34)) = true := by decide +kernel
theorem ck26 : chkSs B26 ⟨N26, defScope (top 34), FS.take 26, CS, BL, [], true, false⟩ (defBody (top 34)) = true := by decide +kernel
theorem sc27 : C8.scC N27 ["server", "ticks"] (defScope (top 25)) = true := by decide +kernel
theorem ck27 : chkSs B27 ⟨N27, defScope (top 25), FS.take 27, CS, BL, [], true, false⟩ (defBody (top 25)) = true := by decide +kernel
theorem sc28 : C8.scC N28 ["server", "traffic"] (defScope (top 37)) = true := by decide +kernel
theorem ck28 : chkSs B28 ⟨N28, defScope (top 37), FS.take 28, CS, BL, [2, 3, 4], true, false⟩ (defBody (top 37)) = true := by decide +kernel
theorem sc29 : C8.scC N29 ["server", "traffic"] (defScope (top 58)) = true := by decide +kernel
theorem ck29 : chkSs B29 ⟨N29, defScope (top 58), FS.take 29, CS, BL, [2, 3, 4], true, false⟩ (defBody (top 58)) = true := by decide +kernel
theorem sc30 : C8.scC N30 ["pot"] (defScope (top 47)) = true := by decide +kernel
theorem ck30 : chkSs B30 ⟨N30, defScope (top 47), FS.take 30, CS, BL, [1], true, false⟩ (defBody (top 47)) = true := by decide +kernel
theorem sc32 : C8.scC N32 ["pot", "value"] (defScope (top 49)) = true := by decide +kernel
theorem ck32 : chkSs B32 ⟨N32, defScope (top 49), FS.take 32, CS, BL, [2], true, false⟩ (defBody (top 49)) = true := by decide +kernel
theorem sc33 : C8.scC N33 ["pot", "value"] (defScope (top 49)) = true := by decide +kernel
theorem ck33 : chkSs B33 ⟨N33, defScope (top 49), FS.take 33, CS, BL, [2], true, false⟩ (defBody (top 49)) = true := by decide +kernel
theorem sc34 : C8.scC N34 ["pot", "value"] (defScope (top 49)) = true := by decide +kernel
theorem ck34 : chkSs B34 ⟨N34, defScope (top 49), FS.take 34, CS, BL, [2], true, false⟩ (defBody (top 49)) = true := by decide +kernel
theorem sc35 : C8.scC N35 ["pot", "value"] (defScope (top 49)) = true := by decide +kernel
theorem ck35 : chkSs B35 ⟨N35, defScope (top 49), FS.take 35, CS, BL, [2], true, false⟩ (defBody (top 49)) = true := by decide +kernel
theorem sc36 : C8.scC N36 ["told", "due"] (defScope (top 50)) = true := by decide +kernel
theorem ck36 : chkSs B36 ⟨N36, defScope (top 50), FS.take 36, CS, BL, [], true, false⟩ (defBody (top 50)) = true := by decide +kernel
theorem sc37 : C8.scC N37 ["curve", "server"] (defScope (top 36)) = true := by decide +kernel
theorem ck37 : chkSs B37 ⟨N37, defScope (top 36), FS.take 37, CS, BL, [2], true, false⟩ (defBody (top 36)) = true := by decide +kernel
theorem sc38 : C8.scC N38 ["curve", "ticks"] (defScope (top 56)) = true := by decide +kernel
theorem ck38 : chkSs B38 ⟨N38, defScope (top 56), FS.take 38, CS, BL, [], true, false⟩ (defBody (top 56)) = true := by decide +kernel
theorem sc39 : C8.scC N39 ["curve", "traffic"] (defScope (top 27)) = true := by decide +kernel
theorem ck39 : chkSs B39 ⟨N39, defScope (top 27), FS.take 39, CS, BL, [2, 3, 4], true, false⟩ (defBody (top 27)) = true := by decide +kernel
theorem sc40 : C8.scC N40 ["curve", "server", "value"] (defScope (top 35)) = true := by decide +kernel
theorem ck40 : chkSs B40 ⟨N40, defScope (top 35), FS.take 40, CS, BL, [3], true, false⟩ (defBody (top 35)) = true := by decide +kernel
theorem sc41 : C8.scC N41 ["pot", "curve", "server"] (defScope (top 62)) = true := by decide +kernel
theorem ck41 : chkSs B41 ⟨N41, defScope (top 62), FS.take 41, CS, BL, [3, 4, 5, 6, 7, 8, 9], true, false⟩ (defBody (top 62)) = true := by decide +kernel
theorem sc42 : C8.scC N42 ["one", "other"] (defScope (top 40)) = true := by decide +kernel
theorem ck42 : chkSs B42 ⟨N42, defScope (top 40), FS.take 42, CS, BL, [], true, false⟩ (defBody (top 40)) = true := by decide +kernel
theorem sc43 : C8.scC N43 ["server", "ticks"] (defScope (top 26)) = true := by decide +kernel
theorem ck43 : chkSs B43 ⟨N43, defScope (top 26), FS.take 43, CS, BL, [], true, false⟩ (defBody (top 26)) = true := by decide +kernel
theorem sc44 : C8.scC N44 ["pairs"] (defScope (top 38)) = true := by decide +kernel
theorem ck44 : chkSs B44 ⟨N44, defScope (top 38), FS.take 44, CS, BL, [1, 2], true, false⟩ (defBody (top 38)) = true := by decide +kernel
theorem sc45 : C8.scC N45 ["curve", "server"] (defScope (top 39)) = true := by decide +kernel
theorem ck45 : chkSs B45 ⟨N45, defScope (top 39), FS.take 45, CS, BL, [2], true, false⟩ (defBody (top 39)) = true := by decide +kernel
theorem sc46 : C8.scC N46 ["pot", "curve", "one", "other"] (defScope (top 63)) = true := by decide +kernel
theorem ck46 : chkSs B46 ⟨N46, defScope (top 63), FS.take 46, CS, BL, [4, 5, 6, 7, 8, 9, 10, 11], true, true⟩ (defBody (top 63)) = true := by decide +kernel
theorem sc47 : C8.scC N47 ["pot"] (defScope (top 64)) = true := by decide +kernel
theorem ck47 : chkSs B47 ⟨N47, defScope (top 64), FS.take 47, CS, BL, [1, 2, 3], true, false⟩ (defBody (top 64)) = true := by decide +kernel
theorem sc48 : C8.scC N48 ["script", "place"] (defScope (top 42)) = true := by decide +kernel
theorem ck48 : chkSs B48 ⟨N48, defScope (top 42), FS.take 48, CS, BL, [2, 3, 4], true, false⟩ (defBody (top 42)) = true := by decide +kernel
theorem sc49 : C8.scC N49 ["script", "most"] (defScope (top 45)) = true := by decide +kernel
theorem ck49 : chkSs B49 ⟨N49, defScope (top 45), FS.take 49, CS, BL, [], true, false⟩ (defBody (top 45)) = true := by decide +kernel
theorem sc50 : C8.scC N50 ["script"] (defScope (top 65)) = true := by decide +kernel
theorem ck50 : chkSs B50 ⟨N50, defScope (top 65), FS.take 50, CS, BL, [], true, false⟩ (defBody (top 65)) = true := by decide +kernel
-- statements that are not to be come to: [('_law_are_servers_right', 'Attribute')]
def d__law_take : He.DefD := ⟨("_law_take", none), "_law_take", "_law_take", defArgs (top 43), defBody (top 43), defScope (top 43), [], []⟩
def d__law_of : He.DefD := ⟨("_law_of", none), "_law_of", "_law_of", defArgs (top 44), defBody (top 44), defScope (top 44), [], []⟩
def d__law_curve_drawn : He.DefD := ⟨("_law_curve_drawn", none), "_law_curve_drawn", "_law_curve_drawn", defArgs (top 51), defBody (top 51), defScope (top 51), [], []⟩
def d__law_server_drawn : He.DefD := ⟨("_law_server_drawn", none), "_law_server_drawn", "_law_server_drawn", defArgs (top 52), defBody (top 52), defScope (top 52), [], []⟩
def d__law_let : He.DefD := ⟨("_law_let", none), "_law_let", "_law_let", defArgs (top 53), defBody (top 53), defScope (top 53), [], []⟩
def d__law_served : He.DefD := ⟨("_law_served", none), "_law_served", "_law_served", defArgs (top 54), defBody (top 54), defScope (top 54), [], []⟩
def d__law_most : He.DefD := ⟨("_law_most", none), "_law_most", "_law_most", defArgs (top 59), defBody (top 59), defScope (top 59), [], []⟩
def d_is_int : He.DefD := ⟨("is_int", none), "is_int", "is_int", defArgs (top 7), defBody (top 7), defScope (top 7), [], []⟩
def d_is_curve : He.DefD := ⟨("is_curve", none), "is_curve", "is_curve", defArgs (top 18), defBody (top 18), defScope (top 18), [], []⟩
def d_look_at_curve : He.DefD := ⟨("look_at_curve", none), "look_at_curve", "look_at_curve", defArgs (top 19), defBody (top 19), defScope (top 19), [], []⟩
def d_is_server : He.DefD := ⟨("is_server", none), "is_server", "is_server", defArgs (top 20), defBody (top 20), defScope (top 20), [], []⟩
def d_look_at_server : He.DefD := ⟨("look_at_server", none), "look_at_server", "look_at_server", defArgs (top 21), defBody (top 21), defScope (top 21), [], []⟩
def d_told_at : He.DefD := ⟨("told_at", none), "told_at", "told_at", defArgs (top 24), defBody (top 24), defScope (top 24), [], []⟩
def d_late_by : He.DefD := ⟨("late_by", none), "late_by", "late_by", defArgs (top 29), defBody (top 29), defScope (top 29), [], []⟩
def d_ticks_of : He.DefD := ⟨("ticks_of", none), "ticks_of", "ticks_of", defArgs (top 30), defBody (top 30), defScope (top 30), [], []⟩
def d_told_late : He.DefD := ⟨("told_late", none), "told_late", "told_late", defArgs (top 28), defBody (top 28), defScope (top 28), [], []⟩
def d_greatest : He.DefD := ⟨("greatest", none), "greatest", "greatest", defArgs (top 32), defBody (top 32), defScope (top 32), [], []⟩
def d_late_most : He.DefD := ⟨("late_most", none), "late_most", "late_most", defArgs (top 31), defBody (top 31), defScope (top 31), [], []⟩
def d__law_fitting_drawn : He.DefD := ⟨("_law_fitting_drawn", none), "_law_fitting_drawn", "_law_fitting_drawn", defArgs (top 61), defBody (top 61), defScope (top 61), [], []⟩
def d__law_late : He.DefD := ⟨("_law_late", none), "_law_late", "_law_late", defArgs (top 57), defBody (top 57), defScope (top 57), [], []⟩
def d__law_is_int : He.DefD := ⟨("_law_is_int", none), "_law_is_int", "_law_is_int", defArgs (top 48), defBody (top 48), defScope (top 48), [], []⟩
def d__law_too_much : He.DefD := ⟨("_law_too_much", none), "_law_too_much", "_law_too_much", defArgs (top 55), defBody (top 55), defScope (top 55), [], []⟩
def d__law_is_due : He.DefD := ⟨("_law_is_due", none), "_law_is_due", "_law_is_due", defArgs (top 60), defBody (top 60), defScope (top 60), [], []⟩
def d_is_traffic : He.DefD := ⟨("is_traffic", none), "is_traffic", "is_traffic", defArgs (top 22), defBody (top 22), defScope (top 22), [], []⟩
def d_look_at_traffic : He.DefD := ⟨("look_at_traffic", none), "look_at_traffic", "look_at_traffic", defArgs (top 23), defBody (top 23), defScope (top 23), [], []⟩
def d_told_passed : He.DefD := ⟨("told_passed", none), "told_passed", "told_passed", defArgs (top 33), defBody (top 33), defScope (top 33), [], []⟩
def d_lateness : He.DefD := ⟨("lateness", none), "lateness", "lateness", defArgs (top 34), defBody (top 34), defScope (top 34), [], []⟩
def d_told_served : He.DefD := ⟨("told_served", none), "told_served", "told_served", defArgs (top 25), defBody (top 25), defScope (top 25), [], []⟩
def d_held : He.DefD := ⟨("held", none), "held", "held", defArgs (top 37), defBody (top 37), defScope (top 37), [], []⟩
def d__law_held : He.DefD := ⟨("_law_held", none), "_law_held", "_law_held", defArgs (top 58), defBody (top 58), defScope (top 58), [], []⟩
def d__law_odd : He.DefD := ⟨("_law_odd", none), "_law_odd", "_law_odd", defArgs (top 47), defBody (top 47), defScope (top 47), [], []⟩
def d__law_bent : He.DefD := ⟨("_law_bent", none), "_law_bent", "_law_bent", defArgs (top 49), defBody (top 49), defScope (top 49), [], []⟩
def d__law_is_bool : He.DefD := ⟨("_law_is_bool", none), "_law_is_bool", "_law_is_bool", defArgs (top 50), defBody (top 50), defScope (top 50), [], []⟩
def d_held_most : He.DefD := ⟨("held_most", none), "held_most", "held_most", defArgs (top 36), defBody (top 36), defScope (top 36), [], []⟩
def d__law_full : He.DefD := ⟨("_law_full", none), "_law_full", "_law_full", defArgs (top 56), defBody (top 56), defScope (top 56), [], []⟩
def d_too_much : He.DefD := ⟨("too_much", none), "too_much", "too_much", defArgs (top 27), defBody (top 27), defScope (top 27), [], []⟩
def d_shows_late_most : He.DefD := ⟨("shows_late_most", none), "shows_late_most", "shows_late_most", defArgs (top 35), defBody (top 35), defScope (top 35), [], []⟩
def d__law_is_server_right : He.DefD := ⟨("_law_is_server_right", none), "_law_is_server_right", "_law_is_server_right", defArgs (top 62), defBody (top 62), defScope (top 62), [], []⟩
def d_one_behind_other : He.DefD := ⟨("one_behind_other", none), "one_behind_other", "one_behind_other", defArgs (top 40), defBody (top 40), defScope (top 40), [], []⟩
def d_passed_on : He.DefD := ⟨("passed_on", none), "passed_on", "passed_on", defArgs (top 26), defBody (top 26), defScope (top 26), [], []⟩
def d_told_least : He.DefD := ⟨("told_least", none), "told_least", "told_least", defArgs (top 38), defBody (top 38), defScope (top 38), [], []⟩
def d_behind : He.DefD := ⟨("behind", none), "behind", "behind", defArgs (top 39), defBody (top 39), defScope (top 39), [], []⟩
def d__law_are_servers_right : He.DefD := ⟨("_law_are_servers_right", none), "_law_are_servers_right", "_law_are_servers_right", defArgs (top 63), defBody (top 63), defScope (top 63), [], []⟩
def d__law_right : He.DefD := ⟨("_law_right", none), "_law_right", "_law_right", defArgs (top 64), defBody (top 64), defScope (top 64), [], []⟩
def d__law_pot : He.DefD := ⟨("_law_pot", none), "_law_pot", "_law_pot", defArgs (top 42), defBody (top 42), defScope (top 42), [], []⟩
def d__law_cells : He.DefD := ⟨("_law_cells", none), "_law_cells", "_law_cells", defArgs (top 45), defBody (top 45), defScope (top 45), [], []⟩
def d_law : He.DefD := ⟨("law", none), "law", "law", defArgs (top 65), defBody (top 65), defScope (top 65), [], []⟩
def d__law_heard : He.DefD := ⟨("_law_heard", none), "_law_heard", "_law_heard", defArgs (top 46), defBody (top 46), defScope (top 46), [], []⟩
def fnL : List He.DefD := ([d__law_take, d__law_of, d__law_curve_drawn, d__law_server_drawn, d__law_let, d__law_served, d__law_most, d_is_int, d_is_curve, d_look_at_curve, d_is_server, d_look_at_server, d_told_at, d_late_by, d_ticks_of, d_told_late, d_greatest, d_late_most, d__law_fitting_drawn, d__law_late, d__law_is_int, d__law_too_much, d__law_is_due, d_is_traffic, d_look_at_traffic, d_told_passed, d_lateness, d_told_served, d_held, d__law_held] : List He.DefD) ++ ([d__law_odd, d__law_bent, d__law_is_bool, d_held_most, d__law_full, d_too_much, d_shows_late_most, d__law_is_server_right, d_one_behind_other, d_passed_on, d_told_least, d_behind, d__law_are_servers_right, d__law_right, d__law_pot, d__law_cells, d_law, d__law_heard] : List He.DefD)
def faL : List He.Fa := ([.glo "_law_take", .glo "_law_of", .glo "_law_curve_drawn", .glo "_law_server_drawn", .glo "_law_let", .glo "_law_served", .glo "_law_most", .glo "is_int", .glo "is_curve", .glo "look_at_curve", .glo "is_server", .glo "look_at_server", .glo "told_at", .glo "late_by", .glo "ticks_of", .glo "told_late", .glo "greatest", .glo "late_most", .glo "_law_fitting_drawn", .glo "_law_late", .glo "_law_is_int", .glo "_law_too_much", .glo "_law_is_due", .glo "is_traffic", .glo "look_at_traffic", .glo "told_passed", .glo "lateness", .glo "told_served", .glo "held", .glo "_law_held"] : List He.Fa) ++ ([.glo "_law_odd", .glo "_law_bent", .glo "_law_is_bool", .glo "held_most", .glo "_law_full", .glo "too_much", .glo "shows_late_most", .glo "_law_is_server_right", .glo "one_behind_other", .glo "passed_on", .glo "told_least", .glo "behind", .glo "_law_are_servers_right", .glo "_law_right", .glo "_law_pot", .glo "_law_cells", .glo "law", .glo "_law_heard", .free "int", .free "len", .free "range", .free "tuple", .free "min", .free "max", .free "isinstance", .free "bool", .free "all", .free "zip", .free "enumerate", .free "sorted"] : List He.Fa) ++ ([.free "sum", .free "str", .free "list", .free "repr", .free "set", .free "abs", .int "MOST_PAIRS" 8, .int "MOST_RATE" 100, .int "MOST_BURST" 400, .int "MOST_LATE" 200, .str "NEVER" "never", .str "LATE" "late", .int "MOST_SIZE" 1000, .int "MOST_TICKS" 500, .int "THREE" 3] : List He.Fa)
def loose : List Str := (["__name__", "PassError", "TooMany", "BadCurve", "BadServer", "BadTicks", "is_int", "MOST_PAIRS", "MOST_BURST", "MOST_RATE", "MOST_TICKS", "MOST_SIZE", "MOST_LATE", "THREE", "LATE", "NEVER", "is_curve", "look_at_curve", "is_server", "look_at_server", "is_traffic", "look_at_traffic", "told_at", "told_served", "passed_on", "too_much", "told_late", "late_by", "ticks_of", "late_most"] : List Str) ++ (["greatest", "told_passed", "lateness", "shows_late_most", "held_most", "held", "told_least", "behind", "one_behind_other", "_law_pot", "_law_take", "_law_of", "_law_cells", "_law_heard", "_law_odd", "_law_is_int", "_law_bent", "_law_is_bool", "_law_curve_drawn", "_law_server_drawn", "_law_let", "_law_served", "_law_too_much", "_law_full", "_law_late", "_law_held", "_law_most", "_law_is_due", "_law_fitting_drawn", "_law_is_server_right"] : List Str) ++ (["_law_are_servers_right", "_law_right"] : List Str)
abbrev RR : PySem.W.OpenRow := PySem.W.OpenLaw.row PySem.Challenge.rw_howeveritpasses_k84_whole_how_late_and_h
def tfL : List He.Defn := [("_law_are_servers_right", none)]
def TL (K : PySem.W.Frag) : List (Addr × Str) := [((He.cT K ("_law_are_servers_right", none)).2, "_law_are_servers_right" ++ ".<locals>." ++ "<lambda>")]
def exB : PySem.W.Frag → Bool := fun _ => true
abbrev hk : PySem.W.Hook := He.hookX 4 faL fnL [] tfL exB
def ob (s : PySem.W.SharedT) : He.AlX := He.obsX 4 faL fnL [] tfL exB (HandSHeadRun.getT s)
theorem ob_eq (s : PySem.W.SharedT) : ob s = hk.obs s.abs := He.obsX_eq (HandSHeadRun.getT_eq s)
theorem run (w : World) : HandSHeadRun.RunEq RR (PySem.W.view RR.prog [65]) hk ob 3000 loose w := by
  intro os
  kernel_rfl
theorem facts {P : Program} {w : World} {K : PySem.W.Frag} {h : Heap} {mg : Str → Option Value} {f : Addr} (X : K.In h) (G : h.Ns mainGlobals mg) (hfa : mg ("law" : Str) = some (.ref f)) (c : He.SaysD faL fnL K) :
    ∃ fd : FuncData, (∀ (s : Shared) (v : Value), BindsTo s fd ⟨[v], []⟩ [("script", v)]) ∧ ∀ base : Heap, K.In base → base.Ns mainGlobals mg → (∀ p ∈ tfL.map (He.cT K), LamX.TabB base mg p.1 p.2) → FOk P w K mg base 53 f fd ["script"] (@spF ⟨TL K⟩ K mg 1 F50) := by
  letI : TabInfo := ⟨TL K⟩
  obtain ⟨fd__law_take, D__law_take⟩ := c.def_ 0 (d := d__law_take) rfl
  obtain ⟨fd__law_of, D__law_of⟩ := c.def_ 1 (d := d__law_of) rfl
  obtain ⟨fd__law_curve_drawn, D__law_curve_drawn⟩ := c.def_ 2 (d := d__law_curve_drawn) rfl
  obtain ⟨fd__law_server_drawn, D__law_server_drawn⟩ := c.def_ 3 (d := d__law_server_drawn) rfl
  obtain ⟨fd__law_let, D__law_let⟩ := c.def_ 4 (d := d__law_let) rfl
  obtain ⟨fd__law_served, D__law_served⟩ := c.def_ 5 (d := d__law_served) rfl
  obtain ⟨fd__law_most, D__law_most⟩ := c.def_ 6 (d := d__law_most) rfl
  obtain ⟨fd_is_int, D_is_int⟩ := c.def_ 7 (d := d_is_int) rfl
  obtain ⟨fd_is_curve, D_is_curve⟩ := c.def_ 8 (d := d_is_curve) rfl
  obtain ⟨fd_look_at_curve, D_look_at_curve⟩ := c.def_ 9 (d := d_look_at_curve) rfl
  obtain ⟨fd_is_server, D_is_server⟩ := c.def_ 10 (d := d_is_server) rfl
  obtain ⟨fd_look_at_server, D_look_at_server⟩ := c.def_ 11 (d := d_look_at_server) rfl
  obtain ⟨fd_told_at, D_told_at⟩ := c.def_ 12 (d := d_told_at) rfl
  obtain ⟨fd_late_by, D_late_by⟩ := c.def_ 13 (d := d_late_by) rfl
  obtain ⟨fd_ticks_of, D_ticks_of⟩ := c.def_ 14 (d := d_ticks_of) rfl
  obtain ⟨fd_told_late, D_told_late⟩ := c.def_ 15 (d := d_told_late) rfl
  obtain ⟨fd_greatest, D_greatest⟩ := c.def_ 16 (d := d_greatest) rfl
  obtain ⟨fd_late_most, D_late_most⟩ := c.def_ 17 (d := d_late_most) rfl
  obtain ⟨fd__law_fitting_drawn, D__law_fitting_drawn⟩ := c.def_ 18 (d := d__law_fitting_drawn) rfl
  obtain ⟨fd__law_late, D__law_late⟩ := c.def_ 19 (d := d__law_late) rfl
  obtain ⟨fd__law_is_int, D__law_is_int⟩ := c.def_ 20 (d := d__law_is_int) rfl
  obtain ⟨fd__law_too_much, D__law_too_much⟩ := c.def_ 21 (d := d__law_too_much) rfl
  obtain ⟨fd__law_is_due, D__law_is_due⟩ := c.def_ 22 (d := d__law_is_due) rfl
  obtain ⟨fd_is_traffic, D_is_traffic⟩ := c.def_ 23 (d := d_is_traffic) rfl
  obtain ⟨fd_look_at_traffic, D_look_at_traffic⟩ := c.def_ 24 (d := d_look_at_traffic) rfl
  obtain ⟨fd_told_passed, D_told_passed⟩ := c.def_ 25 (d := d_told_passed) rfl
  obtain ⟨fd_lateness, D_lateness⟩ := c.def_ 26 (d := d_lateness) rfl
  obtain ⟨fd_told_served, D_told_served⟩ := c.def_ 27 (d := d_told_served) rfl
  obtain ⟨fd_held, D_held⟩ := c.def_ 28 (d := d_held) rfl
  obtain ⟨fd__law_held, D__law_held⟩ := c.def_ 29 (d := d__law_held) rfl
  obtain ⟨fd__law_odd, D__law_odd⟩ := c.def_ 30 (d := d__law_odd) rfl
  obtain ⟨fd__law_bent, D__law_bent⟩ := c.def_ 31 (d := d__law_bent) rfl
  obtain ⟨fd__law_is_bool, D__law_is_bool⟩ := c.def_ 32 (d := d__law_is_bool) rfl
  obtain ⟨fd_held_most, D_held_most⟩ := c.def_ 33 (d := d_held_most) rfl
  obtain ⟨fd__law_full, D__law_full⟩ := c.def_ 34 (d := d__law_full) rfl
  obtain ⟨fd_too_much, D_too_much⟩ := c.def_ 35 (d := d_too_much) rfl
  obtain ⟨fd_shows_late_most, D_shows_late_most⟩ := c.def_ 36 (d := d_shows_late_most) rfl
  obtain ⟨fd__law_is_server_right, D__law_is_server_right⟩ := c.def_ 37 (d := d__law_is_server_right) rfl
  obtain ⟨fd_one_behind_other, D_one_behind_other⟩ := c.def_ 38 (d := d_one_behind_other) rfl
  obtain ⟨fd_passed_on, D_passed_on⟩ := c.def_ 39 (d := d_passed_on) rfl
  obtain ⟨fd_told_least, D_told_least⟩ := c.def_ 40 (d := d_told_least) rfl
  obtain ⟨fd_behind, D_behind⟩ := c.def_ 41 (d := d_behind) rfl
  obtain ⟨fd__law_are_servers_right, D__law_are_servers_right⟩ := c.def_ 42 (d := d__law_are_servers_right) rfl
  obtain ⟨fd__law_right, D__law_right⟩ := c.def_ 43 (d := d__law_right) rfl
  obtain ⟨fd__law_pot, D__law_pot⟩ := c.def_ 44 (d := d__law_pot) rfl
  obtain ⟨fd__law_cells, D__law_cells⟩ := c.def_ 45 (d := d__law_cells) rfl
  obtain ⟨fd_law, D_law⟩ := c.def_ 46 (d := d_law) rfl
  obtain ⟨fd__law_heard, D__law_heard⟩ := c.def_ 47 (d := d__law_heard) rfl
  have g__law_take := He.glo_ok X G (c.fact 0 (f := .glo "_law_take") rfl)
  have g__law_of := He.glo_ok X G (c.fact 1 (f := .glo "_law_of") rfl)
  have g__law_curve_drawn := He.glo_ok X G (c.fact 2 (f := .glo "_law_curve_drawn") rfl)
  have g__law_server_drawn := He.glo_ok X G (c.fact 3 (f := .glo "_law_server_drawn") rfl)
  have g__law_let := He.glo_ok X G (c.fact 4 (f := .glo "_law_let") rfl)
  have g__law_served := He.glo_ok X G (c.fact 5 (f := .glo "_law_served") rfl)
  have g__law_most := He.glo_ok X G (c.fact 6 (f := .glo "_law_most") rfl)
  have g_is_int := He.glo_ok X G (c.fact 7 (f := .glo "is_int") rfl)
  have g_is_curve := He.glo_ok X G (c.fact 8 (f := .glo "is_curve") rfl)
  have g_look_at_curve := He.glo_ok X G (c.fact 9 (f := .glo "look_at_curve") rfl)
  have g_is_server := He.glo_ok X G (c.fact 10 (f := .glo "is_server") rfl)
  have g_look_at_server := He.glo_ok X G (c.fact 11 (f := .glo "look_at_server") rfl)
  have g_told_at := He.glo_ok X G (c.fact 12 (f := .glo "told_at") rfl)
  have g_late_by := He.glo_ok X G (c.fact 13 (f := .glo "late_by") rfl)
  have g_ticks_of := He.glo_ok X G (c.fact 14 (f := .glo "ticks_of") rfl)
  have g_told_late := He.glo_ok X G (c.fact 15 (f := .glo "told_late") rfl)
  have g_greatest := He.glo_ok X G (c.fact 16 (f := .glo "greatest") rfl)
  have g_late_most := He.glo_ok X G (c.fact 17 (f := .glo "late_most") rfl)
  have g__law_fitting_drawn := He.glo_ok X G (c.fact 18 (f := .glo "_law_fitting_drawn") rfl)
  have g__law_late := He.glo_ok X G (c.fact 19 (f := .glo "_law_late") rfl)
  have g__law_is_int := He.glo_ok X G (c.fact 20 (f := .glo "_law_is_int") rfl)
  have g__law_too_much := He.glo_ok X G (c.fact 21 (f := .glo "_law_too_much") rfl)
  have g__law_is_due := He.glo_ok X G (c.fact 22 (f := .glo "_law_is_due") rfl)
  have g_is_traffic := He.glo_ok X G (c.fact 23 (f := .glo "is_traffic") rfl)
  have g_look_at_traffic := He.glo_ok X G (c.fact 24 (f := .glo "look_at_traffic") rfl)
  have g_told_passed := He.glo_ok X G (c.fact 25 (f := .glo "told_passed") rfl)
  have g_lateness := He.glo_ok X G (c.fact 26 (f := .glo "lateness") rfl)
  have g_told_served := He.glo_ok X G (c.fact 27 (f := .glo "told_served") rfl)
  have g_held := He.glo_ok X G (c.fact 28 (f := .glo "held") rfl)
  have g__law_held := He.glo_ok X G (c.fact 29 (f := .glo "_law_held") rfl)
  have g__law_odd := He.glo_ok X G (c.fact 30 (f := .glo "_law_odd") rfl)
  have g__law_bent := He.glo_ok X G (c.fact 31 (f := .glo "_law_bent") rfl)
  have g__law_is_bool := He.glo_ok X G (c.fact 32 (f := .glo "_law_is_bool") rfl)
  have g_held_most := He.glo_ok X G (c.fact 33 (f := .glo "held_most") rfl)
  have g__law_full := He.glo_ok X G (c.fact 34 (f := .glo "_law_full") rfl)
  have g_too_much := He.glo_ok X G (c.fact 35 (f := .glo "too_much") rfl)
  have g_shows_late_most := He.glo_ok X G (c.fact 36 (f := .glo "shows_late_most") rfl)
  have g__law_is_server_right := He.glo_ok X G (c.fact 37 (f := .glo "_law_is_server_right") rfl)
  have g_one_behind_other := He.glo_ok X G (c.fact 38 (f := .glo "one_behind_other") rfl)
  have g_passed_on := He.glo_ok X G (c.fact 39 (f := .glo "passed_on") rfl)
  have g_told_least := He.glo_ok X G (c.fact 40 (f := .glo "told_least") rfl)
  have g_behind := He.glo_ok X G (c.fact 41 (f := .glo "behind") rfl)
  have g__law_are_servers_right := He.glo_ok X G (c.fact 42 (f := .glo "_law_are_servers_right") rfl)
  have g__law_right := He.glo_ok X G (c.fact 43 (f := .glo "_law_right") rfl)
  have g__law_pot := He.glo_ok X G (c.fact 44 (f := .glo "_law_pot") rfl)
  have g__law_cells := He.glo_ok X G (c.fact 45 (f := .glo "_law_cells") rfl)
  have g_law := He.glo_ok X G (c.fact 46 (f := .glo "law") rfl)
  have g__law_heard := He.glo_ok X G (c.fact 47 (f := .glo "_law_heard") rfl)
  have u_int := He.free_ok X G (c.fact 48 (f := .free "int") rfl)
  have u_len := He.free_ok X G (c.fact 49 (f := .free "len") rfl)
  have u_range := He.free_ok X G (c.fact 50 (f := .free "range") rfl)
  have u_tuple := He.free_ok X G (c.fact 51 (f := .free "tuple") rfl)
  have u_min := He.free_ok X G (c.fact 52 (f := .free "min") rfl)
  have u_max := He.free_ok X G (c.fact 53 (f := .free "max") rfl)
  have u_isinstance := He.free_ok X G (c.fact 54 (f := .free "isinstance") rfl)
  have u_bool := He.free_ok X G (c.fact 55 (f := .free "bool") rfl)
  have u_all := He.free_ok X G (c.fact 56 (f := .free "all") rfl)
  have u_zip := He.free_ok X G (c.fact 57 (f := .free "zip") rfl)
  have u_enumerate := He.free_ok X G (c.fact 58 (f := .free "enumerate") rfl)
  have u_sorted := He.free_ok X G (c.fact 59 (f := .free "sorted") rfl)
  have u_sum := He.free_ok X G (c.fact 60 (f := .free "sum") rfl)
  have u_str := He.free_ok X G (c.fact 61 (f := .free "str") rfl)
  have u_list := He.free_ok X G (c.fact 62 (f := .free "list") rfl)
  have u_repr := He.free_ok X G (c.fact 63 (f := .free "repr") rfl)
  have u_set := He.free_ok X G (c.fact 64 (f := .free "set") rfl)
  have u_abs := He.free_ok X G (c.fact 65 (f := .free "abs") rfl)
  have c_MOST_PAIRS := He.int_ok X G (c.fact 66 (f := .int "MOST_PAIRS" 8) rfl)
  have c_MOST_RATE := He.int_ok X G (c.fact 67 (f := .int "MOST_RATE" 100) rfl)
  have c_MOST_BURST := He.int_ok X G (c.fact 68 (f := .int "MOST_BURST" 400) rfl)
  have c_MOST_LATE := He.int_ok X G (c.fact 69 (f := .int "MOST_LATE" 200) rfl)
  have c_NEVER := He.str_ok X G (c.fact 70 (f := .str "NEVER" "never") rfl)
  have c_LATE := He.str_ok X G (c.fact 71 (f := .str "LATE" "late") rfl)
  have c_MOST_SIZE := He.int_ok X G (c.fact 72 (f := .int "MOST_SIZE" 1000) rfl)
  have c_MOST_TICKS := He.int_ok X G (c.fact 73 (f := .int "MOST_TICKS" 500) rfl)
  have c_THREE := He.int_ok X G (c.fact 74 (f := .int "THREE" 3) rfl)
  have e := hfa.symm.trans g_law
  cases e
  have b := FunD.bindsA (ps := ["script"]) D_law fun _ _ _ _ _ _ us hl => match us, hl with | [_], _ => rfl
  refine ⟨fd_law, fun s v => b s [v] rfl, fun base _ _ TBs => ?_⟩
  have TB := TBs _ (List.mem_map.mpr ⟨("_law_are_servers_right", none), List.mem_cons_self, rfl⟩)
  have bh := FunD.bindsA (ps := ["call"]) D__law_heard fun _ _ _ _ _ _ us hl => match us, hl with | [_], _ => rfl
  have hc : ∀ i n, CS[i]? = some n → ∃ v u, mg n = some u ∧ RelV v u ∧ ∀ H, RepB K H (fun _ => False) v (CC i) := by
    intro i n hi
    match i, hi with
    | 0, hi => cases hi; obtain ⟨t, e⟩ := c_MOST_PAIRS; exact ⟨.int 8, _, e, ⟨t, rfl⟩, fun H => .int _⟩
    | 1, hi => cases hi; obtain ⟨t, e⟩ := c_MOST_RATE; exact ⟨.int 100, _, e, ⟨t, rfl⟩, fun H => .int _⟩
    | 2, hi => cases hi; obtain ⟨t, e⟩ := c_MOST_BURST; exact ⟨.int 400, _, e, ⟨t, rfl⟩, fun H => .int _⟩
    | 3, hi => cases hi; obtain ⟨t, e⟩ := c_MOST_LATE; exact ⟨.int 200, _, e, ⟨t, rfl⟩, fun H => .int _⟩
    | 4, hi => cases hi; obtain ⟨t, e⟩ := c_NEVER; exact ⟨.str "never", _, e, ⟨t, rfl⟩, fun H => .str _⟩
    | 5, hi => cases hi; obtain ⟨t, e⟩ := c_LATE; exact ⟨.str "late", _, e, ⟨t, rfl⟩, fun H => .str _⟩
    | 6, hi => cases hi; obtain ⟨t, e⟩ := c_MOST_SIZE; exact ⟨.int 1000, _, e, ⟨t, rfl⟩, fun H => .int _⟩
    | 7, hi => cases hi; obtain ⟨t, e⟩ := c_MOST_TICKS; exact ⟨.int 500, _, e, ⟨t, rfl⟩, fun H => .int _⟩
    | 8, hi => cases hi; obtain ⟨t, e⟩ := c_THREE; exact ⟨.int 3, _, e, ⟨t, rfl⟩, fun H => .int _⟩
    | _ + 9, hi => cases hi
  have hb : ∀ n ∈ BL, mg n = none := by
    simp only [BL, List.forall_mem_cons]
    exact ⟨u_int, u_len, u_range, u_tuple, u_min, u_max, u_isinstance, u_bool, u_all, u_zip, u_enumerate, u_sorted, u_sum, u_str, u_list, u_repr, u_set, u_abs, fun _ z => nomatch z⟩
  have A0 : Facts P w K mg base 0 P0 CC (FS.take 0) CS BL := Facts.none hc hb
  have A1 : Facts P w K mg base 1 P1 CC (FS.take 1) CS BL := A0.step (N := N0) (ps := ["pot", "upto"]) (st := [2, 3, 4]) (rb := []) (b := B0) D__law_take g__law_take [] (fun _ _ _ _ _ _ us hl => match us, hl with | [_, _], _ => rfl) (fun _ z => (List.not_mem_nil z).elim) sc0 rfl ck0
  have A2 : Facts P w K mg base 2 P2 CC (FS.take 2) CS BL := A1.step (N := N1) (ps := ["pot", "some"]) (st := []) (rb := []) (b := B1) D__law_of g__law_of [] (fun _ _ _ _ _ _ us hl => match us, hl with | [_, _], _ => rfl) (fun _ z => (List.not_mem_nil z).elim) sc1 rfl ck1
  have A3 : Facts P w K mg base 3 P3 CC (FS.take 3) CS BL := A2.step (N := N2) (ps := ["pot"]) (st := [1, 2, 3, 4]) (rb := []) (b := B2) D__law_curve_drawn g__law_curve_drawn [] (fun _ _ _ _ _ _ us hl => match us, hl with | [_], _ => rfl) (fun _ z => (List.not_mem_nil z).elim) sc2 rfl ck2
  have A4 : Facts P w K mg base 4 P4 CC (FS.take 4) CS BL := A3.step (N := N3) (ps := ["pot"]) (st := []) (rb := []) (b := B3) D__law_server_drawn g__law_server_drawn [] (fun _ _ _ _ _ _ us hl => match us, hl with | [_], _ => rfl) (fun _ z => (List.not_mem_nil z).elim) sc3 rfl ck3
  have A5 : Facts P w K mg base 5 P5 CC (FS.take 5) CS BL := A4.step (N := N4) (ps := ["curve", "ticks"]) (st := []) (rb := []) (b := B4) D__law_let g__law_let [] (fun _ _ _ _ _ _ us hl => match us, hl with | [_, _], _ => rfl) (fun _ z => (List.not_mem_nil z).elim) sc4 rfl ck4
  have A6 : Facts P w K mg base 6 P6 CC (FS.take 6) CS BL := A5.step (N := N5) (ps := ["server", "ticks"]) (st := []) (rb := []) (b := B5) D__law_served g__law_served [] (fun _ _ _ _ _ _ us hl => match us, hl with | [_, _], _ => rfl) (fun _ z => (List.not_mem_nil z).elim) sc5 rfl ck5
  have A7 : Facts P w K mg base 7 P7 CC (FS.take 7) CS BL := A6.step (N := N6) (ps := ["curve", "server"]) (st := [2, 3, 4, 5]) (rb := []) (b := B6) D__law_most g__law_most [] (fun _ _ _ _ _ _ us hl => match us, hl with | [_, _], _ => rfl) (fun _ z => (List.not_mem_nil z).elim) sc6 rfl ck6
  have A8 : Facts P w K mg base 8 P8 CC (FS.take 8) CS BL := A7.step (N := N7) (ps := ["value", "low", "high"]) (st := []) (rb := []) (b := B7) D_is_int g_is_int [] (fun _ _ _ _ _ _ us hl => match us, hl with | [_, _, _], _ => rfl) (fun _ z => (List.not_mem_nil z).elim) sc7 rfl ck7
  have A9 : Facts P w K mg base 9 P9 CC (FS.take 9) CS BL := A8.step (N := N8) (ps := ["value"]) (st := [1]) (rb := []) (b := B8) D_is_curve g_is_curve [] (fun _ _ _ _ _ _ us hl => match us, hl with | [_], _ => rfl) (fun _ z => (List.not_mem_nil z).elim) sc8 rfl ck8
  have A10 : Facts P w K mg base 10 P10 CC (FS.take 10) CS BL := A9.step (N := N9) (ps := ["curve"]) (st := []) (rb := []) (b := B9) D_look_at_curve g_look_at_curve [] (fun _ _ _ _ _ _ us hl => match us, hl with | [_], _ => rfl) (fun _ z => (List.not_mem_nil z).elim) sc9 rfl ck9
  have A11 : Facts P w K mg base 11 P11 CC (FS.take 11) CS BL := A10.step (N := N10) (ps := ["value"]) (st := []) (rb := []) (b := B10) D_is_server g_is_server [] (fun _ _ _ _ _ _ us hl => match us, hl with | [_], _ => rfl) (fun _ z => (List.not_mem_nil z).elim) sc10 rfl ck10
  have A12 : Facts P w K mg base 12 P12 CC (FS.take 12) CS BL := A11.step (N := N11) (ps := ["server"]) (st := []) (rb := []) (b := B11) D_look_at_server g_look_at_server [] (fun _ _ _ _ _ _ us hl => match us, hl with | [_], _ => rfl) (fun _ z => (List.not_mem_nil z).elim) sc11 rfl ck11
  have A13 : Facts P w K mg base 13 P13 CC (FS.take 13) CS BL := A12.step (N := N12) (ps := ["curve", "ticks"]) (st := []) (rb := []) (b := B12) D_told_at g_told_at [] (fun _ _ _ _ _ _ us hl => match us, hl with | [_, _], _ => rfl) (fun _ z => (List.not_mem_nil z).elim) sc12 rfl ck12
  have A14 : Facts P w K mg base 14 P14 CC (FS.take 14) CS BL := A13.step (N := N13) (ps := ["server", "need", "ticks"]) (st := []) (rb := []) (b := B13) D_late_by g_late_by [] (fun _ _ _ _ _ _ us hl => match us, hl with | [_, _, _], _ => rfl) (fun _ z => (List.not_mem_nil z).elim) sc13 rfl ck13
  have A15 : Facts P w K mg base 15 P15 CC (FS.take 15) CS BL := A14.step (N := N14) (ps := ["curve"]) (st := [1, 2, 3, 4, 5, 6]) (rb := []) (b := B14) D_ticks_of g_ticks_of [] (fun _ _ _ _ _ _ us hl => match us, hl with | [_], _ => rfl) (fun _ z => (List.not_mem_nil z).elim) sc14 rfl ck14
  have A16 : Facts P w K mg base 16 P16 CC (FS.take 16) CS BL := A15.step (N := N15) (ps := ["curve", "server"]) (st := []) (rb := []) (b := B15) D_told_late g_told_late [] (fun _ _ _ _ _ _ us hl => match us, hl with | [_, _], _ => rfl) (fun _ z => (List.not_mem_nil z).elim) sc15 rfl ck15
  have A17 : Facts P w K mg base 17 P17 CC (FS.take 17) CS BL := A16.step (N := N16) (ps := ["curve", "ticks"]) (st := []) (rb := []) (b := B16) D_greatest g_greatest [] (fun _ _ _ _ _ _ us hl => match us, hl with | [_, _], _ => rfl) (fun _ z => (List.not_mem_nil z).elim) sc16 rfl ck16
  have A18 : Facts P w K mg base 18 P18 CC (FS.take 18) CS BL := A17.step (N := N17) (ps := ["curve", "server"]) (st := [2, 3]) (rb := []) (b := B17) D_late_most g_late_most [(1, ["server"])] (fun _ _ _ _ _ _ us hl => match us, hl with | [_, _], _ => rfl) (fun q hq => by
    simp only [List.mem_cons, List.not_mem_nil, or_false] at hq
    subst hq
    exact ⟨rfl, fun _ _ _ _ _ _ us ws h1 h2 => match us, ws, h1, h2 with | [_], [_], _, _ => rfl⟩) sc17 rfl ck17
  have A19 : Facts P w K mg base 19 P19 CC (FS.take 19) CS BL := A18.step (N := N18) (ps := ["pot", "curve", "most"]) (st := [3, 4, 5]) (rb := []) (b := B18) D__law_fitting_drawn g__law_fitting_drawn [] (fun _ _ _ _ _ _ us hl => match us, hl with | [_, _, _], _ => rfl) (fun _ z => (List.not_mem_nil z).elim) sc18 rfl ck18
  have A20 : Facts P w K mg base 20 P20 CC (FS.take 20) CS BL := A19.step (N := N19) (ps := ["server", "traffic"]) (st := [2, 3, 4, 5, 6]) (rb := []) (b := B19) D__law_late g__law_late [] (fun _ _ _ _ _ _ us hl => match us, hl with | [_, _], _ => rfl) (fun _ z => (List.not_mem_nil z).elim) sc19 rfl ck19
  have A21 : Facts P w K mg base 21 P21 CC (FS.take 21) CS BL := A20.step (N := N20) (ps := ["value", "low", "high"]) (st := []) (rb := []) (b := B20) D__law_is_int g__law_is_int [] (fun _ _ _ _ _ _ us hl => match us, hl with | [_, _, _], _ => rfl) (fun _ z => (List.not_mem_nil z).elim) sc20 rfl ck20
  have A22 : Facts P w K mg base 22 P22 CC (FS.take 22) CS BL := A21.step (N := N21) (ps := ["curve", "traffic"]) (st := [2, 3, 4]) (rb := []) (b := B21) D__law_too_much g__law_too_much [] (fun _ _ _ _ _ _ us hl => match us, hl with | [_, _], _ => rfl) (fun _ z => (List.not_mem_nil z).elim) sc21 rfl ck21
  have A23 : Facts P w K mg base 23 P23 CC (FS.take 23) CS BL := A22.step (N := N22) (ps := ["curve", "server", "late", "value"]) (st := []) (rb := []) (b := B22) D__law_is_due g__law_is_due [] (fun _ _ _ _ _ _ us hl => match us, hl with | [_, _, _, _], _ => rfl) (fun _ z => (List.not_mem_nil z).elim) sc22 rfl ck22
  have A24 : Facts P w K mg base 24 P24 CC (FS.take 24) CS BL := A23.step (N := N23) (ps := ["value"]) (st := []) (rb := []) (b := B23) D_is_traffic g_is_traffic [] (fun _ _ _ _ _ _ us hl => match us, hl with | [_], _ => rfl) (fun _ z => (List.not_mem_nil z).elim) sc23 rfl ck23
  have A25 : Facts P w K mg base 25 P25 CC (FS.take 25) CS BL := A24.step (N := N24) (ps := ["traffic"]) (st := []) (rb := []) (b := B24) D_look_at_traffic g_look_at_traffic [] (fun _ _ _ _ _ _ us hl => match us, hl with | [_], _ => rfl) (fun _ z => (List.not_mem_nil z).elim) sc24 rfl ck24
  have A26 : Facts P w K mg base 26 P26 CC (FS.take 26) CS BL := A25.step (N := N25) (ps := ["server", "traffic"]) (st := [2, 3, 4, 5, 6]) (rb := []) (b := B25) D_told_passed g_told_passed [] (fun _ _ _ _ _ _ us hl => match us, hl with | [_, _], _ => rfl) (fun _ z => (List.not_mem_nil z).elim) sc25 rfl ck25
  have A27 : Facts P w K mg base 27 P27 CC (FS.take 27) CS BL := A26.step (N := N26) (ps := ["server", "traffic"]) (st := []) (rb := []) (b := B26) D_lateness g_lateness [(1, ["traffic"])] (fun _ _ _ _ _ _ us hl => match us, hl with | [_, _], _ => rfl) (fun q hq => by
    simp only [List.mem_cons, List.not_mem_nil, or_false] at hq
    subst hq
    exact ⟨rfl, fun _ _ _ _ _ _ us ws h1 h2 => match us, ws, h1, h2 with | [_], [_], _, _ => rfl⟩) sc26 rfl ck26
  have A28 : Facts P w K mg base 28 P28 CC (FS.take 28) CS BL := A27.step (N := N27) (ps := ["server", "ticks"]) (st := []) (rb := []) (b := B27) D_told_served g_told_served [] (fun _ _ _ _ _ _ us hl => match us, hl with | [_, _], _ => rfl) (fun _ z => (List.not_mem_nil z).elim) sc27 rfl ck27
  have A29 : Facts P w K mg base 29 P29 CC (FS.take 29) CS BL := A28.step (N := N28) (ps := ["server", "traffic"]) (st := [2, 3, 4]) (rb := []) (b := B28) D_held g_held [(1, ["traffic"])] (fun _ _ _ _ _ _ us hl => match us, hl with | [_, _], _ => rfl) (fun q hq => by
    simp only [List.mem_cons, List.not_mem_nil, or_false] at hq
    subst hq
    exact ⟨rfl, fun _ _ _ _ _ _ us ws h1 h2 => match us, ws, h1, h2 with | [_], [_], _, _ => rfl⟩) sc28 rfl ck28
  have A30 : Facts P w K mg base 30 P30 CC (FS.take 30) CS BL := A29.step (N := N29) (ps := ["server", "traffic"]) (st := [2, 3, 4]) (rb := []) (b := B29) D__law_held g__law_held [] (fun _ _ _ _ _ _ us hl => match us, hl with | [_, _], _ => rfl) (fun _ z => (List.not_mem_nil z).elim) sc29 rfl ck29
  have A31 : Facts P w K mg base 31 P31 CC (FS.take 31) CS BL := A30.step (N := N30) (ps := ["pot"]) (st := [1]) (rb := []) (b := B30) D__law_odd g__law_odd [] (fun _ _ _ _ _ _ us hl => match us, hl with | [_], _ => rfl) (fun _ z => (List.not_mem_nil z).elim) sc30 rfl ck30
  have A32 : Facts P w K mg base 32 P32 CC (FS.take 32) CS BL := A31.bad (ps := ["pot", "value"]) D__law_bent g__law_bent (fun _ _ _ _ _ _ us hl => match us, hl with | [_, _], _ => rfl)
  have A33 : Facts P w K mg base 33 P33 CC (FS.take 33) CS BL := A32.step (N := N32) (ps := ["pot", "value"]) (st := [2]) (rb := []) (b := B32) D__law_bent g__law_bent [] (fun _ _ _ _ _ _ us hl => match us, hl with | [_, _], _ => rfl) (fun _ z => (List.not_mem_nil z).elim) sc32 rfl ck32
  have A34 : Facts P w K mg base 34 P34 CC (FS.take 34) CS BL := A33.step (N := N33) (ps := ["pot", "value"]) (st := [2]) (rb := []) (b := B33) D__law_bent g__law_bent [] (fun _ _ _ _ _ _ us hl => match us, hl with | [_, _], _ => rfl) (fun _ z => (List.not_mem_nil z).elim) sc33 rfl ck33
  have A35 : Facts P w K mg base 35 P35 CC (FS.take 35) CS BL := A34.step (N := N34) (ps := ["pot", "value"]) (st := [2]) (rb := []) (b := B34) D__law_bent g__law_bent [] (fun _ _ _ _ _ _ us hl => match us, hl with | [_, _], _ => rfl) (fun _ z => (List.not_mem_nil z).elim) sc34 rfl ck34
  have A36 : Facts P w K mg base 36 P36 CC (FS.take 36) CS BL := A35.step (N := N35) (ps := ["pot", "value"]) (st := [2]) (rb := []) (b := B35) D__law_bent g__law_bent [] (fun _ _ _ _ _ _ us hl => match us, hl with | [_, _], _ => rfl) (fun _ z => (List.not_mem_nil z).elim) sc35 rfl ck35
  have A37 : Facts P w K mg base 37 P37 CC (FS.take 37) CS BL := A36.step (N := N36) (ps := ["told", "due"]) (st := []) (rb := []) (b := B36) D__law_is_bool g__law_is_bool [] (fun _ _ _ _ _ _ us hl => match us, hl with | [_, _], _ => rfl) (fun _ z => (List.not_mem_nil z).elim) sc36 rfl ck36
  have A38 : Facts P w K mg base 38 P38 CC (FS.take 38) CS BL := A37.step (N := N37) (ps := ["curve", "server"]) (st := [2]) (rb := []) (b := B37) D_held_most g_held_most [(1, ["server"])] (fun _ _ _ _ _ _ us hl => match us, hl with | [_, _], _ => rfl) (fun q hq => by
    simp only [List.mem_cons, List.not_mem_nil, or_false] at hq
    subst hq
    exact ⟨rfl, fun _ _ _ _ _ _ us ws h1 h2 => match us, ws, h1, h2 with | [_], [_], _, _ => rfl⟩) sc37 rfl ck37
  have A39 : Facts P w K mg base 39 P39 CC (FS.take 39) CS BL := A38.step (N := N38) (ps := ["curve", "ticks"]) (st := []) (rb := []) (b := B38) D__law_full g__law_full [] (fun _ _ _ _ _ _ us hl => match us, hl with | [_, _], _ => rfl) (fun _ z => (List.not_mem_nil z).elim) sc38 rfl ck38
  have A40 : Facts P w K mg base 40 P40 CC (FS.take 40) CS BL := A39.step (N := N39) (ps := ["curve", "traffic"]) (st := [2, 3, 4]) (rb := []) (b := B39) D_too_much g_too_much [] (fun _ _ _ _ _ _ us hl => match us, hl with | [_, _], _ => rfl) (fun _ z => (List.not_mem_nil z).elim) sc39 rfl ck39
  have A41 : Facts P w K mg base 41 P41 CC (FS.take 41) CS BL := A40.step (N := N40) (ps := ["curve", "server", "value"]) (st := [3]) (rb := []) (b := B40) D_shows_late_most g_shows_late_most [(2, ["value"])] (fun _ _ _ _ _ _ us hl => match us, hl with | [_, _, _], _ => rfl) (fun q hq => by
    simp only [List.mem_cons, List.not_mem_nil, or_false] at hq
    subst hq
    exact ⟨rfl, fun _ _ _ _ _ _ us ws h1 h2 => match us, ws, h1, h2 with | [_, _], [_], _, _ => rfl⟩) sc40 rfl ck40
  have A42 : Facts P w K mg base 42 P42 CC (FS.take 42) CS BL := A41.step (N := N41) (ps := ["pot", "curve", "server"]) (st := [3, 4, 5, 6, 7, 8, 9]) (rb := []) (b := B41) D__law_is_server_right g__law_is_server_right [] (fun _ _ _ _ _ _ us hl => match us, hl with | [_, _, _], _ => rfl) (fun _ z => (List.not_mem_nil z).elim) sc41 rfl ck41
  have A43 : Facts P w K mg base 43 P43 CC (FS.take 43) CS BL := A42.step (N := N42) (ps := ["one", "other"]) (st := []) (rb := []) (b := B42) D_one_behind_other g_one_behind_other [(1, ["other"])] (fun _ _ _ _ _ _ us hl => match us, hl with | [_, _], _ => rfl) (fun q hq => by
    simp only [List.mem_cons, List.not_mem_nil, or_false] at hq
    subst hq
    exact ⟨rfl, fun _ _ _ _ _ _ us ws h1 h2 => match us, ws, h1, h2 with | [_], [_], _, _ => rfl⟩) sc42 rfl ck42
  have A44 : Facts P w K mg base 44 P44 CC (FS.take 44) CS BL := A43.step (N := N43) (ps := ["server", "ticks"]) (st := []) (rb := []) (b := B43) D_passed_on g_passed_on [(1, ["ticks"])] (fun _ _ _ _ _ _ us hl => match us, hl with | [_, _], _ => rfl) (fun q hq => by
    simp only [List.mem_cons, List.not_mem_nil, or_false] at hq
    subst hq
    exact ⟨rfl, fun _ _ _ _ _ _ us ws h1 h2 => match us, ws, h1, h2 with | [_], [_], _, _ => rfl⟩) sc43 rfl ck43
  have A45 : Facts P w K mg base 45 P45 CC (FS.take 45) CS BL := A44.step (N := N44) (ps := ["pairs"]) (st := [1, 2]) (rb := []) (b := B44) D_told_least g_told_least [] (fun _ _ _ _ _ _ us hl => match us, hl with | [_], _ => rfl) (fun _ z => (List.not_mem_nil z).elim) sc44 rfl ck44
  have A46 : Facts P w K mg base 46 P46 CC (FS.take 46) CS BL := A45.step (N := N45) (ps := ["curve", "server"]) (st := [2]) (rb := []) (b := B45) D_behind g_behind [(1, ["server"])] (fun _ _ _ _ _ _ us hl => match us, hl with | [_, _], _ => rfl) (fun q hq => by
    simp only [List.mem_cons, List.not_mem_nil, or_false] at hq
    subst hq
    exact ⟨rfl, fun _ _ _ _ _ _ us ws h1 h2 => match us, ws, h1, h2 with | [_], [_], _, _ => rfl⟩) sc45 rfl ck45
  have A47 : Facts P w K mg base 49 P47 CC (FS.take 47) CS BL := A46.stepH (N := N46) (ps := ["pot", "curve", "one", "other"]) (st := [4, 5, 6, 7, 8, 9, 10, 11]) (rb := []) (b := B46) D__law_are_servers_right g__law_are_servers_right (fun _ _ _ _ _ _ us hl => match us, hl with | [_, _, _, _], _ => rfl) sc46 rfl ck46 fun oc dV kV doc pm cdv ct od an osl lk hcd => hdF_of g__law_heard D__law_heard (by decide +kernel) (by decide +kernel) (by decide +kernel) (fun s u => bh s [u] rfl) lk rfl hcd TB
  have A48 : Facts P w K mg base 50 P48 CC (FS.take 48) CS BL := A47.step (N := N47) (ps := ["pot"]) (st := [1, 2, 3]) (rb := []) (b := B47) D__law_right g__law_right [] (fun _ _ _ _ _ _ us hl => match us, hl with | [_], _ => rfl) (fun _ z => (List.not_mem_nil z).elim) sc47 rfl ck47
  have A49 : Facts P w K mg base 51 P49 CC (FS.take 49) CS BL := A48.step (N := N48) (ps := ["script", "place"]) (st := [2, 3, 4]) (rb := []) (b := B48) D__law_pot g__law_pot [] (fun _ _ _ _ _ _ us hl => match us, hl with | [_, _], _ => rfl) (fun _ z => (List.not_mem_nil z).elim) sc48 rfl ck48
  have A50 : Facts P w K mg base 52 P50 CC (FS.take 50) CS BL := A49.step (N := N49) (ps := ["script", "most"]) (st := []) (rb := []) (b := B49) D__law_cells g__law_cells [] (fun _ _ _ _ _ _ us hl => match us, hl with | [_, _], _ => rfl) (fun _ z => (List.not_mem_nil z).elim) sc49 rfl ck49
  exact A50.def_ (N := N50) (ps := ["script"]) (st := []) (rb := []) (b := B50) D_law sc50 rfl ck50
end Lw
end

section
set_option Elab.async false
set_option linter.all false
set_option maxRecDepth 100000
set_option maxHeartbeats 1000000
/-! K1: k83, what the functions come to -/
namespace Lw
open PySem L2
@[simp] theorem s_bind {α β} (m : M α) (f : α → M β) (E : SE) : M.bind m f E = (m E).bind f := rfl
@[simp] theorem s_bind2 {α β} (m : M α) (f : α → M β) (E : SE) : (m >>= f) E = (m E).bind f := rfl
@[simp] theorem s_ok {α β} (a : α) (E : SE) (f : α → M β) : (R.ok a E).bind f = f a E := rfl
@[simp] theorem s_pure {α} (a : α) (E : SE) : M.pure a E = .ok a E := rfl
@[simp] theorem s_pure2 {α} (a : α) (E : SE) : (pure a : M α) E = .ok a E := rfl
@[simp] theorem s_some {α} (a : α) : M.opt (some a) = M.pure a := rfl
@[simp] theorem s_of {α} (a : α) (E : SE) (f : α → SE → SR) : SR.of (.ok a E) f = f a E := rfl
@[simp] theorem s_nx (E : SE) (f : SE → SR) : SR.then (.nx E) f = f E := rfl
@[simp] theorem s_rt (s : Sl) (E : SE) (f : SE → SR) : SR.then (.rt s E) f = .rt s E := rfl
@[simp] theorem s_slot (i : Nat) (E : SE) : slotAt i E = match E[i]? with | some (.val d) => .ok d E | some (.own d) => .ok d E | _ => .bad := rfl
@[simp] theorem s_evA0 (E : SE) : evA [] E = .ok [] E := rfl
@[simp] theorem s_evA1 (i : Nat) (r : List Opd) (E : SE) : evA (.slot i :: r) E = (slotAt i E).bind fun _ => fun E1 => (evA r E1).bind fun ds => fun E2 => (slotAt i E2).bind fun d => fun E3 => .ok (d :: ds) E3 := rfl
@[simp] theorem s_evA2 (f : M Sl) (r : List Opd) (E : SE) : evA (.ex f :: r) E = (f E).bind fun s => fun E1 => (evA r E1).bind fun ds => fun E2 => .ok (s.d :: ds) E2 := rfl
instance noTabs : TabInfo := ⟨[]⟩
def SIMSET : Nat := 0
local macro_rules | `(tactic| trivial) => `(tactic| simp [fnS, exs, ex, ev, evT, evD, opd, opds, args, biS, tyS, isiD, tyD, isiTys, isiS, vB, vI, Sl.d, cmpS, bopS, ixS, wipeE, truthD, putS, updS, setD, isOwnL, appD, extD, popS, varS, fzS, callS, evC, putBack, atI, ixN])
theorem is_int_ok (v lo hi : Int) : F7 [.val (.int v), .val (.int lo), .val (.int hi)] = .ok (vB (decide (lo ≤ v) && decide (v ≤ hi))) [.val (.int v), .val (.int lo), .val (.int hi)] := by
  unfold F7 B7
  by_cases h : lo ≤ v <;> simp [fnS, exs, ex, ev, opd, opds, biS, isiD, tyD, isiTys, isiS, vB, vI, Sl.d, cmpS, wipeE, h]
theorem log_lt {n k : Nat} (hk : 0 < k) (h : n < 2 ^ k) : n.log2 < k := by
  by_cases e : n = 0
  · subst e; simpa using hk
  · exact (Nat.log2_lt e).mpr h
theorem mulOk_of {i j : Int} {a b : Nat} (ha : 0 < a) (hb : 0 < b) (h1 : i.natAbs < 2 ^ a) (h2 : j.natAbs < 2 ^ b) (h : a + b ≤ 1000000) : mulOk i j = true := by
  have q1 := log_lt ha h1
  have q2 := log_lt hb h2
  unfold mulOk
  exact decide_eq_true (by omega)
def PotOk (n : Int) (l : List D) : Prop := ∃ a b c : Int, l = [.int a, .int b, .int c] ∧ 0 ≤ a ∧ (0 ≤ b ∧ b < 2 ^ 61) ∧ 0 ≤ c ∧ c ≤ n
theorem take_ok {n u : Int} {l : List D} (hn : n < 2 ^ 20) (h : PotOk n l) (hu : 0 < u ∧ u < 2 ^ 31) :
    ∃ d l', (0 ≤ d ∧ d < u) ∧ PotOk (n + 1) l' ∧ F0 [.own (.lst l), .val (.int u)] = .ok (vI d) [.own (.lst l'), .val (.int u)] := by
  obtain ⟨a, b, c, rfl, ha, hb, hc, hcn⟩ := h
  have hlog : u.natAbs.log2 < 9000 := log_lt (by decide) (Nat.lt_of_lt_of_le (show u.natAbs < 2 ^ 31 by omega) (Nat.pow_le_pow_right (by decide) (by decide)))
  by_cases h0 : 0 < a
  · refine ⟨a % u, [.int (a / u), .int b, .int c], ⟨Int.emod_nonneg _ (by omega), Int.emod_lt_of_pos _ hu.1⟩, ⟨_, _, _, rfl, Int.ediv_nonneg ha (by omega), hb, hc, by omega⟩, ?_⟩
    unfold F0 B0
    simp [fnS, exs, ex, ev, evT, opd, opds, biS, tyS, vB, vI, Sl.d, cmpS, bopS, ixS, wipeE, truthD, putS, updS, setD, isOwnL, popS, evC, atI, ixN, h0, hu.1, hlog]
  · have pos : ∀ x : Int, 0 < x % 1 ∨ True := fun _ => .inr trivial
    obtain ⟨C, hC⟩ : ∃ C, C = c + 1 := ⟨_, rfl⟩
    have hC0 : 0 < C := by omega
    have hC1 : C < 2 ^ 21 := by omega
    have m1 : mulOk 96179 C = true := mulOk_of (a := 17) (b := 21) (by decide) (by decide) (by decide) (by omega) (by decide)
    have m2 : mulOk (96179 * C) C = true := mulOk_of (a := 38) (b := 21) (by decide) (by decide) (by omega) (by omega) (by decide)
    have m3 : mulOk 367 C = true := mulOk_of (a := 9) (b := 21) (by decide) (by decide) (by decide) (by omega) (by decide)
    obtain ⟨X, hX⟩ : ∃ X, X = b + 96179 * C * C + 2131 := ⟨_, rfl⟩
    have hCC : 96179 * C * C < 2 ^ 60 := by
      have : C * C ≤ 2 ^ 21 * 2 ^ 21 := Int.mul_le_mul (by omega) (by omega) (by omega) (by omega)
      have e : 96179 * C * C = 96179 * (C * C) := Int.mul_assoc _ _ _
      omega
    have hCC0 : 0 ≤ 96179 * C * C := Int.mul_nonneg (by omega) (by omega)
    have b1 : (Builtin.Int.intBits X : Int) * 3 ≤ 134217728 := by
      have : X.natAbs.log2 < 62 := log_lt (by decide) (by omega)
      unfold Builtin.Int.intBits
      split <;> omega
    obtain ⟨p, hp, hpi⟩ : ∃ p : Int, (0 < p ∧ p < 2 ^ 31) ∧ atI [D.int 2147483647, .int 2147483629, .int 2147483587, .int 2147483579, .int 2147483563] (C % 5) = some (.int p) := by
      have : C % 5 = 0 ∨ C % 5 = 1 ∨ C % 5 = 2 ∨ C % 5 = 3 ∨ C % 5 = 4 := by omega
      rcases this with e | e | e | e | e <;> rw [e] <;> exact ⟨_, by constructor <;> decide, rfl⟩
    obtain ⟨Y, hY⟩ : ∃ Y, Y = X ^ 3 % p := ⟨_, rfl⟩
    have hY0 : 0 ≤ Y := by rw [hY]; exact Int.emod_nonneg _ (by omega)
    have hY1 : Y < 2 ^ 31 := by rw [hY]; have := Int.emod_lt_of_pos (X ^ 3) hp.1; omega
    have m4 : mulOk Y (Y % 11833 + 367 * C) = true := mulOk_of (a := 31) (b := 40) (by decide) (by decide) (by omega) (by omega) (by decide)
    refine ⟨(Y * (Y % 11833 + 367 * C)) % 2305843009213693907 / 191 % u, [.int a, .int b, .int C], ⟨Int.emod_nonneg _ (by omega), Int.emod_lt_of_pos _ hu.1⟩, ⟨_, _, _, rfl, ha, hb, by omega, by omega⟩, ?_⟩
    have a0 : ∀ x y z : D, atI [x, y, z] 0 = some x := fun _ _ _ => rfl
    have a1 : ∀ x y z : D, atI [x, y, z] 1 = some y := fun _ _ _ => rfl
    have a2 : ∀ x y z : D, atI [x, y, z] 2 = some z := fun _ _ _ => rfl
    unfold F0 B0
    have l191 : Nat.log2 191 < 9000 := by decide +kernel
    simp [a0, a1, a2, l191, sizeLine_eq, fnS, exs, ex, ev, evT, evD, opd, opds, biS, tyS, vB, vI, Sl.d, cmpS, bopS, ixS, wipeE, truthD, putS, updS, setD, isOwnL, popS, evC, h0, hu.1, hlog, ixN, ← hC, m1, m2, m3, ← hX, hpi, b1, ← hY, m4, hp.1]
theorem nx_same (Φ : Nat → M Sl) (j : Nat) (F : M Sl) : nx Φ j F j = F := if_pos rfl
theorem nx_ne (Φ : Nat → M Sl) {i j : Nat} (F : M Sl) (h : i ≠ j) : nx Φ j F i = Φ i := if_neg h
theorem atI_mem {α : Type} {xs : List α} {i : Int} (h0 : 0 ≤ i) (h1 : i < xs.length) : ∃ x, x ∈ xs ∧ atI xs i = some x ∧ xs[i.toNat]? = some x := by
  have hl : i.toNat < xs.length := by omega
  refine ⟨xs[i.toNat], List.getElem_mem hl, ?_, by simp [hl]⟩
  unfold atI ixN
  simp [h0, h1, hl]
theorem of_ok {n : Int} {l xs : List D} (hn : n < 2 ^ 20) (h : PotOk n l) (hx : xs ≠ []) (hz : xs.length < 2 ^ 24) :
    ∃ d l', d ∈ xs ∧ PotOk (n + 1) l' ∧ F1 [.own (.lst l), .own (.lst xs)] = .ok (.val d) [.own (.lst l'), .own (.lst xs)] := by
  have hlen : 0 < xs.length := List.length_pos_iff.mpr hx
  obtain ⟨i, l', hi, hp, e⟩ := take_ok (u := (xs.length : Int)) hn h ⟨by omega, by omega⟩
  obtain ⟨d, hd, ed, _⟩ := atI_mem (xs := xs) hi.1 hi.2
  refine ⟨d, l', hd, hp, ?_⟩
  have p3 : P1 0 = F0 := nx_same _ _ _
  have sz : xs.length ≤ sizeLine := by rw [sizeLine_eq]; omega
  unfold F1 B1
  simp [fnS, exs, ex, ev, opd, opds, args, biS, lenD, vI, Sl.d, ixS, wipeE, callS, evC, popS, p3, e, ed, putBack, sz]
theorem idx_scr {ns : List Int} {i : Nat} (h : i < ns.length) : atI ns (i : Int) = some ns[i] := by
  obtain ⟨x, _, e, e2⟩ := atI_mem (xs := ns) (i := (i : Int)) (by omega) (by omega)
  rw [e, ← e2]
  simp [h]
theorem intBits10 : (Builtin.Int.intBits 10 : Int) * 60 ≤ 134217728 := by decide +kernel
theorem intBits60 : (Builtin.Int.intBits (10 ^ 60) : Int) * 5 ≤ 134217728 := by decide +kernel
theorem intBits18 : (Builtin.Int.intBits 10 : Int) * 18 ≤ 134217728 := by decide +kernel
/-- the pot of a cell -/
theorem pot_ok {ns : List Int} {i : Nat} (hi : i < 3) (hz : ns.length ≤ 63) (hl : i < ns.length ∨ (ns = [] ∧ i = 0)) :
    ∃ l, PotOk 0 l ∧ F48 [.val (.scr ns), .val (.int i)] = .ok (.own (.lst l)) [.val (.scr ns), .val (.int i)] := by
  obtain ⟨cell, hc⟩ : ∃ c : Int, ev P48 CC (.ite (.cmp .Lt (.var 1) (.bi .len [(.var 0)])) (.idx (.var 0) (.var 1)) (.bop .Add (.bop .Add (.bop .Mod (.ty .int [(.bi .sum [(.slc (.var 0) .non (.int 1))])]) (.int 999979)) (.bop .Mult (.int 3389) (.var 1))) (.int 2131))) [.val (.scr ns), .val (.int i), .no, .no, .no] = .ok (vI c) [.val (.scr ns), .val (.int i), .no, .no, .no] := by
    rcases hl with hl | ⟨rfl, rfl⟩
    · refine ⟨ns[i], ?_⟩
      have := idx_scr hl
      simp [ev, evT, opd, opds, biS, lenD, vI, vB, Sl.d, cmpS, truthD, ixS, hl, this]
    · refine ⟨2131, ?_⟩
      have m0 : mulOk 3389 0 = true := by decide +kernel
      simp [ev, evT, opd, opds, biS, tyS, lenD, vI, vB, Sl.d, cmpS, truthD, bopS, slS, slP, partO, isNonE, partD, cutD, intsOf, m0]
  have iB : (i : Int) = 0 ∨ (i : Int) = 1 ∨ (i : Int) = 2 := by omega
  obtain ⟨own, ho, eo⟩ : ∃ own : Int, 0 ≤ own ∧ ev P48 CC (.bop .Mult (.bop .Mod (.ty .int [(.bi .abs [(.var 2)])]) (.bop .Pow (.bop .Pow (.int 10) (.int 60)) (.int 5))) (.ty .int [(.cmp .GtE (.bi .abs [(.var 2)]) (.bop .Pow (.int 10) (.int 18)))])) [.val (.scr ns), .val (.int i), vI cell, .no, .no] = .ok (vI own) [.val (.scr ns), .val (.int i), vI cell, .no, .no] := by
    have p5 : (0 : Int) < (10 ^ 60) ^ 5 := Int.pow_pos (Int.pow_pos (by decide))
    obtain ⟨Z, hZ⟩ : ∃ Z : Int, Z = if cell < 0 then -cell else cell := ⟨_, rfl⟩
    obtain ⟨A, hA⟩ : ∃ A : Int, A = Z % (10 ^ 60) ^ 5 := ⟨_, rfl⟩
    have q10 : (0 : Int) ≤ 60 ∧ (Builtin.Int.intBits 10 : Int) * 60 ≤ 2 ^ 27 := ⟨by decide, by decide +kernel⟩
    have q60 : (0 : Int) ≤ 5 ∧ (Builtin.Int.intBits (10 ^ 60) : Int) * 5 ≤ 2 ^ 27 := ⟨by decide, by decide +kernel⟩
    have q18 : (0 : Int) ≤ 18 ∧ (Builtin.Int.intBits 10 : Int) * 18 ≤ 2 ^ 27 := ⟨by decide, by decide +kernel⟩
    have A0 : 0 ≤ A := by rw [hA]; exact Int.emod_nonneg _ (by omega)
    have A1 : A < (10 ^ 60) ^ 5 := by rw [hA]; exact Int.emod_lt_of_pos _ p5
    have A2 : A.natAbs < 2 ^ 1000 := by
      have : ((10 : Int) ^ 60) ^ 5 < 2 ^ 1000 := by decide +kernel
      have h2 : (A.natAbs : Int) = A := Int.natAbs_of_nonneg A0
      have : ((A.natAbs : Nat) : Int) < ((2 ^ 1000 : Nat) : Int) := by rw [h2]; push_cast; exact Int.lt_trans A1 this
      exact Int.ofNat_lt.mp this
    by_cases hb : (10 : Int) ^ 18 ≤ Z
    · have m : mulOk A 1 = true := mulOk_of (a := 1000) (b := 1) (by decide) (by decide) A2 (by decide) (by decide)
      refine ⟨A * 1, by omega, ?_⟩
      simp [-Int.reducePow, -Nat.reducePow, ev, opd, opds, biS, tyS, vI, vB, Sl.d, cmpS, bopS, q10, q60, q18, ← hZ, hb, p5, ← hA, m]
    · have m : mulOk A 0 = true := mulOk_of (a := 1000) (b := 1) (by decide) (by decide) A2 (by decide) (by decide)
      refine ⟨A * 0, by omega, ?_⟩
      simp [-Int.reducePow, -Nat.reducePow, ev, opd, opds, biS, tyS, vI, vB, Sl.d, cmpS, bopS, q10, q60, q18, ← hZ, hb, p5, ← hA, m]
  have s0 : 0 ≤ cell % 2305843009213693951 := Int.emod_nonneg _ (by decide)
  have s1 : cell % 2305843009213693951 < 2305843009213693951 := Int.emod_lt_of_pos _ (by decide)
  obtain ⟨sm, hsm⟩ : ∃ x, x = cell % 2305843009213693951 := ⟨_, rfl⟩
  have m1 : mulOk sm 84313 = true := mulOk_of (a := 62) (b := 20) (by decide) (by decide) (by omega) (by decide) (by decide)
  have m2 : mulOk 11257 (i : Int) = true := mulOk_of (a := 20) (b := 20) (by decide) (by decide) (by decide) (by omega) (by decide)
  have m3 : mulOk (11257 * (i : Int)) (i : Int) = true := mulOk_of (a := 20) (b := 20) (by decide) (by decide) (by omega) (by omega) (by decide)
  refine ⟨[.int own, .int ((sm * 84313 + 11257 * i * i + 1847) % 2305843009213693921), .int 0], ⟨_, _, _, rfl, ho, ⟨Int.emod_nonneg _ (by decide), Int.lt_trans (Int.emod_lt_of_pos _ (by decide)) (by decide)⟩, by decide, by decide⟩, ?_⟩
  unfold F48 B48
  simp only [fnS, exs, ex]
  simp only [vI] at hc eo
  simp [hc, eo, putS]
  simp [ev, evD, opd, opds, biS, tyS, vI, vB, Sl.d, bopS, wipeE, putS, fzS, ← hsm, m1, m2, m3, sizeLine_eq]
end Lw
end

section
set_option Elab.async false
set_option linter.all false
set_option maxRecDepth 100000
set_option maxHeartbeats 1000000
/-! K2: comprehensions; the law from one cell -/
namespace Lw
open PySem L2
/-- a comprehension whose turns leave the slots alone -/
theorem lcI_map {bt : D → SE → Option SE} {tests : List (M Bool)} {elt : M Sl} {own : List Nat} {W : SE} {f : D → D} (hW : wipeE W own = W) : ∀ (ds acc : List D), acc.length + ds.length ≤ sizeLine →
    (∀ d ∈ ds, ∃ E1 E2 E3 s, bt d W = some E1 ∧ lcI.allT tests E1 = .ok true E2 ∧ elt E2 = .ok s E3 ∧ s.d = f d ∧ wipeE E3 own = W) → lcI bt tests elt own ds acc W = .ok (acc ++ ds.map f) W
  | [], acc, _, _ => by rw [lcI]; simp
  | d :: ds, acc, hz, h => by
    obtain ⟨E1, E2, E3, s, h1, h2, h3, h4, h5⟩ := h d List.mem_cons_self
    simp only [List.length_cons] at hz
    rw [lcI]
    simp only [hW, h1, h2, s_ok, if_true, h3, h4, h5]
    rw [if_pos (by omega), lcI_map hW ds (acc ++ [f d]) (by simp; omega) fun x hx => h x (List.mem_cons_of_mem _ hx)]
    simp
theorem lcI_mapG {α : Type} {bt : D → SE → Option SE} {tests : List (M Bool)} {elt : M Sl} {own : List Nat} {W : SE} {g f : α → D} (hW : wipeE W own = W) : ∀ (xs : List α) (acc : List D), acc.length + xs.length ≤ sizeLine →
    (∀ x ∈ xs, ∃ E1 E2 E3 s, bt (g x) W = some E1 ∧ lcI.allT tests E1 = .ok true E2 ∧ elt E2 = .ok s E3 ∧ s.d = f x ∧ wipeE E3 own = W) → lcI bt tests elt own (xs.map g) acc W = .ok (acc ++ xs.map f) W
  | [], acc, _, _ => by simp [lcI]
  | d :: ds, acc, hz, h => by
    obtain ⟨E1, E2, E3, s, h1, h2, h3, h4, h5⟩ := h d List.mem_cons_self
    simp only [List.length_cons] at hz
    rw [List.map_cons, lcI]
    simp only [hW, h1, h2, s_ok, if_true, h3, h4, h5]
    rw [if_pos (by omega), lcI_mapG hW ds (acc ++ [f d]) (by simp; omega) fun x hx => h x (List.mem_cons_of_mem _ hx)]
    simp
theorem rng_len (n : Int) : (rngD 0 n).length = n.toNat := by simp [rngD]
theorem rng_mem {n : Int} {d : D} (h : d ∈ rngD 0 n) : ∃ i : Nat, (i : Int) < n ∧ d = .int i := by
  unfold rngD at h
  obtain ⟨i, hi, rfl⟩ := List.mem_map.mp h
  refine ⟨i, ?_, by simp⟩
  have := List.mem_range.mp hi
  omega
theorem cells_ok {ns : List Int} (hz : ns.length ≤ 63) : ∃ m : Int, 1 ≤ m ∧ m ≤ 3 ∧ (m ≤ ns.length ∨ (ns = [] ∧ m = 1)) ∧ F49 [.val (.scr ns), .val (.int 3)] = .ok (.own (.lst (rngD 0 m))) [.val (.scr ns), .val (.int 3)] := by
  obtain ⟨n, hn⟩ : ∃ n : Int, n = if (ns.length : Int) < 3 then (ns.length : Int) else 3 := ⟨_, rfl⟩
  obtain ⟨m, hm⟩ : ∃ m : Int, m = if 1 < n then n else 1 := ⟨_, rfl⟩
  have b : 1 ≤ m ∧ m ≤ 3 := by rw [hm, hn]; split <;> split <;> omega
  refine ⟨m, b.1, b.2, ?_, ?_⟩
  · rcases ns with _ | ⟨x, ns⟩
    · right; refine ⟨rfl, ?_⟩; rw [hm, hn]; rfl
    · left; rw [hm, hn]; simp only [List.length_cons]; split <;> split <;> omega
  · have lr : lrS 0 m = some (.own (.lst (rngD 0 m))) := by
      unfold lrS; rw [if_pos]; omega
    unfold F49 B49
    simp [fnS, exs, ex, ev, opd, opds, biS, lenD, vI, Sl.d, wipeE, ← hn, ← hm, lr1S, lr]
theorem blsOf_true : ∀ (ds : List D), (∀ d ∈ ds, d = .bl true) → blsOf ds = some (ds.map fun _ => true)
  | [], _ => rfl
  | d :: ds, h => by
    have := h d List.mem_cons_self
    subst this
    simp [blsOf, blsOf_true ds fun x hx => h x (List.mem_cons_of_mem _ hx)]
theorem putBack_ex (f : M Sl) (ss ps : List Sl) (E : SE) : putBack [.ex f] ss ps E = E := by
  rcases ss with _ | ⟨s, ss⟩
  · rfl
  · rcases ps with _ | ⟨p, ps⟩
    · cases s <;> rfl
    · cases s <;> simp [putBack]
/-- the law, from one pot -/
theorem law_of (right : ∀ l, PotOk 0 l → ∃ E, F47 [.own (.lst l)] = .ok (vB true) E) (ns : List Int) (hz : ns.length ≤ 63) : ∃ E, F50 [.val (.scr ns)] = .ok (.val (.bl true)) E := by
  obtain ⟨m, m1, m2, m3, ec⟩ := cells_ok hz
  have p38 : P50 49 = F49 := nx_same _ _ _
  have p37 : P50 48 = F48 := by show nx P49 49 F49 48 = F48; rw [nx_ne _ _ (by decide)]; exact nx_same _ _ _
  have p36 : P50 47 = F47 := by show nx P49 49 F49 47 = F47; rw [nx_ne _ _ (by decide)]; show nx P48 48 F48 47 = F47; rw [nx_ne _ _ (by decide)]; exact nx_same _ _ _
  have key : ∀ d ∈ rngD 0 m, ∃ E1 E2 E3 s, bindT (.nm 1) d [.val (.scr ns), .no] = some E1 ∧ lcI.allT (evTs P50 CC []) E1 = .ok true E2 ∧ ev P50 CC (.call 47 [(.call 48 [(.var 0), (.var 1)])]) E2 = .ok s E3 ∧ s.d = .bl true ∧ wipeE E3 [1] = [.val (.scr ns), .no] := by
    intro d hd
    obtain ⟨i, hi, rfl⟩ := rng_mem hd
    obtain ⟨l, hl, ep⟩ := pot_ok (ns := ns) (i := i) (by omega) hz (by rcases m3 with h | ⟨h, h2⟩; exact .inl (by omega); exact .inr ⟨h, by omega⟩)
    obtain ⟨E, er⟩ := right l hl
    refine ⟨[.val (.scr ns), .val (.int i)], [.val (.scr ns), .val (.int i)], [.val (.scr ns), .val (.int i)], vB true, by simp [bindT], by simp [evTs, lcI.allT], ?_, rfl, by simp [wipeE]⟩
    simp [ev, args, callS, evC, p36, p37, ep, popS, putBack, putBack_ex, er]
  have lc := lcI_map (bt := bindT (.nm 1)) (tests := evTs P50 CC []) (elt := ev P50 CC (.call 47 [(.call 48 [(.var 0), (.var 1)])])) (own := [1]) (W := [.val (.scr ns), .no]) (f := fun _ => .bl true) (by simp [wipeE]) (rngD 0 m) [] (by rw [rng_len, sizeLine_eq]; simp; omega) key
  have bt : blsOf ((rngD 0 m).map fun _ => D.bl true) = some (((rngD 0 m).map fun _ => D.bl true).map fun _ => true) := blsOf_true _ fun d hd => by obtain ⟨_, _, e⟩ := List.mem_map.mp hd; exact e.symm
  simp only [ev, args, List.nil_append] at lc
  refine ⟨[.val (.scr ns)], ?_⟩
  unfold F50 B50
  simp only [fnS, exs, ex, ev, opds, opd, evI]
  have c38 : callS (P50 49) [Arg.slot 0, Arg.ex (ev P50 CC (.int 3))] [.val (.scr ns), .no] = .ok (.own (.lst (rngD 0 m))) [.val (.scr ns), .no] := by
    simp [callS, evC, popS, ev, vI, p38, ec, putBack]
  simp only [ev, vI, p38] at c38
  simp [lc, c38, args, evC, popS, p38, ec, putBack, itemsD, notOwn, wipeE, ev, vI, backE, Sl.d, biS, bt]
  rw [show ((rngD 0 m).all fun _ => true) = true from List.all_eq_true.mpr fun _ _ => rfl]; rfl
end Lw
end

section
set_option Elab.async false
set_option linter.all false
set_option maxRecDepth 100000
set_option maxHeartbeats 1000000
/-! K3: curves -/
namespace Lw
open PySem L2
abbrev Cv := List (Int × Int)
def curveD (c : Cv) : D := .tup (c.map prD)
def trafD (t : List Int) : D := .tup (t.map .int)
def letZ (c : Cv) (t : Int) : Int := if 0 < t then minL (c.map fun p => p.1 + p.2 * t) else 0
/-- small entries -/
def Small (c : Cv) : Prop := ∀ p ∈ c, (0 ≤ p.1 ∧ p.1 ≤ 400) ∧ (0 ≤ p.2 ∧ p.2 ≤ 100)
theorem ev_lc (Φ : Nat → M Sl) (C : Nat → D) (elt : E) (tg : Tgt) (it : E) (ifs : List E) (own : List Nat) : ev Φ C (.lc elt tg it ifs own) = M.bind (evI Φ C it) fun ds => fun E => if notOwn E own then
      (match lcI (bindT tg) (evTs Φ C ifs) (ev Φ C elt) own ds [] (wipeE E own) with
      | .ok acc E1 => .ok (.own (.lst acc)) (backE E E1 own)
      | _ => .bad) else .bad := by rw [ev] <;> rfl
theorem ev_ty (Φ : Nat → M Sl) (C : Nat → D) (t : Bt) (as : List E) : ev Φ C (.ty t as) = M.bind (evA (opds Φ C as)) fun ds => M.opt (tyS t ds) := by rw [ev]
theorem opds1 (Φ : Nat → M Sl) (C : Nat → D) (a : E) (r : List E) : opds Φ C (a :: r) = opd Φ C a :: opds Φ C r := by rw [opds]
theorem opd_lc (Φ : Nat → M Sl) (C : Nat → D) (elt : E) (tg : Tgt) (it : E) (ifs : List E) (own : List Nat) : opd Φ C (.lc elt tg it ifs own) = .ex (ev Φ C (.lc elt tg it ifs own)) := by simp only [opd]
theorem intsOf_ints (ns : List Int) : intsOf (ns.map D.int) = some ns := intsOf_map ns
theorem let_gen (Φ : Nat → M Sl) {c : Cv} {t : Int} (hc : c ≠ []) (hs : Small c) (hz : c.length ≤ 1000) (ht : t < 2 ^ 31) :
    fnS Φ CC 4 [] B4 [.val (curveD c), .val (.int t)] = .ok (vI (letZ c t)) [.val (curveD c), .val (.int t)] := by
  by_cases h0 : 0 < t
  · have lc := lcI_mapG (bt := bindT (.tup [.nm 2, .nm 3])) (tests := evTs Φ CC []) (elt := ev Φ CC (.bop .Add (.var 2) (.bop .Mult (.var 3) (.var 1)))) (own := [2, 3]) (W := [.val (curveD c), .val (.int t), .no, .no]) (g := prD)
      (f := fun p => .int (p.1 + p.2 * t)) (by simp [wipeE]) c [] (by rw [sizeLine_eq]; simp; omega) (fun p hp => by
        have hb := hs p hp
        have m : mulOk p.2 t = true := mulOk_of (a := 10) (b := 32) (by decide) (by decide) (by omega) (by omega) (by decide)
        refine ⟨[.val (curveD c), .val (.int t), .val (.int p.1), .val (.int p.2)], [.val (curveD c), .val (.int t), .val (.int p.1), .val (.int p.2)], [.val (curveD c), .val (.int t), .val (.int p.1), .val (.int p.2)], vI (p.1 + p.2 * t), by simp [bindT, bindTs, prD], by simp [evTs, lcI.allT], ?_, rfl, by simp [wipeE]⟩
        simp [ev, opd, bopS, m, vI, Sl.d])
    have ei : intsOf (c.map fun p => D.int (p.1 + p.2 * t)) = some (c.map fun p => p.1 + p.2 * t) := by
      rw [← intsOf_ints]; simp [Function.comp_def]
    have hne : ∃ i r, (c.map fun p => p.1 + p.2 * t) = i :: r := by
      cases c with
      | nil => exact absurd rfl hc
      | cons p c => exact ⟨_, _, rfl⟩
    obtain ⟨i, r, ir⟩ := hne
    unfold B4
    simp only [ev, opd, List.nil_append] at lc
    simp [fnS, exs, ex, ev, evT, evI, opd, opds, biS, cmpS, vB, vI, Sl.d, truthD, h0, fzS, curveD, itemsD, notOwn, wipeE, backE, SR.of]
    simp only [curveD, vI] at lc
    simp [lc, ei, ir, letZ, h0]
  · unfold B4
    simp [fnS, exs, ex, ev, evT, opd, opds, cmpS, vB, vI, Sl.d, truthD, h0, wipeE, letZ]
end Lw
end

section
set_option Elab.async false
set_option linter.all false
set_option maxRecDepth 100000
set_option maxHeartbeats 1000000
/-! K4: loops by an invariant; the draws -/
namespace Lw
open PySem L2
def TurnOk (I : SE → Prop) (Post : SR → Prop) : SR → Prop
  | .nx E => I E
  | .ct E => I E
  | .bk E => Post (.nx E)
  | .rt s E => Post (.rt s E)
  | _ => False
theorem forI_ind {bt : D → SE → Option SE} {b : SE → SR} (I : Nat → SE → Prop) (Post : SR → Prop) (ds : List D) (step : ∀ i E d, ds[i]? = some d → I i E → ∃ E1, bt d E = some E1 ∧ TurnOk (I (i + 1)) Post (b E1)) (stop : ∀ E, I ds.length E → Post (.nx E)) :
    ∀ E, I 0 E → Post (forI bt b ds E) := by
  have go : ∀ k (r : List D), k ≤ ds.length → ds.drop k = r → ∀ E, I k E → Post (forI bt b r E) := by
    intro k r
    induction r generalizing k with
    | nil =>
      intro hk2 h E i
      have hk : ds.length ≤ k := by
        have := congrArg List.length h; simp at this; omega
      have : k = ds.length := by omega
      subst this
      rw [forI]; exact stop E i
    | cons d r ih =>
      intro hk2 h E i
      have hd : ds[k]? = some d := by
        have := congrArg (·[0]?) h
        simpa using this
      have hk3 : k + 1 ≤ ds.length := by
        rcases Nat.lt_or_ge k ds.length with q | q
        · exact q
        · rw [List.getElem?_eq_none q] at hd; cases hd
      have hr : ds.drop (k + 1) = r := by
        rw [← List.drop_drop, h]; rfl
      obtain ⟨E1, e1, t⟩ := step k E d hd i
      rw [forI, e1]
      dsimp only
      cases eb : b E1 with
      | nx E2 => rw [eb] at t; exact ih (k + 1) hk3 hr E2 t
      | ct E2 => rw [eb] at t; exact ih (k + 1) hk3 hr E2 t
      | bk E2 => rw [eb] at t; exact t
      | rt s E2 => rw [eb] at t; exact t
      | exc C x E2 => rw [eb] at t; exact t.elim
      | bad => rw [eb] at t; exact t.elim
  exact fun E i => go 0 ds (Nat.zero_le _) rfl E i
theorem lcI_ind {bt : D → SE → Option SE} {tests : List (M Bool)} {elt : M Sl} {own : List Nat} (I : Nat → List D → SE → Prop) (ds : List D)
    (step : ∀ i acc E d, ds[i]? = some d → I i acc E → ∃ E1 E2 b, bt d (wipeE E own) = some E1 ∧ lcI.allT tests E1 = .ok b E2 ∧
      (b = true → ∃ s E3, elt E2 = .ok s E3 ∧ acc.length < sizeLine ∧ I (i + 1) (acc ++ [s.d]) (wipeE E3 own)) ∧ (b = false → I (i + 1) acc (wipeE E2 own))) :
    ∀ acc E, I 0 acc E → ∃ acc' E', lcI bt tests elt own ds acc E = .ok acc' E' ∧ I ds.length acc' E' := by
  have go : ∀ k (r : List D), k ≤ ds.length → ds.drop k = r → ∀ acc E, I k acc E → ∃ acc' E', lcI bt tests elt own r acc E = .ok acc' E' ∧ I ds.length acc' E' := by
    intro k r
    induction r generalizing k with
    | nil =>
      intro hk2 h acc E i
      have hk : ds.length ≤ k := by
        have := congrArg List.length h; simp at this; omega
      have : k = ds.length := by omega
      subst this
      exact ⟨acc, E, by rw [lcI]; rfl, i⟩
    | cons d r ih =>
      intro hk2 h acc E i
      have hd : ds[k]? = some d := by
        have := congrArg (·[0]?) h
        simpa using this
      have hk3 : k + 1 ≤ ds.length := by
        rcases Nat.lt_or_ge k ds.length with q | q
        · exact q
        · rw [List.getElem?_eq_none q] at hd; cases hd
      have hr : ds.drop (k + 1) = r := by
        rw [← List.drop_drop, h]; rfl
      obtain ⟨E1, E2, b, e1, e2, h1, h2⟩ := step k acc E d hd i
      rw [lcI]
      simp only [e1, e2, s_ok]
      cases b with
      | true =>
        obtain ⟨s, E3, e3, hz, i2⟩ := h1 rfl
        simp only [if_true, e3, s_ok]
        rw [if_pos hz]
        exact ih (k + 1) hk3 hr _ _ i2
      | false =>
        simp only [Bool.false_eq_true, if_false]
        exact ih (k + 1) hk3 hr _ _ (h2 rfl)
  exact fun acc E i => go 0 ds (Nat.zero_le _) rfl acc E i
theorem PotOk.mono {n m : Int} {l : List D} (h : PotOk n l) (hm : n ≤ m) : PotOk m l := by
  obtain ⟨a, b, c, h1, h2, h3, h4, h5⟩ := h
  exact ⟨a, b, c, h1, h2, h3, h4, by omega⟩
end Lw
end

section
set_option Elab.async false
set_option linter.all false
set_option maxRecDepth 100000
set_option maxHeartbeats 1000000
/-! K5: a curve drawn -/
namespace Lw
open PySem L2
def Down (c : Cv) : Prop := c.Pairwise fun p q => p.1 < q.1 ∧ q.2 < p.2
/-- what is drawn: at most three pairs -/
def Drawn (c : Cv) : Prop := c ≠ [] ∧ c.length ≤ 3 ∧ (∀ p ∈ c, (0 ≤ p.1 ∧ p.1 ≤ 130) ∧ (0 ≤ p.2 ∧ p.2 ≤ 20)) ∧ Down c ∧ ∀ p ∈ c, ∀ q ∈ c, q.1 - p.1 ≤ 60
theorem lst_take {Φ : Nat → M Sl} : True := trivial
theorem curve_ok {n : Int} {l : List D} (hn : n < 2 ^ 19) (h : PotOk n l) : ∃ (c : Cv) (l' : List D), Drawn c ∧ PotOk (n + 9) l' ∧
    F2 [.own (.lst l)] = .ok (.val (curveD c)) [.own (.lst l')] := by
  obtain ⟨x, l1, hx, p1, e1⟩ := of_ok (n := n) (xs := [.int 0, .int 1, .int 3, .int 10, .int 40]) (by omega) h (by simp) (by simp)
  obtain ⟨b0, rfl, hb0, hb1⟩ : ∃ y : Int, x = .int y ∧ 0 ≤ y ∧ y ≤ 40 := by
    simp at hx
    rcases hx with rfl | rfl | rfl | rfl | rfl <;> exact ⟨_, rfl, by decide, by decide⟩
  obtain ⟨x, l2, hx, p2, e2⟩ := of_ok (n := n + 1) (xs := [.int 3, .int 8, .int 20]) (by omega) p1 (by simp) (by simp)
  obtain ⟨r0, rfl, hr0, hr1⟩ : ∃ y : Int, x = .int y ∧ 0 ≤ y ∧ y ≤ 20 := by
    simp at hx
    rcases hx with rfl | rfl | rfl <;> exact ⟨_, rfl, by decide, by decide⟩
  obtain ⟨m, l3, hm, p3, e3⟩ := take_ok (u := 3) (by omega) p2 (by decide)
  have q2 : P2 0 = F0 := rfl
  have q3 : P2 1 = F1 := rfl
  have hlen : ((rngD 0 (1 + m)).length : Int) = 1 + m := by rw [rng_len]; omega
  generalize hB : exs P2 CC [.app 3 (.tup [(.ty .int [(.var 1)]), (.ty .int [(.var 2)])]), .par [1, 2] [(.bop .Add (.bop .Add (.var 1) (.int 1)) (.call 0 [(.var 0), (.int 30)])), (.bop .Sub (.bop .Sub (.var 2) (.int 1)) (.call 0 [(.var 0), (.int 3)]))], .ite (.cmp .Lt (.var 2) (.int 0)) [.brk] []] = body
  have loop := forI_ind (bt := bindT (.nm 4)) (b := body)
    (fun i E => ∃ (c : Cv) (l2 : List D) (b r : Int) (s4 : Sl), E = [.own (.lst l2), .val (.int b), .val (.int r), .own (.lst (c.map prD)), s4] ∧ c.length = i ∧ (0 ≤ b ∧ b ≤ 40 + 30 * i) ∧ (0 ≤ r ∧ r ≤ 20) ∧
      (∀ p ∈ c, (0 ≤ p.1 ∧ p.1 < b) ∧ (r < p.2 ∧ p.2 ≤ 20)) ∧ Down c ∧ PotOk (n + 3 + 2 * i) l2 ∧ (∀ p ∈ c, b - p.1 ≤ 30 * i) ∧ ∀ p ∈ c, ∀ q ∈ c, q.1 - p.1 ≤ 30 * i - 30)
    (fun R => ∃ (c : Cv) (l2 : List D) (s1 s2 s4 : Sl), R = .nx [.own (.lst l2), s1, s2, .own (.lst (c.map prD)), s4] ∧ Drawn c ∧ PotOk (n + 9) l2) (rngD 0 (1 + m))
    (fun i E d hd ⟨c, l2, b, r, s4, eE, h1, h2, h3, h4, h5, h6, h7, h8⟩ => by
      subst eE
      have hi : (i : Int) < 1 + m := by
        rcases Nat.lt_or_ge i (rngD 0 (1 + m)).length with q | q
        · omega
        · rw [List.getElem?_eq_none q] at hd; cases hd
      obtain ⟨j, _, rfl⟩ := rng_mem (List.mem_of_getElem? hd)
      obtain ⟨d1, l3, hd1, t1, f1⟩ := take_ok (u := 30) (by omega) h6 (by decide)
      obtain ⟨d2, l4, hd2, t2, f2⟩ := take_ok (u := 3) (by omega) t1 (by decide)
      refine ⟨[.own (.lst l2), .val (.int b), .val (.int r), .own (.lst (c.map prD)), .val (.int j)], by simp [bindT], ?_⟩
      have small : List.length c < 16777216 := by omega
      have eb : body [.own (.lst l2), .val (.int b), .val (.int r), .own (.lst (c.map prD)), .val (.int j)] = if r - 1 - d2 < 0 then .bk [.own (.lst l4), .val (.int (b + 1 + d1)), .val (.int (r - 1 - d2)), .own (.lst ((c ++ [(b, r)]).map prD)), .val (.int j)] else .nx [.own (.lst l4), .val (.int (b + 1 + d1)), .val (.int (r - 1 - d2)), .own (.lst ((c ++ [(b, r)]).map prD)), .val (.int j)] := by
        rw [← hB]
        by_cases hlt : r - 1 - d2 < 0 <;>
        simp [exs, ex, ev, evT, evD, evC, opds, opd, args, isOwnL, updS, appD, putAll, putS, callS, popS, q2, f1, f2, putBack, putBack_ex, bopS, cmpS, tyS, truthD, vI, vB, Sl.d, sizeLine_eq, small, prD, SR.then, hlt]
      rw [eb]
      have down : Down (c ++ [(b, r)]) := by
        refine List.pairwise_append.mpr ⟨h5, by simp, fun p hp q hq => ?_⟩
        simp at hq; subst hq
        have := h4 p hp
        exact ⟨this.1.2, this.2.1⟩
      have diff : ∀ p ∈ c ++ [(b, r)], ∀ q ∈ c ++ [(b, r)], q.1 - p.1 ≤ 30 * i := fun p hp q hq => by
        rcases List.mem_append.mp hp with hp | hp <;> rcases List.mem_append.mp hq with hq | hq
        · have := h8 p hp q hq; omega
        · simp at hq; subst hq; exact h7 p hp
        · simp at hp; subst hp; have := h4 q hq; simp; omega
        · simp at hp hq; subst hp; subst hq; simp; omega
      split
      · refine ⟨c ++ [(b, r)], l4, _, _, _, rfl, ⟨by simp, by simp; omega, fun p hp => ?_, down, fun p hp q hq => by have := diff p hp q hq; omega⟩, t2.mono (by omega)⟩
        rcases List.mem_append.mp hp with hp | hp
        · have := h4 p hp; omega
        · simp at hp; subst hp; simp; omega
      · refine ⟨c ++ [(b, r)], l4, b + 1 + d1, r - 1 - d2, _, rfl, by simp [h1], by omega, by omega, fun p hp => ?_, down, t2.mono (by omega), fun p hp => ?_, fun p hp q hq => by have := diff p hp q hq; omega⟩
        rcases List.mem_append.mp hp with hp | hp
        · have := h4 p hp; omega
        · simp at hp; subst hp; simp; omega
        · rcases List.mem_append.mp hp with hp | hp
          · have := h7 p hp; omega
          · simp at hp; subst hp; simp; omega)
    (fun E ⟨c, l2, b, r, s4, eE, h1, h2, h3, h4, h5, h6, h7, h8⟩ => ⟨c, l2, .val (.int b), .val (.int r), s4, by rw [eE], ⟨by intro z; subst z; simp at h1; omega, by omega, fun p hp => by have := h4 p hp; omega, h5, fun p hp q hq => by have := h8 p hp q hq; omega⟩, h6.mono (by omega)⟩)
    [.own (.lst l3), .val (.int b0), .val (.int r0), .own (.lst []), .no] ⟨[], l3, b0, r0, .no, rfl, rfl, by omega, by omega, by simp, .nil, p3.mono (by omega), by simp, by simp⟩
  obtain ⟨c, l4, s1, s2, s4, el, hc, hp⟩ := loop
  refine ⟨c, l4, hc, hp, ?_⟩
  have hm2 : -4611686018427387904 ≤ 1 + m ∧ 1 + m < 4611686018427387904 := by omega
  unfold F2 B2
  have x1 : ∀ (a : S) (r : List S) (E : SE), exs P2 CC (a :: r) E = (ex P2 CC a E).then (exs P2 CC r) := fun a r E => by rw [exs]
  have x2 : ∀ (tg : Tgt) (it : E) (a : List S) (E : SE), ex P2 CC (.for_ tg it a) E = .of (evI P2 CC it E) fun ds => forI (bindT tg) (exs P2 CC a) ds := fun _ _ _ _ => by rw [ex]
  have x3 : ex P2 CC (.par [1, 2, 3] [(.call 1 [(.var 0), (.lst [(.int 0), (.int 1), (.int 3), (.int 10), (.int 40)])]), (.call 1 [(.var 0), (.lst [(.int 3), (.int 8), (.int 20)])]), (.lst [])]) [.own (.lst l), .no, .no, .no, .no] = .nx [.own (.lst l2), .val (.int b0), .val (.int r0), .own (.lst []), .no] := by
    simp [ex, ev, evD, evC, args, callS, popS, q3, e1, e2, putBack, putAll, putS, vI, Sl.d, sizeLine_eq, SR.then]
  have x4 : evI P2 CC (.rng1 (.bop .Add (.int 1) (.call 0 [(.var 0), (.int 3)]))) [.own (.lst l2), .val (.int b0), .val (.int r0), .own (.lst []), .no] = .ok (rngD 0 (1 + m)) [.own (.lst l3), .val (.int b0), .val (.int r0), .own (.lst []), .no] := by
    simp [evI, ev, opd, args, evC, callS, popS, q2, e3, putBack, bopS, vI, Sl.d, hm2]
  simp only [fnS, List.length_cons, List.length_nil, List.replicate, List.append, List.cons_append, List.nil_append, x1, x3, SR.then, x2, x4, SR.of, hB, el]
  simp [exs, ex, ev, opds, opd, tyS, wipeE, curveD, Sl.d]
end Lw
end

section
set_option Elab.async false
set_option linter.all false
set_option maxRecDepth 100000
set_option maxHeartbeats 1000000
/-! K6: what is a curve, a traffic -/
namespace Lw
open PySem L2
structure Curve (c : Cv) : Prop where
  ne : c ≠ []
  len : c.length ≤ 8
  small : Small c
  down : Down c
theorem Drawn.curve {c : Cv} (h : Drawn c) : Curve c := ⟨h.1, by have := h.2.1; omega, fun p hp => by have := h.2.2.1 p hp; omega, h.2.2.2.1⟩
theorem ev_zip_down {c : Cv} (h : Down c) : ∀ x ∈ (c.zip (c.drop 1)), x.1.1 < x.2.1 ∧ x.2.2 < x.1.2 := by
  induction c with
  | nil => intro x hx; simp at hx
  | cons p c ih =>
    intro x hx
    cases c with
    | nil => simp at hx
    | cons q c =>
      rw [Down, List.pairwise_cons] at h
      simp only [List.drop_succ_cons, List.drop_zero, List.zip_cons_cons, List.mem_cons] at hx
      rcases hx with rfl | hx
      · exact h.1 q List.mem_cons_self
      · exact ih h.2 x (by simpa using hx)
theorem zipD_map (a b : Cv) : zipD (a.map prD) (b.map prD) = (a.zip b).map fun x => D.tup [prD x.1, prD x.2] := by
  unfold zipD
  rw [List.zip_map, List.map_map]
  rfl
theorem x_exs1 (Φ : Nat → M Sl) (C : Nat → D) (a : S) (r : List S) (E : SE) : exs Φ C (a :: r) E = (ex Φ C a E).then (exs Φ C r) := by rw [exs]
theorem x_exs0 (Φ : Nat → M Sl) (C : Nat → D) (E : SE) : exs Φ C [] E = .nx E := by rw [exs]
theorem x_for (Φ : Nat → M Sl) (C : Nat → D) (tg : Tgt) (it : E) (a : List S) (E : SE) : ex Φ C (.for_ tg it a) E = .of (evI Φ C it E) fun ds => forI (bindT tg) (exs Φ C a) ds := by rw [ex]
theorem x_set (Φ : Nat → M Sl) (C : Nat → D) (i : Nat) (e : E) (E : SE) : ex Φ C (.set i e) E = .of (ev Φ C e E) fun s => putS i s := by rw [ex]
theorem x_ret (Φ : Nat → M Sl) (C : Nat → D) (e : E) (E : SE) : ex Φ C (.ret e) E = .of (ev Φ C e E) .rt := by rw [ex]
theorem x_ite (Φ : Nat → M Sl) (C : Nat → D) (c : E) (a b : List S) (E : SE) : ex Φ C (.ite c a b) E = .of (evT Φ C c E) fun k => if k then exs Φ C a else exs Φ C b := by rw [ex]
/-- all of the pairs of neighbours go down -/
theorem all_down (Φ : Nat → M Sl) {c : Cv} (h : Curve c) {s1 : Sl} (hs : ∀ d, s1 ≠ .own d) : ev Φ CC (.bi .all [(.lc (.andV (.cmp .Lt (.idx (.var 2) (.int 0)) (.idx (.var 3) (.int 0))) (.cmp .Gt (.idx (.var 2) (.int 1)) (.idx (.var 3) (.int 1)))) (.tup [(.nm 2), (.nm 3)]) (.zip (.fz 0) (.slc (.var 0) (.int 1) .non)) [] [2, 3])]) [.val (curveD c), s1, .no, .no] = .ok (vB true) [.val (curveD c), s1, .no, .no] := by
  generalize hE : ev Φ CC (.andV (.cmp .Lt (.idx (.var 2) (.int 0)) (.idx (.var 3) (.int 0))) (.cmp .Gt (.idx (.var 2) (.int 1)) (.idx (.var 3) (.int 1)))) = elt
  have lc := lcI_mapG (bt := bindT (.tup [.nm 2, .nm 3])) (tests := evTs Φ CC []) (elt := elt) (own := [2, 3]) (W := [.val (curveD c), s1, .no, .no]) (g := fun x => D.tup [prD x.1, prD x.2]) (f := fun _ => .bl true) (by simp [wipeE]) (c.zip (c.drop 1)) [] (by rw [sizeLine_eq]; simp; have := h.len; omega) (fun x hx => by
    have hd := ev_zip_down h.down x hx
    refine ⟨[.val (curveD c), s1, .val (prD x.1), .val (prD x.2)], [.val (curveD c), s1, .val (prD x.1), .val (prD x.2)], [.val (curveD c), s1, .val (prD x.1), .val (prD x.2)], vB true, by simp [bindT, bindTs], by simp [evTs, lcI.allT], ?_, rfl, by simp [wipeE]⟩
    rw [← hE]
    simp [ev, opd, ixS, prD, cmpS, vB, vI, Sl.d, atI, ixN, hd.1, hd.2])
  have hz : cutD (c.map prD) (some 1) none = (c.drop 1).map prD := by
    have hn := h.ne
    cases c with
    | nil => exact absurd rfl hn
    | cons p c =>
      simp [cutD, HT.sIx]
      exact List.take_of_length_le (by simp)
  have hb := blsOf_true ((c.zip (c.drop 1)).map fun _ => D.bl true) fun d hd => by obtain ⟨_, _, e⟩ := List.mem_map.mp hd; exact e.symm
  simp only [ev, opds1, opd_lc, ev_lc, hE]
  simp [evI, ev, evC, opd, opds, fzS, curveD, itemsD, slP, partO, isNonE, partD, slS, hz, zipD_map, notOwn, wipeE, vI, Sl.d]
  have zt : zipD (c.map prD) (c.map prD).tail = (c.zip (c.drop 1)).map fun x => D.tup [prD x.1, prD x.2] := by
    rw [← zipD_map]; congr 1
    rw [List.drop_one, List.map_tail]
  rw [zt]
  simp only [curveD, List.nil_append] at lc
  rw [lc]
  simp only [s_ok, biS, hb, Option.map_some, s_some, s_pure]
  rw [show (((c.zip (c.drop 1)).map fun _ => D.bl true).map fun _ => true).all id = true from List.all_eq_true.mpr fun b hb => by obtain ⟨_, _, rfl⟩ := List.mem_map.mp hb; rfl]
  simp [backE, vB]
end Lw
end

section
set_option Elab.async false
set_option linter.all false
set_option maxRecDepth 100000
set_option maxHeartbeats 1000000
/-! K7: is_curve, is_traffic, the looks -/
namespace Lw
open PySem L2
theorem isiT (xs : List D) : isiD (.tup xs) "tuple" = some true := by simp [isiD, tyD, isiTys, isiS]
theorem shaped_int (i : Int) : SeqAt.shaped (.int i) = true := by simp [SeqAt.shaped, PyData.canLay0, PyData.depth]
theorem shaped_str {x : Str} (h : PyData.strOk x = true) : SeqAt.shaped (.str x) = true := by simp [SeqAt.shaped, PyData.canLay0, PyData.depth, h]
theorem eqD_int (a b : Int) : eqD (.int a) (.int b) = some (a == b) := by simp [eqD, okD, D.py, shaped_int, PyData.eqv]
theorem eqD_str {a b : Str} (ha : PyData.strOk a = true) (hb : PyData.strOk b = true) : eqD (.str a) (.str b) = some (a == b) := by simp [eqD, okD, D.py, shaped_str ha, shaped_str hb, PyData.eqv]
theorem is_int34 : F20 = fnS P20 CC 3 [] B7 := rfl
theorem is_int_gen (Φ : Nat → M Sl) (v lo hi : Int) : fnS Φ CC 3 [] B7 [.val (.int v), .val (.int lo), .val (.int hi)] = .ok (vB (decide (lo ≤ v) && decide (v ≤ hi))) [.val (.int v), .val (.int lo), .val (.int hi)] := by
  unfold B7
  by_cases h : lo ≤ v <;> simp [fnS, exs, ex, ev, opd, opds, biS, isiD, tyD, isiTys, isiS, vB, vI, Sl.d, cmpS, wipeE, h]
theorem is_curve_ok {c : Cv} (h : Curve c) : F8 [.val (curveD c)] = .ok (vB true) [.val (curveD c)] := by
  have q5 : P8 7 = F7 := rfl
  have l1 : (1 : Int) ≤ (c.length : Int) := by have := List.length_pos_iff.mpr h.ne; omega
  have l2 : (c.length : Int) ≤ 8 := by have := h.len; omega
  have e5 : ∀ v lo hi : Int, F7 [.val (.int v), .val (.int lo), .val (.int hi)] = .ok (vB (decide (lo ≤ v) && decide (v ≤ hi))) [.val (.int v), .val (.int lo), .val (.int hi)] := is_int_gen P7
  generalize hB : exs P8 CC [.ite (.orV (.notV (.bi .isinstance [(.var 1), (.tyc "tuple")])) (.cmp .NotEq (.bi .len [(.var 1)]) (.int 2))) [.ret (.bl false)] [], .ite (.orV (.notV (.call 7 [(.idx (.var 1) (.int 0)), (.int 0), (.cst 2)])) (.notV (.call 7 [(.idx (.var 1) (.int 1)), (.int 0), (.cst 1)]))) [.ret (.bl false)] []] = body
  have loop := forI_ind (bt := bindT (.nm 1)) (b := body) (fun i E => ∃ s1, (∀ d, s1 ≠ .own d) ∧ E = [.val (curveD c), s1, .no, .no]) (fun R => ∃ s1, (∀ d, s1 ≠ .own d) ∧ R = .nx [.val (curveD c), s1, .no, .no]) (c.map prD)
    (fun i E d hd ⟨s1, hs, eE⟩ => by
      subst eE
      obtain ⟨p, hp, rfl⟩ := List.mem_map.mp (List.mem_of_getElem? hd)
      have hb := h.small p hp
      refine ⟨[.val (curveD c), .val (prD p), .no, .no], by simp [bindT], ?_⟩
      have eb : body [.val (curveD c), .val (prD p), .no, .no] = .nx [.val (curveD c), .val (prD p), .no, .no] := by
        rw [← hB]
        have b1 : decide (0 ≤ p.1) = true := decide_eq_true hb.1.1
        have b2 : decide (p.1 ≤ 400) = true := decide_eq_true hb.1.2
        have b3 : decide (0 ≤ p.2) = true := decide_eq_true hb.2.1
        have b4 : decide (p.2 ≤ 100) = true := decide_eq_true hb.2.2
        simp [exs, ex, ev, evT, opds, opd, args, biS, prD, isiT, lenD, cmpS, eqD_int, truthD, callS, evC, ixS, atI, ixN, q5, e5, b1, b2, b3, b4, putBack, putBack_ex, vI, vB, Sl.d, CC, SR.then, hb.1.1, hb.1.2, hb.2.1, hb.2.2]
      rw [eb]
      exact ⟨.val (prD p), fun d => by simp, rfl⟩) (fun E ⟨s1, hs, eE⟩ => ⟨s1, hs, by rw [eE]⟩) [.val (curveD c), .no, .no, .no] ⟨.no, fun d => by simp, rfl⟩
  obtain ⟨s1, hs, el⟩ := loop
  have ad := all_down P8 h hs
  have t1 : evT P8 CC (.orV (.notV (.bi .isinstance [(.var 0), (.tyc "tuple")])) (.notV (.chn .LtE .LtE (.int 1) (.bi .len [(.var 0)]) (.cst 0)))) [.val (curveD c), .no, .no, .no] = .ok false [.val (curveD c), .no, .no, .no] := by
    simp [evT, ev, opd, opds, biS, curveD, isiT, lenD, cmpS, truthD, vI, vB, Sl.d, CC, l1, l2]
  have t2 : evI P8 CC (.fz 0) [.val (curveD c), .no, .no, .no] = .ok (c.map prD) [.val (curveD c), .no, .no, .no] := by
    simp [evI, ev, fzS, itemsD, curveD, Sl.d]
  unfold F8 B8
  simp only [fnS, List.length_cons, List.length_nil, List.replicate, List.append, List.cons_append, List.nil_append, x_exs1, x_exs0, x_ite, x_for, x_ret, t1, t2, SR.of, hB, el, ad, Bool.false_eq_true, if_false, SR.then]
  simp [wipeE, vB]
theorem look_curve_ok {c : Cv} (h : Curve c) : F9 [.val (curveD c)] = .ok (.val .non) [.val (curveD c)] := by
  have q6 : P9 8 = F8 := rfl
  unfold F9 B9
  simp [fnS, exs, ex, ev, evT, opds, opd, args, callS, evC, q6, is_curve_ok h, putBack, popS, truthD, vB, Sl.d, wipeE, SR.then]
/-- a traffic -/
structure Traf (t : List Int) : Prop where
  len : t.length ≤ 500
  small : ∀ x ∈ t, 0 ≤ x ∧ x ≤ 1000
theorem is_traffic_ok {t : List Int} (h : Traf t) : F23 [.val (trafD t)] = .ok (vB true) [.val (trafD t)] := by
  have q5 : P23 7 = F7 := rfl
  have l2 : (t.length : Int) ≤ 500 := by have := h.len; omega
  have e5 : ∀ v lo hi : Int, F7 [.val (.int v), .val (.int lo), .val (.int hi)] = .ok (vB (decide (lo ≤ v) && decide (v ≤ hi))) [.val (.int v), .val (.int lo), .val (.int hi)] := is_int_gen P7
  generalize hE : ev P23 CC (.call 7 [(.var 1), (.int 0), (.cst 6)]) = elt
  have lc := lcI_mapG (bt := bindT (.nm 1)) (tests := evTs P23 CC []) (elt := elt) (own := [1]) (W := [.val (trafD t), .no]) (g := D.int) (f := fun _ => .bl true) (by simp [wipeE]) t [] (by rw [sizeLine_eq]; simp; omega) (fun x hx => by
    have hd := h.small x hx
    have b1 : decide (0 ≤ x) = true := decide_eq_true hd.1
    have b2 : decide (x ≤ 1000) = true := decide_eq_true hd.2
    refine ⟨[.val (trafD t), .val (.int x)], [.val (trafD t), .val (.int x)], [.val (trafD t), .val (.int x)], vB true, by simp [bindT], by simp [evTs, lcI.allT], ?_, rfl, by simp [wipeE]⟩
    rw [← hE]
    simp [ev, args, callS, evC, popS, q5, e5, putBack, CC, vI, vB, hd.1, hd.2])
  have hb := blsOf_true (t.map fun _ => D.bl true) fun d hd => by obtain ⟨_, _, e⟩ := List.mem_map.mp hd; exact e.symm
  have all : ev P23 CC (.bi .all [(.lc (.call 7 [(.var 1), (.int 0), (.cst 6)]) (.nm 1) (.fz 0) [] [1])]) [.val (trafD t), .no] = .ok (vB true) [.val (trafD t), .no] := by
    simp only [ev, opds1, opd_lc, ev_lc, hE]
    simp only [trafD, List.nil_append] at lc
    simp [evI, ev, opd, opds, fzS, trafD, itemsD, notOwn, wipeE, vI, Sl.d]
    simp only [lc, s_ok, biS, hb, Option.map_some, s_some, s_pure]
    rw [show ((t.map fun _ => D.bl true).map fun _ => true).all id = true from List.all_eq_true.mpr fun b hb => by obtain ⟨_, _, rfl⟩ := List.mem_map.mp hb; rfl]
    simp [backE, vB]
  have c1 : ev P23 CC (.bi .isinstance [(.var 0), (.tyc "tuple")]) [.val (trafD t), .no] = .ok (vB true) [.val (trafD t), .no] := by
    simp [ev, opds, opd, biS, trafD, isiT, Sl.d]
  have c2 : ev P23 CC (.cmp .LtE (.bi .len [(.var 0)]) (.cst 7)) [.val (trafD t), .no] = .ok (vB true) [.val (trafD t), .no] := by
    simp [ev, opds, opd, biS, trafD, lenD, cmpS, CC, l2, vI, Sl.d]
  have eA : ∀ a b : E, ev P23 CC (.andV a b) = M.bind (ev P23 CC a) fun s => match s with | .val (.bl true) => ev P23 CC b | .val (.bl false) => M.pure (vB false) | _ => M.bad := fun a b => by rw [ev] <;> rfl
  unfold F23 B23
  simp only [fnS, List.length_cons, List.length_nil, List.replicate, List.append, List.cons_append, List.nil_append, x_exs1, x_exs0, x_ret, eA, s_bind, c1, c2, s_ok, vB]
  simp only [vB] at all
  simp [c1, c2, all, vB, wipeE]
theorem look_traffic_ok {t : List Int} (h : Traf t) : F24 [.val (trafD t)] = .ok (.val .non) [.val (trafD t)] := by
  have q6 : P24 23 = F23 := rfl
  unfold F24 B24
  simp [fnS, exs, ex, ev, evT, opds, opd, args, callS, evC, q6, is_traffic_ok h, putBack, popS, truthD, vB, Sl.d, wipeE, SR.then]
theorem told_at_ok {c : Cv} {t : Int} (h : Curve c) (ht : t < 2 ^ 31) : F12 [.val (curveD c), .val (.int t)] = .ok (vI (letZ c t)) [.val (curveD c), .val (.int t)] :=
  let_gen P12 h.ne h.small (by have := h.len; omega) ht
theorem let_ok {c : Cv} {t : Int} (h : Curve c) (ht : t < 2 ^ 31) : F4 [.val (curveD c), .val (.int t)] = .ok (vI (letZ c t)) [.val (curveD c), .val (.int t)] :=
  let_gen P4 h.ne h.small (by have := h.len; omega) ht
end Lw
end

section
set_option Elab.async false
set_option linter.all false
set_option maxRecDepth 100000
set_option maxHeartbeats 1000000
/-! K8: where there is too much -/
namespace Lw
open PySem L2
theorem cut_nat {α : Type} {xs : List α} {s m : Nat} (h : s + m ≤ xs.length) : cutD xs (some (s : Int)) (some ((s : Int) + (m : Int))) = (xs.drop s).take m := by
  unfold cutD
  have e1 : HT.sIx xs.length 0 (some (s : Int)) = s := by rw [HT.sIx_nat]; omega
  have e2 : HT.sIx xs.length xs.length (some ((s : Int) + (m : Int))) = s + m := by
    rw [← Int.natCast_add, HT.sIx_nat]; omega
  rw [e1, e2]; congr 1; omega
/-- pairs that need not go down -/
structure Cv0 (c : Cv) : Prop where
  ne : c ≠ []
  len : c.length ≤ 1000
  small : Small c
theorem Curve.cv0 {c : Cv} (h : Curve c) : Cv0 c := ⟨h.ne, by have := h.len; omega, h.small⟩
theorem let0_ok {c : Cv} {t : Int} (h : Cv0 c) (ht : t < 2 ^ 31) : F4 [.val (curveD c), .val (.int t)] = .ok (vI (letZ c t)) [.val (curveD c), .val (.int t)] :=
  let_gen P4 h.ne h.small h.len ht
def sumZ (t : List Int) (s m : Nat) : Int := ((t.drop s).take m).sum
def hit (c : Cv) (t : List Int) (s m : Nat) : Option (Int × Int) := if letZ c (1 + (m : Int)) < sumZ t s (m + 1) then some ((s : Int), 1 + (m : Int)) else none
def rowTo (c : Cv) (t : List Int) (s j : Nat) : Cv := (List.range j).filterMap (hit c t s)
def hitsTo (c : Cv) (t : List Int) (i : Nat) : Cv := (List.range i).flatMap fun s => rowTo c t s (t.length - s)
def hits (c : Cv) (t : List Int) : Cv := hitsTo c t t.length
theorem row_succ (c : Cv) (t : List Int) (s j : Nat) : rowTo c t s (j + 1) = rowTo c t s j ++ (hit c t s j).toList := by
  unfold rowTo
  rw [List.range_succ, List.filterMap_append]
  cases h : hit c t s j <;> simp [h]
theorem hits_succ (c : Cv) (t : List Int) (i : Nat) : hitsTo c t (i + 1) = hitsTo c t i ++ rowTo c t i (t.length - i) := by
  unfold hitsTo
  rw [List.range_succ, List.flatMap_append]
  simp only [List.flatMap_cons, List.flatMap_nil, List.append_nil]
theorem row_len (c : Cv) (t : List Int) (s j : Nat) : (rowTo c t s j).length ≤ j := by
  unfold rowTo
  exact Nat.le_trans (List.length_filterMap_le _ _) (by simp)
theorem hits_len (c : Cv) (t : List Int) : ∀ i, (hitsTo c t i).length ≤ i * t.length
  | 0 => by simp [hitsTo]
  | i + 1 => by
    rw [hits_succ, List.length_append, Nat.succ_mul]
    have := hits_len c t i
    have := row_len c t i (t.length - i)
    omega
theorem rng2_get {a b : Int} {i : Nat} {d : D} (h : (rngD a b)[i]? = some d) : d = .int (a + i) ∧ (i : Int) < b - a := by
  unfold rngD at h
  rw [List.getElem?_map] at h
  rcases Nat.lt_or_ge i (b - a).toNat with q | q
  · rw [List.getElem?_range q] at h
    cases h
    exact ⟨rfl, by omega⟩
  · rw [List.getElem?_eq_none (by simpa using q)] at h; cases h
theorem rng_len2 (a b : Int) : (rngD a b).length = (b - a).toNat := by simp [rngD]
theorem bound_of {x : Int} (h0 : 0 ≤ x) (h1 : x ≤ 1000000) : -4611686018427387904 ≤ x ∧ x < 4611686018427387904 := ⟨Int.le_trans (by decide) h0, Int.lt_of_le_of_lt h1 (by decide)⟩
def inS : List S := [.ite (.cmp .Gt (.bi .sum [(.slc (.var 1) (.var 3) (.bop .Add (.var 3) (.var 4)))]) (.call 4 [(.var 0), (.var 4)])) [.app 2 (.tup [(.fz 3), (.fz 4)])] []]
def outS : List S := [.for_ (.nm 4) (.rng2 (.int 1) (.bop .Add (.bop .Sub (.bi .len [(.var 1)]) (.var 3)) (.int 1))) inS]
/-- a turn of the inner loop -/
theorem inner_ok {c : Cv} {t : List Int} {i j : Nat} {xs : Cv} (hc : Cv0 c) (hij : i + j + 1 ≤ t.length) (ht : t.length ≤ 500) (small : xs.length < 16777216) :
    exs P21 CC inS [.val (curveD c), .val (trafD t), .own (.lst (xs.map prD)), .val (.int i), .val (.int (1 + j))] = .nx [.val (curveD c), .val (trafD t), .own (.lst ((xs ++ (hit c t i j).toList).map prD)), .val (.int i), .val (.int (1 + j))] := by
  have q0 : P21 4 = F4 := rfl
  have cut : cutD (t.map D.int) (some (i : Int)) (some ((i : Int) + (1 + (j : Int)))) = ((t.drop i).take (j + 1)).map D.int := by
    have := cut_nat (xs := t.map D.int) (s := i) (m := j + 1) (by simp; omega)
    rw [show (i : Int) + (1 + (j : Int)) = (i : Int) + ((j + 1 : Nat) : Int) by omega, this]
    simp
  have ei : intsOf (List.take (j + 1) (List.drop i (List.map D.int t))) = some ((t.drop i).take (j + 1)) := by
    rw [← List.map_drop, ← List.map_take, intsOf_ints]
  have lo := let0_ok (t := 1 + (j : Int)) hc (by omega)
  have test : evT P21 CC (.cmp .Gt (.bi .sum [(.slc (.var 1) (.var 3) (.bop .Add (.var 3) (.var 4)))]) (.call 4 [(.var 0), (.var 4)])) [.val (curveD c), .val (trafD t), .own (.lst (xs.map prD)), .val (.int i), .val (.int (1 + j))] = .ok (decide (letZ c (1 + j) < sumZ t i (j + 1))) [.val (curveD c), .val (trafD t), .own (.lst (xs.map prD)), .val (.int i), .val (.int (1 + j))] := by
    simp [evT, ev, opds, opd, args, biS, slP, partO, isNonE, partD, slS, trafD, cut, ei, callS, evC, popS, q0, lo, putBack, bopS, cmpS, truthD, vI, vB, Sl.d, sumZ]
    rfl
  unfold inS
  simp only [x_exs1, x_ite, test, SR.of, x_exs0]
  by_cases hh : letZ c (1 + j) < sumZ t i (j + 1)
  · have hit1 : hit c t i j = some ((i : Int), 1 + (j : Int)) := if_pos hh
    simp [hh, hit1, exs, ex, ev, evD, isOwnL, updS, appD, fzS, small, sizeLine_eq, prD, Sl.d, SR.then]
  · have hit1 : hit c t i j = none := if_neg hh
    simp [hh, hit1, exs, SR.then]
theorem small_hits {c : Cv} {t : List Int} {i j : Nat} (hi : i ≤ 500) (hj : j ≤ 500) (ht : t.length ≤ 500) : (hitsTo c t i ++ rowTo c t i j).length < 16777216 := by
  rw [List.length_append]
  have h1 := hits_len c t i
  have h2 := row_len c t i j
  have h3 : i * t.length ≤ 500 * 500 := Nat.mul_le_mul hi ht
  have h4 : (500 : Nat) * 500 = 250000 := by decide
  omega
theorem outer_ok {c : Cv} {t : List Int} {i : Nat} {s4 : Sl} (hc : Cv0 c) (ht : t.length ≤ 500) (hi : i < t.length) :
    ∃ s5, exs P21 CC outS [.val (curveD c), .val (trafD t), .own (.lst ((hitsTo c t i).map prD)), .val (.int i), s4] = .nx [.val (curveD c), .val (trafD t), .own (.lst ((hitsTo c t (i + 1)).map prD)), .val (.int i), s5] := by
  have il := forI_ind (bt := bindT (.nm 4)) (b := exs P21 CC inS) (fun j E => ∃ s4, E = [.val (curveD c), .val (trafD t), .own (.lst ((hitsTo c t i ++ rowTo c t i j).map prD)), .val (.int i), s4])
    (fun R => ∃ s4, R = .nx [.val (curveD c), .val (trafD t), .own (.lst ((hitsTo c t (i + 1)).map prD)), .val (.int i), s4]) (rngD 1 ((t.length : Int) - i + 1))
    (fun j E d hd ⟨s4, eE⟩ => by
      subst eE
      obtain ⟨rfl, hj⟩ := rng2_get hd
      refine ⟨[.val (curveD c), .val (trafD t), .own (.lst ((hitsTo c t i ++ rowTo c t i j).map prD)), .val (.int i), .val (.int (1 + j))], by simp [bindT], ?_⟩
      rw [inner_ok hc (by omega) ht (small_hits (by omega) (by omega) ht)]
      exact ⟨.val (.int (1 + j)), by rw [row_succ, List.append_assoc]⟩)
    (fun E ⟨s4, eE⟩ => ⟨s4, by rw [eE, hits_succ, rng_len2, show ((t.length : Int) - i + 1 - 1).toNat = t.length - i by omega]⟩)
    [.val (curveD c), .val (trafD t), .own (.lst ((hitsTo c t i).map prD)), .val (.int i), s4] ⟨s4, by simp [rowTo]⟩
  obtain ⟨s5, el⟩ := il
  have hm : (-4611686018427387904 ≤ (t.length : Int) - i + 1 ∧ (t.length : Int) - i + 1 < 4611686018427387904) := bound_of (by omega) (by omega)
  have er : evI P21 CC (.rng2 (.int 1) (.bop .Add (.bop .Sub (.bi .len [(.var 1)]) (.var 3)) (.int 1))) [.val (curveD c), .val (trafD t), .own (.lst ((hitsTo c t i).map prD)), .val (.int i), s4] = .ok (rngD 1 ((t.length : Int) - i + 1)) [.val (curveD c), .val (trafD t), .own (.lst ((hitsTo c t i).map prD)), .val (.int i), s4] := by
    simp [evI, ev, opds, opd, biS, lenD, trafD, bopS, vI, Sl.d, hm]
  refine ⟨s5, ?_⟩
  unfold outS
  simp only [x_exs1, x_exs0, x_for, er, SR.of, el, SR.then]
theorem outers_ok {c : Cv} {t : List Int} (hc : Cv0 c) (ht : t.length ≤ 500) : ∃ s3 s4, forI (bindT (.nm 3)) (exs P21 CC outS) (rngD 0 t.length) [.val (curveD c), .val (trafD t), .own (.lst []), .no, .no] = .nx [.val (curveD c), .val (trafD t), .own (.lst ((hits c t).map prD)), s3, s4] := by
  refine forI_ind (bt := bindT (.nm 3)) (b := exs P21 CC outS) (fun i E => ∃ s3 s4, E = [.val (curveD c), .val (trafD t), .own (.lst ((hitsTo c t i).map prD)), s3, s4])
    (fun R => ∃ s3 s4, R = .nx [.val (curveD c), .val (trafD t), .own (.lst ((hits c t).map prD)), s3, s4]) (rngD 0 t.length) ?_ ?_ _ ⟨.no, .no, by simp [hitsTo]⟩
  · rintro i E d hd ⟨s3, s4, rfl⟩
    obtain ⟨rfl, hi⟩ := rng2_get hd
    refine ⟨[.val (curveD c), .val (trafD t), .own (.lst ((hitsTo c t i).map prD)), .val (.int i), s4], by simp [bindT], ?_⟩
    obtain ⟨s5, eo⟩ := outer_ok (s4 := s4) hc ht (show i < t.length by omega)
    rw [eo]
    exact ⟨.val (.int i), s5, rfl⟩
  · rintro E ⟨s3, s4, rfl⟩
    have e : (rngD 0 (t.length : Int)).length = t.length := by rw [rng_len2]; omega
    exact ⟨s3, s4, by rw [e]; rfl⟩
theorem range_ok {c : Cv} {t : List Int} (ht : t.length ≤ 500) : evI P21 CC (.rng1 (.bi .len [(.var 1)])) [.val (curveD c), .val (trafD t), .own (.lst []), .no, .no] = .ok (rngD 0 t.length) [.val (curveD c), .val (trafD t), .own (.lst []), .no, .no] := by
  have hm : -4611686018427387904 ≤ (t.length : Int) ∧ (t.length : Int) < 4611686018427387904 := bound_of (by omega) (by omega)
  have hm' : (if -(2 : Int) ^ 62 ≤ (t.length : Int) ∧ (t.length : Int) < 2 ^ 62 then M.pure (rngD 0 (t.length : Int)) else M.bad) = M.pure (rngD 0 (t.length : Int)) := if_pos (by constructor <;> omega)
  have e1 : ev P21 CC (.bi .len [(.var 1)]) [.val (curveD c), .val (trafD t), .own (.lst []), .no, .no] = .ok (.val (.int t.length)) [.val (curveD c), .val (trafD t), .own (.lst []), .no, .no] := by
    simp [ev, opds, opd, biS, lenD, trafD, vI, Sl.d]
  rw [evI, s_bind, e1, s_ok]
  dsimp only
  rw [hm', s_pure]
theorem set0_ok {c : Cv} {t : List Int} : ex P21 CC (.set 2 (.lst [])) [.val (curveD c), .val (trafD t), .no, .no, .no] = .nx [.val (curveD c), .val (trafD t), .own (.lst []), .no, .no] := by
  simp [ex, ev, evD, putS]
theorem ret2_ok {a b s3 s4 : Sl} {xs : List D} : ex P21 CC (.ret (.mv 2)) [a, b, .own (.lst xs), s3, s4] = .rt (.own (.lst xs)) [a, b, .no, s3, s4] := by
  simp [ex, ev, popS]
theorem b11 : B21 = [.set 2 (.lst []), .for_ (.nm 3) (.rng1 (.bi .len [(.var 1)])) outS, .ret (.mv 2)] := rfl
theorem body11 {c : Cv} {t : List Int} (hc : Cv0 c) (ht : t.length ≤ 500) : ∃ s3 s4, exs P21 CC B21 [.val (curveD c), .val (trafD t), .no, .no, .no] = .rt (.own (.lst ((hits c t).map prD))) [.val (curveD c), .val (trafD t), .no, s3, s4] := by
  obtain ⟨s3, s4, el⟩ := outers_ok hc ht
  refine ⟨s3, s4, ?_⟩
  rw [b11, x_exs1, set0_ok]
  show exs P21 CC [.for_ (.nm 3) (.rng1 (.bi .len [(.var 1)])) outS, .ret (.mv 2)] _ = _
  rw [x_exs1, x_for, range_ok ht]
  show (forI (bindT (.nm 3)) (exs P21 CC outS) (rngD 0 t.length) _).then _ = _
  rw [el]
  show exs P21 CC [.ret (.mv 2)] _ = _
  rw [x_exs1, ret2_ok]
  rfl
theorem law_too_much_ok {c : Cv} {t : List Int} (hc : Cv0 c) (ht : t.length ≤ 500) : F21 [.val (curveD c), .val (trafD t)] = .ok (.own (.lst ((hits c t).map prD))) [.val (curveD c), .val (trafD t)] := by
  obtain ⟨s3, s4, e⟩ := body11 hc ht
  have e' : exs P21 CC B21 ([.val (curveD c), .val (trafD t)] ++ List.replicate (5 - [Sl.val (curveD c), .val (trafD t)].length) Sl.no) = _ := e
  unfold F21 fnS
  rw [e']
  rfl
end Lw
end

section
set_option Elab.async false
set_option linter.all false
set_option maxRecDepth 100000
set_option maxHeartbeats 1000000
/-! K12: the first ticks that bring too much; fits -/
namespace Lw
open PySem L2
theorem sumZ_succ {t : List Int} {s m : Nat} (h : s + m < t.length) : sumZ t s (m + 1) = sumZ t s m + t[s + m] := by
  unfold sumZ
  have : (t.drop s).take (m + 1) = (t.drop s).take m ++ [t[s + m]] := by
    rw [List.take_succ, List.getElem?_drop, List.getElem?_eq_getElem h]; rfl
  rw [this, List.sum_append]; simp
theorem atI_nat {α : Type} {xs : List α} {i : Nat} (h : i < xs.length) : atI xs (i : Int) = some xs[i] := by
  obtain ⟨x, _, e, e2⟩ := atI_mem (xs := xs) (i := (i : Int)) (by omega) (by omega)
  rw [e, ← e2, Int.toNat_natCast, List.getElem?_eq_getElem h]
theorem row_pre (c : Cv) (t : List Int) (s j : Nat) : ∀ n, j ≤ n → ∃ r, rowTo c t s n = rowTo c t s j ++ r
  | 0, h => ⟨[], by have : j = 0 := by omega
                    subst this; simp⟩
  | n + 1, h => by
    rcases Nat.lt_or_ge n j with q | q
    · have : j = n + 1 := by omega
      subst this; exact ⟨[], by simp⟩
    · obtain ⟨r, e⟩ := row_pre c t s j n q
      exact ⟨r ++ (hit c t s n).toList, by rw [row_succ, e, List.append_assoc]⟩
theorem hits_pre (c : Cv) (t : List Int) (j : Nat) : ∀ n, j ≤ n → ∃ r, hitsTo c t n = hitsTo c t j ++ r
  | 0, h => ⟨[], by have : j = 0 := by omega
                    subst this; simp⟩
  | n + 1, h => by
    rcases Nat.lt_or_ge n j with q | q
    · have : j = n + 1 := by omega
      subst this; exact ⟨[], by simp⟩
    · obtain ⟨r, e⟩ := hits_pre c t j n q
      exact ⟨r ++ rowTo c t n (t.length - n), by rw [hits_succ, e, List.append_assoc]⟩
def in15 : List S := [.aug 3 .Add (.idx (.var 1) (.bop .Sub (.bop .Add (.var 2) (.var 4)) (.int 1))), .ite (.cmp .Gt (.var 3) (.call 12 [(.var 0), (.var 4)])) [.ret (.tup [(.fz 2), (.fz 4)])] []]
def out15 : List S := [.set 3 (.int 0), .for_ (.nm 4) (.rng2 (.int 1) (.bop .Add (.bop .Sub (.bi .len [(.var 1)]) (.var 2)) (.int 1))) in15]
theorem in15_ok {c : Cv} {t : List Int} {i j : Nat} (hc : Curve c) (hij : i + j + 1 ≤ t.length) (ht : t.length ≤ 500) :
    exs P39 CC in15 [.val (curveD c), .val (trafD t), .val (.int i), .val (.int (sumZ t i j)), .val (.int (1 + j))] =
      if letZ c (1 + j) < sumZ t i (j + 1) then .rt (.val (prD ((i : Int), 1 + (j : Int)))) [.val (curveD c), .val (trafD t), .val (.int i), .val (.int (sumZ t i (j + 1))), .val (.int (1 + j))]
      else .nx [.val (curveD c), .val (trafD t), .val (.int i), .val (.int (sumZ t i (j + 1))), .val (.int (1 + j))] := by
  have q14 : P39 12 = F12 := rfl
  have lo := told_at_ok (t := 1 + (j : Int)) hc (by omega)
  have ix : atI (t.map D.int) ((i : Int) + (1 + (j : Int)) - 1) = some (.int t[i + j]) := by
    rw [show (i : Int) + (1 + (j : Int)) - 1 = ((i + j : Nat) : Int) by omega]
    rw [atI_nat (by simp; omega)]
    simp
  have e1 : ex P39 CC (.aug 3 .Add (.idx (.var 1) (.bop .Sub (.bop .Add (.var 2) (.var 4)) (.int 1)))) [.val (curveD c), .val (trafD t), .val (.int i), .val (.int (sumZ t i j)), .val (.int (1 + j))] = .nx [.val (curveD c), .val (trafD t), .val (.int i), .val (.int (sumZ t i (j + 1))), .val (.int (1 + j))] := by
    rw [sumZ_succ (show i + j < t.length by omega)]
    simp [ex, ev, opd, trafD, bopS, ixS, ix, augO, putS, vI, Sl.d]
  have e2 : evT P39 CC (.cmp .Gt (.var 3) (.call 12 [(.var 0), (.var 4)])) [.val (curveD c), .val (trafD t), .val (.int i), .val (.int (sumZ t i (j + 1))), .val (.int (1 + j))] = .ok (decide (letZ c (1 + j) < sumZ t i (j + 1))) [.val (curveD c), .val (trafD t), .val (.int i), .val (.int (sumZ t i (j + 1))), .val (.int (1 + j))] := by
    simp [evT, ev, opds, opd, args, callS, evC, popS, q14, lo, putBack, cmpS, truthD, vI, vB, Sl.d]
  unfold in15
  simp only [x_exs1, x_ite, e1, s_nx, e2, SR.of, x_exs0]
  by_cases hh : letZ c (1 + j) < sumZ t i (j + 1)
  · simp [hh, ex, exs, ev, evD, fzS, sizeLine_eq, prD, Sl.d, SR.then]
  · simp [hh, exs, SR.then]
theorem out15_ok {c : Cv} {t : List Int} {i : Nat} {s3 s4 : Sl} (hc : Curve c) (ht : t.length ≤ 500) (hi : i < t.length) :
    (rowTo c t i (t.length - i) = [] ∧ ∃ s5 s6, exs P39 CC out15 [.val (curveD c), .val (trafD t), .val (.int i), s3, s4] = .nx [.val (curveD c), .val (trafD t), .val (.int i), s5, s6]) ∨
    (∃ p r s2 s5 s6, rowTo c t i (t.length - i) = p :: r ∧ exs P39 CC out15 [.val (curveD c), .val (trafD t), .val (.int i), s3, s4] = .rt (.val (prD p)) [.val (curveD c), .val (trafD t), s2, s5, s6]) := by
  have il := forI_ind (bt := bindT (.nm 4)) (b := exs P39 CC in15) (fun j E => rowTo c t i j = [] ∧ ∃ s4, E = [.val (curveD c), .val (trafD t), .val (.int i), .val (.int (sumZ t i j)), s4])
    (fun R => (rowTo c t i (t.length - i) = [] ∧ ∃ s5 s6, R = .nx [.val (curveD c), .val (trafD t), .val (.int i), s5, s6]) ∨
    (∃ p r s2 s5 s6, rowTo c t i (t.length - i) = p :: r ∧ R = .rt (.val (prD p)) [.val (curveD c), .val (trafD t), s2, s5, s6])) (rngD 1 ((t.length : Int) - i + 1))
    (fun j E d hd ⟨h0, s4, eE⟩ => by
      subst eE
      obtain ⟨rfl, hj⟩ := rng2_get hd
      refine ⟨[.val (curveD c), .val (trafD t), .val (.int i), .val (.int (sumZ t i j)), .val (.int (1 + j))], by simp [bindT], ?_⟩
      rw [in15_ok hc (by omega) ht]
      by_cases hh : letZ c (1 + j) < sumZ t i (j + 1)
      · rw [if_pos hh]
        have h1 : hit c t i j = some ((i : Int), 1 + (j : Int)) := if_pos hh
        obtain ⟨r, e⟩ := row_pre c t i (j + 1) (t.length - i) (by omega)
        rw [row_succ, h0, h1] at e
        exact .inr ⟨_, r, _, _, _, e, rfl⟩
      · rw [if_neg hh]
        have h1 : hit c t i j = none := if_neg hh
        exact ⟨by rw [row_succ, h0, h1]; rfl, _, rfl⟩)
    (fun E ⟨h0, s4, eE⟩ => by
      subst eE
      rw [rng_len2, show ((t.length : Int) - i + 1 - 1).toNat = t.length - i by omega] at h0
      exact .inl ⟨h0, _, _, rfl⟩)
    [.val (curveD c), .val (trafD t), .val (.int i), .val (.int 0), s4] ⟨by simp [rowTo], s4, by simp [sumZ]⟩
  have hm : (-4611686018427387904 ≤ (t.length : Int) - i + 1 ∧ (t.length : Int) - i + 1 < 4611686018427387904) := bound_of (by omega) (by omega)
  have er : evI P39 CC (.rng2 (.int 1) (.bop .Add (.bop .Sub (.bi .len [(.var 1)]) (.var 2)) (.int 1))) [.val (curveD c), .val (trafD t), .val (.int i), .val (.int 0), s4] = .ok (rngD 1 ((t.length : Int) - i + 1)) [.val (curveD c), .val (trafD t), .val (.int i), .val (.int 0), s4] := by
    simp [evI, ev, opds, opd, biS, lenD, trafD, bopS, vI, Sl.d, hm]
  have e0 : ex P39 CC (.set 3 (.int 0)) [.val (curveD c), .val (trafD t), .val (.int i), s3, s4] = .nx [.val (curveD c), .val (trafD t), .val (.int i), .val (.int 0), s4] := by
    simp [ex, ev, putS, vI]
  have eo : exs P39 CC out15 [.val (curveD c), .val (trafD t), .val (.int i), s3, s4] = forI (bindT (.nm 4)) (exs P39 CC in15) (rngD 1 ((t.length : Int) - i + 1)) [.val (curveD c), .val (trafD t), .val (.int i), .val (.int 0), s4] := by
    unfold out15
    simp only [x_exs1, x_for, e0, s_nx, er, SR.of]
    cases forI (bindT (.nm 4)) (exs P39 CC in15) (rngD 1 ((t.length : Int) - i + 1)) [.val (curveD c), .val (trafD t), .val (.int i), .val (.int 0), s4] <;> simp [SR.then, x_exs0]
  rw [eo]
  exact il
def headD : Cv → D
  | [] => .non
  | p :: _ => prD p
theorem range15 {c : Cv} {t : List Int} (ht : t.length ≤ 500) : evI P39 CC (.rng1 (.bi .len [(.var 1)])) [.val (curveD c), .val (trafD t), .no, .no, .no] = .ok (rngD 0 t.length) [.val (curveD c), .val (trafD t), .no, .no, .no] := by
  have hm' : (if -(2 : Int) ^ 62 ≤ (t.length : Int) ∧ (t.length : Int) < 2 ^ 62 then M.pure (rngD 0 (t.length : Int)) else M.bad) = M.pure (rngD 0 (t.length : Int)) := if_pos (by constructor <;> omega)
  have e1 : ev P39 CC (.bi .len [(.var 1)]) [.val (curveD c), .val (trafD t), .no, .no, .no] = .ok (.val (.int t.length)) [.val (curveD c), .val (trafD t), .no, .no, .no] := by
    simp [ev, opds, opd, biS, lenD, trafD, vI, Sl.d]
  rw [evI, s_bind, e1, s_ok]
  dsimp only
  rw [hm', s_pure]
theorem body15 {c : Cv} {t : List Int} (hc : Curve c) (ht : t.length ≤ 500) : ∃ s2 s3 s4, exs P39 CC B39 [.val (curveD c), .val (trafD t), .no, .no, .no] = .rt (.val (headD (hits c t))) [.val (curveD c), .val (trafD t), s2, s3, s4] := by
  have il := forI_ind (bt := bindT (.nm 2)) (b := exs P39 CC out15) (fun i E => hitsTo c t i = [] ∧ ∃ s2 s3 s4, E = [.val (curveD c), .val (trafD t), s2, s3, s4])
    (fun R => (hits c t = [] ∧ ∃ s2 s3 s4, R = .nx [.val (curveD c), .val (trafD t), s2, s3, s4]) ∨ (∃ p r s2 s3 s4, hits c t = p :: r ∧ R = .rt (.val (prD p)) [.val (curveD c), .val (trafD t), s2, s3, s4])) (rngD 0 t.length)
    (fun i E d hd ⟨h0, s2, s3, s4, eE⟩ => by
      subst eE
      obtain ⟨rfl, hi⟩ := rng2_get hd
      refine ⟨[.val (curveD c), .val (trafD t), .val (.int i), s3, s4], by simp [bindT], ?_⟩
      rcases out15_ok (s3 := s3) (s4 := s4) hc ht (show i < t.length by omega) with ⟨e, s5, s6, eo⟩ | ⟨p, r, s2, s5, s6, e, eo⟩
      · rw [eo]
        exact ⟨by rw [hits_succ, h0, e]; rfl, _, _, _, rfl⟩
      · rw [eo]
        obtain ⟨r2, e2⟩ := hits_pre c t (i + 1) t.length (by omega)
        rw [hits_succ, h0, e] at e2
        exact .inr ⟨p, r ++ r2, s2, s5, s6, e2, rfl⟩)
    (fun E ⟨h0, s2, s3, s4, eE⟩ => by
      subst eE
      have e : (rngD 0 (t.length : Int)).length = t.length := by rw [rng_len2]; omega
      rw [e] at h0
      exact .inl ⟨h0, _, _, _, rfl⟩)
    [.val (curveD c), .val (trafD t), .no, .no, .no] ⟨by simp [hitsTo], _, _, _, rfl⟩
  have b15 : B39 = [.for_ (.nm 2) (.rng1 (.bi .len [(.var 1)])) out15, .ret .non] := rfl
  rw [b15, x_exs1, x_for, range15 ht]
  simp only [SR.of]
  rcases il with ⟨h0, s2, s3, s4, e⟩ | ⟨p, r, s2, s3, s4, h0, e⟩
  · exact ⟨s2, s3, s4, by rw [e, h0]; simp [SR.then, exs, ex, ev, headD]⟩
  · exact ⟨s2, s3, s4, by rw [e, h0]; simp [SR.then, headD]⟩
theorem too_much_ok {c : Cv} {t : List Int} (hc : Curve c) (ht : t.length ≤ 500) : F39 [.val (curveD c), .val (trafD t)] = .ok (.val (headD (hits c t))) [.val (curveD c), .val (trafD t)] := by
  obtain ⟨s2, s3, s4, e⟩ := body15 hc ht
  have e' : exs P39 CC B39 ([.val (curveD c), .val (trafD t)] ++ List.replicate (5 - [Sl.val (curveD c), .val (trafD t)].length) Sl.no) = _ := e
  unfold F39 fnS
  rw [e']
  rfl
end Lw
end

section
set_option Elab.async false
set_option linter.all false
set_option maxRecDepth 100000
set_option maxHeartbeats 1000000
/-! K13: values of any kind; values bent -/
namespace Lw
open PySem L2
def oddL : List D := [.non, .bl true, .bl false, .int 0, .int 1, .int (-1), .int 2, .int 256, .int (10 ^ 20), .str "", .str "a", .str "pass", .str "never", .tup [], .lst [], .dk [] [], .tup [.int 0], .tup [.tup []], .lst [.int 0],
  .tup [.str "a"], .tup [.int 0, .int 255], .tup [.tup [.int 0, .int 255]], .tup [.non], .dk [.inr "a"] [.int 1], .tup [.str "covered", .tup []], .tup [.str "left", .tup []], .tup [.tup [.bl true, .int 1]]]
theorem odd_ok {n : Int} {l : List D} (hn : n < 2 ^ 20) (h : PotOk n l) : ∃ d l', d ∈ oddL ∧ PotOk (n + 1) l' ∧ F30 [.own (.lst l)] = .ok (.val d) [.own (.lst l')] := by
  obtain ⟨d, l', hd, hp, e⟩ := of_ok (n := n) (xs := oddL) hn h (by decide) (by decide)
  have q3 : P30 1 = F1 := rfl
  have p10 : (Builtin.Int.intBits 10 : Int) * 20 ≤ 134217728 := by decide +kernel
  refine ⟨d, l', hd, hp, ?_⟩
  simp only [oddL, Int.reducePow, Int.reduceNeg] at e
  unfold F30 B30
  simp [fnS, exs, ex, ev, evD, opds, opd, args, callS, evC, popS, q3, e, putBack, putS, bopS, negS, p10, vB, vI, Sl.d, sizeLine_eq, wipeE, SR.then]
def bB (k : Nat) : List S := [.ite (.andV (.bi .isinstance [(.var 1), (.tyc "tuple")]) (.andV (.cmp .NotEq (.var 1) (.tup [])) (.cmp .Gt (.call 0 [(.var 0), (.int 5)]) (.int 0)))) [.set 2 (.call 0 [(.var 0), (.bi .len [(.var 1)])]), .ret (.bop .Add (.bop .Add (.slc (.var 1) .non (.var 2)) (.tup [(.call k [(.var 0), (.idx (.var 1) (.var 2))])])) (.slc (.var 1) (.bop .Add (.var 2) (.int 1)) .non))] [], .ite (.bi .isinstance [(.var 1), (.tyc "tuple")]) [.ret (.call 1 [(.var 0), (.lst [(.ty .list [(.var 1)]), (.slc (.var 1) (.int 1) .non), (.slc (.var 1) .non (.neg (.int 1))), (.bop .Add (.var 1) (.slc (.var 1) (.neg (.int 1)) .non)), (.rev (.var 1)), (.tup []), .non])])] [], .ite (.bi .isinstance [(.var 1), (.tyc "bool")]) [.ret (.call 1 [(.var 0), (.lst [(.notV (.fz 1)), (.ty .int [(.var 1)]), .non])])] [], .ite (.bi .isinstance [(.var 1), (.tyc "int")]) [.ret (.call 1 [(.var 0), (.lst [(.bop .Add (.var 1) (.int 1)), (.bop .Sub (.var 1) (.int 1)), (.bop .Sub (.neg (.var 1)) (.int 1)), (.ty .str [(.var 1)]), (.cmp .Eq (.var 1) (.int 1)), .non, (.tup [(.fz 1)]), (.bop .Pow (.int 10) (.int 9))])])] [], .ite (.bi .isinstance [(.var 1), (.tyc "str")]) [.ret (.call 1 [(.var 0), (.lst [(.bop .Add (.var 1) (.str "a")), (.slc (.var 1) (.int 1) .non), (.mth .upper (.var 1) []), (.str ""), .non, (.int 0)])])] [], .ret (.call 30 [(.var 0)])]
theorem f21_eq : F34 = fnS P34 CC 3 [] (bB 33) := rfl
theorem f22_eq : F35 = fnS P35 CC 3 [] (bB 34) := rfl
def intBents (i : Int) : List D := [.int (i + 1), .int (i - 1), .int (-i - 1), .str (toString i : String), .bl (i == 1), .non, .tup [.int i], .int (10 ^ 9)]
def strBents (s : Str) : List D := [.str (s ++ ("a" : Str)), .str (cutS s (some 1) none), .str (Txt.upper s), .str "", .non, .int 0]
theorem bent_int {n : Int} {l : List D} {i : Int} (hn : n < 2 ^ 20) (h : PotOk n l) (hi : i.natAbs < 2 ^ 100) : ∃ d l', d ∈ intBents i ∧ PotOk (n + 1) l' ∧ F34 [.own (.lst l), .val (.int i)] = .ok (.val d) [.own (.lst l'), .val (.int i)] := by
  obtain ⟨d, l', hd, hp, e⟩ := of_ok (n := n) (xs := intBents i) hn h (by simp [intBents]) (by simp [intBents])
  have q3 : P34 1 = F1 := rfl
  have p10 : (Builtin.Int.intBits 10 : Int) * 9 ≤ 134217728 := by decide +kernel
  have lg : i.natAbs.log2 < 1920 := Nat.lt_of_lt_of_le (log_lt (by decide) hi) (by decide)
  refine ⟨d, l', hd, hp, ?_⟩
  have ts : (toString i : String) = i.repr := rfl
  simp only [intBents, Int.reducePow, ts] at e
  rw [f21_eq]
  unfold bB
  simp [fnS, exs, ex, ev, evT, evD, opds, opd, args, callS, evC, popS, fzS, biS, tyS, isiD, tyD, isiTys, isiS, q3, e, putBack, putS, bopS, cmpS, eqD_int, negS, p10, lg, truthD, vB, vI, Sl.d, sizeLine_eq, wipeE, SR.then]
theorem bent_str {n : Int} {l : List D} {s : Str} (hn : n < 2 ^ 20) (h : PotOk n l) (hs : s.length ≤ 1000) : ∃ d l', d ∈ strBents s ∧ PotOk (n + 1) l' ∧ F34 [.own (.lst l), .val (.str s)] = .ok (.val d) [.own (.lst l'), .val (.str s)] := by
  obtain ⟨d, l', hd, hp, e⟩ := of_ok (n := n) (xs := strBents s) hn h (by simp [strBents]) (by simp [strBents])
  have q3 : P34 1 = F1 := rfl
  have la : Str.length "a" = 1 := by decide +kernel
  have l1 : s.length + Str.length "a" ≤ 16777216 := by rw [la]; omega
  have l2 : s.length ≤ 16777216 := by omega
  have l3 : s.length ≤ 5592405 := by omega
  refine ⟨d, l', hd, hp, ?_⟩
  simp only [strBents] at e
  rw [f21_eq]
  unfold bB
  simp [fnS, exs, ex, ev, evT, evD, opds, opd, args, callS, evC, popS, fzS, biS, tyS, isiD, tyD, isiTys, isiS, q3, e, putBack, putS, bopS, cmpS, slP, partO, isNonE, partD, slS, mtP, mtS, l1, l2, l3, truthD, vB, vI, Sl.d, sizeLine_eq, wipeE, SR.then]
def tupBents (xs : List D) : List D := [.lst xs, .tup (cutD xs (some 1) none), .tup (cutD xs none (some (-1))), .tup (xs ++ cutD xs (some (-1)) none), .tup xs.reverse, .tup [], .non]
theorem cut_len {α : Type} (xs : List α) (lo hi : Option Int) : (cutD xs lo hi).length ≤ xs.length := by
  unfold cutD
  rw [List.length_take, List.length_drop]; omega
/-- bent as a tuple, from what bending of its items comes to -/
theorem bent_tup {n : Int} {l : List D} {xs : List D} {I : D → List D} (hn : n < 2 ^ 19) (h : PotOk n l) (h0 : 0 < xs.length) (hl : xs.length ≤ 3) (he : eqD (.tup xs) (.tup []) = some false)
    (hi : ∀ x ∈ xs, ∀ l1, PotOk (n + 2) l1 → ∃ d l', d ∈ I x ∧ PotOk (n + 2 + 1) l' ∧ F34 [.own (.lst l1), .val x] = .ok (.val d) [.own (.lst l'), .val x]) :
    ∃ d l', ((∃ (i : Nat) (x y : D), xs[i]? = some x ∧ y ∈ I x ∧ d = .tup (cutD xs none (some (i : Int)) ++ [y] ++ cutD xs (some ((i : Int) + 1)) none)) ∨ d ∈ tupBents xs) ∧ PotOk (n + 3) l' ∧ F35 [.own (.lst l), .val (.tup xs)] = .ok (.val d) [.own (.lst l'), .val (.tup xs)] := by
  obtain ⟨k, l1, hk, p1, e1⟩ := take_ok (u := 5) (by omega) h (by decide)
  have q2 : P35 0 = F0 := rfl
  have q3 : P35 1 = F1 := rfl
  have q21 : P35 34 = F34 := rfl
  have b1 := cut_len xs none none
  by_cases hk0 : 0 < k
  · obtain ⟨j, l2, hj, p2, e2⟩ := take_ok (u := (xs.length : Int)) (by omega) p1 ⟨by omega, by omega⟩
    obtain ⟨x, hx, ex1, ex2⟩ := atI_mem (xs := xs) hj.1 hj.2
    obtain ⟨y, l3, hy, p3, e3⟩ := hi x hx l2 (by have := p2; rw [show n + 1 + 1 = n + 2 by omega] at this; exact this)
    have c1 := cut_len xs none (some j)
    have c2 := cut_len xs (some (j + 1)) none
    have s1 : (cutD xs none (some j)).length + 1 ≤ 16777216 := by omega
    have s2 : (cutD xs none (some j)).length + 1 + (cutD xs (some (j + 1)) none).length ≤ 16777216 := by omega
    refine ⟨_, l3, .inl ⟨j.toNat, x, y, ex2, hy, rfl⟩, by have := p3; rw [show n + 2 + 1 = n + 3 by omega] at this; exact this, ?_⟩
    rw [show ((j.toNat : Nat) : Int) = j by omega]
    rw [f22_eq]
    unfold bB
    simp [fnS, exs, ex, ev, evT, evD, opds, opd, args, callS, evC, popS, fzS, biS, isiT, lenD, q2, q3, q21, e1, e2, e3, ex1, he, hk0, ixS, slP, partO, isNonE, partD, slS, putBack, putBack_ex, putS, bopS, cmpS, s1, s2, truthD, vB, vI, Sl.d, sizeLine_eq, wipeE, SR.then]
  · obtain ⟨d, l', hd, hp, e⟩ := of_ok (n := n + 1) (xs := tupBents xs) (by omega) p1 (by simp [tupBents]) (by simp [tupBents])
    refine ⟨d, l', .inr hd, hp.mono (by omega), ?_⟩
    have c1 := cut_len xs (some (-1)) none
    have s1 : xs.length + (cutD xs (some (-1)) none).length ≤ 16777216 := by omega
    simp only [tupBents] at e
    rw [f22_eq]
    unfold bB
    simp [fnS, exs, ex, ev, evT, evD, opds, opd, args, callS, evC, popS, fzS, biS, tyS, isiT, lenD, q2, q3, q21, e1, e, he, hk0, ixS, slP, partO, isNonE, partD, slS, revS, negS, putBack, putBack_ex, putS, bopS, cmpS, s1, truthD, vB, vI, Sl.d, sizeLine_eq, wipeE, SR.then]
end Lw
end

section
set_option Elab.async false
set_option linter.all false
set_option maxRecDepth 100000
set_option maxHeartbeats 0
namespace Lw
open PySem L2 PySem.Spec PyProof.Rows
theorem mem_hits {c : Cv} {t : List Int} {p : Int × Int} : p ∈ hits c t ↔ ∃ i j : Nat, i + j < t.length ∧ p = ((i : Int), 1 + (j : Int)) ∧ letZ c (1 + (j : Int)) < sumZ t i (j + 1) := by
  unfold hits hitsTo rowTo hit
  simp only [List.mem_flatMap, List.mem_range, List.mem_filterMap]
  constructor
  · rintro ⟨i, hi, j, hj, e⟩
    split at e
    · cases e; exact ⟨i, j, by omega, rfl, by assumption⟩
    · cases e
  · rintro ⟨i, j, hij, rfl, h⟩
    exact ⟨i, by omega, j, by omega, if_pos h⟩
def intIn (d : D) (lo hi : Int) : Bool := match d with
  | .int v => decide (lo ≤ v) && decide (v ≤ hi)
  | _ => false
theorem is_int_any (Φ : Nat → M Sl) {d : D} (ht : (tyD d).isSome = true) (lo hi : Int) : fnS Φ CC 3 [] B7 [.val d, .val (.int lo), .val (.int hi)] = .ok (vB (intIn d lo hi)) [.val d, .val (.int lo), .val (.int hi)] := by
  cases d with
  | int v => exact is_int_gen Φ v lo hi
  | _ => first
    | (simp [tyD] at ht; done)
    | (unfold B7; simp [fnS, exs, ex, ev, opd, opds, biS, isiD, tyD, isiTys, isiS, vB, vI, Sl.d, cmpS, wipeE, intIn])
theorem notin13 {n : Int} (h1 : n ≠ 1) (h3 : n ≠ 3) : cmpS .NotIn (.int n) (.tup [.int 1, .int 3]) = some (vB true) := by
  have e1 : ((1 : Int) == n) = false := by simpa using fun h => h1 h.symm
  have e3 : ((3 : Int) == n) = false := by simpa using fun h => h3 h.symm
  simp [cmpS, flatD, eqF, e1, e3, vB]
theorem not_tup {v : D} (hv : ∀ xs, v ≠ .tup xs) (ht : (tyD v).isSome = true) : isiD v "tuple" = some false := by
  cases v with
  | tup xs => exact absurd rfl (hv xs)
  | _ => first
    | (simp [tyD] at ht; done)
    | simp [isiD, tyD, isiTys, isiS]
theorem not_strD {v : D} (hv : ∀ z, v ≠ .str z) (ht : (tyD v).isSome = true) : isiD v "str" = some false := by
  cases v with
  | str xs => exact absurd rfl (hv xs)
  | _ => first
    | (simp [tyD] at ht; done)
    | simp [isiD, tyD, isiTys, isiS]
theorem isiStr (z : Str) : isiD (.str z) "str" = some true := by simp [isiD, tyD, isiTys, isiS]
theorem in13_1 : cmpS .NotIn (.int 1) (.tup [.int 1, .int 3]) = some (vB false) := by simp [cmpS, flatD, eqF, vB]
theorem in13_3 : cmpS .NotIn (.int 3) (.tup [.int 1, .int 3]) = some (vB false) := by simp [cmpS, flatD, eqF, vB]
theorem len3 {α : Type} {xs : List α} (h : xs.length = 3) : ∃ a b c, xs = [a, b, c] := by
  match xs, h with
  | [a, b, c], _ => exact ⟨a, b, c, rfl⟩
theorem pys_map {α : Type} {f : α → D} {g : α → PyData} (h : ∀ x, (f x).py = some (g x)) : ∀ xs : List α, D.pys (xs.map f) = some (xs.map g)
  | [] => by simp [D.pys]
  | x :: xs => by simp [D.pys, h x, pys_map h xs]
theorem canLay_map {α : Type} {g : α → PyData} : ∀ xs : List α, (∀ x ∈ xs, (g x).canLay0 = true) → PyData.canLayAll0 (xs.map g) = true
  | [], _ => by simp [PyData.canLayAll0]
  | x :: xs, h => by simp [PyData.canLayAll0, h x List.mem_cons_self, canLay_map xs fun y hy => h y (List.mem_cons_of_mem _ hy)]
theorem depth_map {α : Type} {g : α → PyData} {n : Nat} : ∀ xs : List α, (∀ x ∈ xs, (g x).depth ≤ n) → PyData.depthAll (xs.map g) ≤ n
  | [], _ => by simp [PyData.depthAll]
  | x :: xs, h => by
    have := h x List.mem_cons_self
    have := depth_map xs fun y hy => h y (List.mem_cons_of_mem _ hy)
    simp [PyData.depthAll]; omega
theorem ok_lst {α : Type} {f : α → D} {g : α → PyData} {xs : List α} (h : ∀ x, (f x).py = some (g x)) (h1 : ∀ x ∈ xs, (g x).canLay0 = true) (h2 : ∀ x ∈ xs, (g x).depth ≤ 60) : okD (.lst (xs.map f)) = some (.list (xs.map g)) := by
  have e1 := canLay_map xs h1
  have e2 := depth_map xs h2
  have e3 : SeqAt.shaped (.list (xs.map g)) = true := by
    simp [SeqAt.shaped, PyData.canLay0, PyData.depth, e1]; omega
  simp [okD, D.py, pys_map h xs, e3]
theorem ok_tup {α : Type} {f : α → D} {g : α → PyData} {xs : List α} (h : ∀ x, (f x).py = some (g x)) (h1 : ∀ x ∈ xs, (g x).canLay0 = true) (h2 : ∀ x ∈ xs, (g x).depth ≤ 60) : okD (.tup (xs.map f)) = some (.tuple (xs.map g)) := by
  have e1 := canLay_map xs h1
  have e2 := depth_map xs h2
  have e3 : SeqAt.shaped (.tuple (xs.map g)) = true := by
    simp [SeqAt.shaped, PyData.canLay0, PyData.depth, e1]; omega
  simp [okD, D.py, pys_map h xs, e3]
def prP (p : Int × Int) : PyData := .tuple [.int p.1, .int p.2]
theorem pr_py (p : Int × Int) : (prD p).py = some (prP p) := by simp [prD, D.py, D.pys, prP]
theorem prP_lay (p : Int × Int) : (prP p).canLay0 = true ∧ (prP p).depth ≤ 60 := by simp [prP, PyData.canLay0, PyData.canLayAll0, PyData.depth, PyData.depthAll]
theorem ok_prs (h : Cv) : okD (.lst (h.map prD)) = some (.list (h.map prP)) := ok_lst pr_py (fun p _ => (prP_lay p).1) fun p _ => (prP_lay p).2
theorem ok_nil : okD (.lst []) = some (.list []) := by rfl
theorem eq_prs_nil (h : Cv) : eqD (.lst (h.map prD)) (.lst []) = some h.isEmpty := by
  unfold eqD
  rw [ok_prs, ok_nil]
  cases h <;> simp [PyData.eqv, PyData.eqvAll]
theorem eqD_bl (a b : Bool) : eqD (.bl a) (.bl b) = some (a == b) := by
  have h : ∀ x, SeqAt.shaped (.bool x) = true := fun x => by simp [SeqAt.shaped, PyData.canLay0, PyData.depth]
  simp [eqD, okD, D.py, h, PyData.eqv]
theorem int_py : ∀ x : Int, (D.int x).py = some (.int x) := fun x => by simp [D.py]
theorem eqvAll_ints : ∀ a b : List Int, PyData.eqvAll (a.map .int) (b.map .int) = decide (a = b)
  | [], [] => by simp [PyData.eqvAll]
  | [], _ :: _ => by simp [PyData.eqvAll]
  | _ :: _, [] => by simp [PyData.eqvAll]
  | x :: a, y :: b => by
    simp [PyData.eqvAll, PyData.eqv, eqvAll_ints a b]
    by_cases h : x = y <;> simp [h]
theorem ok_traf (t : List Int) : okD (trafD t) = some (.tuple (t.map .int)) := ok_tup int_py (fun x _ => by simp [PyData.canLay0]) (fun x _ => by simp [PyData.depth])
theorem eq_traf (a b : List Int) : eqD (trafD a) (trafD b) = some (decide (a = b)) := by
  unfold eqD
  rw [ok_traf, ok_traf]
  simp only [PyData.eqv]
  rw [eqvAll_ints]
/-! texts -/
theorem strOk_app (a b : Str) (ha : PyData.strOk a = true) (hb : PyData.strOk b = true) : PyData.strOk (a ++ b) = true := by
  unfold PyData.strOk at *
  have e : (a ++ b).cps = a.cps ++ b.cps := rfl
  rw [e, Array.all_append, ha, hb]; rfl
theorem strOk_join (sep : Str) (hs : PyData.strOk sep = true) : ∀ ts : List Str, (∀ x ∈ ts, PyData.strOk x = true) → PyData.strOk (Str.join sep ts) = true
  | [], _ => by simp only [Str.join]; decide +kernel
  | [x], h => by simp only [Str.join]; exact h x List.mem_cons_self
  | x :: y :: r, h => by
    rw [Str.join]
    · exact strOk_app _ _ (strOk_app _ _ (h x List.mem_cons_self) hs) (strOk_join sep hs (y :: r) fun z hz => h z (List.mem_cons_of_mem _ hz))
    · intro z; cases z
theorem strOk_tupT {ts : List Str} (h : ∀ x ∈ ts, PyData.strOk x = true) : PyData.strOk (tupleText ts) = true := by
  unfold tupleText
  refine strOk_app _ _ (strOk_app _ _ (by decide +kernel) (strOk_join _ (by decide +kernel) ts h)) ?_
  split <;> decide +kernel
theorem strOk_int (i : Int) : PyData.strOk (Str.ofString (toString i)) = true := by
  unfold PyData.strOk
  rw [Array.all_eq_true_iff_forall_mem]
  intro c hc
  have hc' : c ∈ (Str.ofString (toString i)).cps.toList := by simpa using hc
  by_cases h : c < 0x110000
  · simpa using h
  · exact absurd hc' (int_text_free' c ⟨by omega, by omega⟩ i)
theorem repr_int {i : Int} (h : i.natAbs < 10 ^ 12) : reprD (.int i) = some (Str.ofString (toString i)) := by
  have h1 : i.natAbs.log2 < 1920 := Nat.lt_of_lt_of_le (log_lt (k := 40) (by decide) (Nat.lt_trans h (by decide))) (by decide)
  have h2 := PyData.shown_int_le h
  have h3 : (Str.ofString (toString i)).length ≤ sizeLine := by
    rw [sizeLine_eq]; simp only [PyData.shown] at h2; omega
  simp [reprD, D.pd, PyData.showable, PyData.hasDict, PyData.depth, PyData.shown, h1]
  exact h3
theorem letZ_le {c : Cv} {m : Int} (hm : 0 < m) {p : Int × Int} (hp : p ∈ c) : letZ c m ≤ p.1 + p.2 * m := by
  unfold letZ
  rw [if_pos hm]
  cases c with
  | nil => cases hp
  | cons q c =>
    have hm : p.1 + p.2 * m ∈ (q :: c).map fun p : Int × Int => p.1 + p.2 * m := List.mem_map.mpr ⟨p, hp, rfl⟩
    rw [List.map_cons] at hm ⊢
    exact (minL_mem _ _).2 _ hm
theorem letZ_mem {c : Cv} (hc : c ≠ []) {m : Int} (hm : 0 < m) : ∃ p ∈ c, letZ c m = p.1 + p.2 * m := by
  unfold letZ
  rw [if_pos hm]
  cases c with
  | nil => exact absurd rfl hc
  | cons q c =>
    have hm := (minL_mem (q.1 + q.2 * m) (c.map fun p => p.1 + p.2 * m)).1
    have hm2 : minL ((q.1 + q.2 * m) :: c.map fun p => p.1 + p.2 * m) ∈ (q :: c).map fun p : Int × Int => p.1 + p.2 * m := by rw [List.map_cons]; exact hm
    obtain ⟨p, hp, e⟩ := List.mem_map.mp hm2
    exact ⟨p, hp, e.symm⟩
theorem le_letZ {c : Cv} (hc : c ≠ []) {m x : Int} (hm : 0 < m) (h : ∀ p ∈ c, x ≤ p.1 + p.2 * m) : x ≤ letZ c m := by
  obtain ⟨p, hp, e⟩ := letZ_mem hc hm
  rw [e]; exact h p hp
theorem hits_nil {c : Cv} {t : List Int} : hits c t = [] ↔ ∀ i j : Nat, i + j < t.length → sumZ t i (j + 1) ≤ letZ c (1 + (j : Int)) := by
  constructor
  · intro h i j hij
    apply Int.not_lt.mp
    intro q
    have : ((i : Int), 1 + (j : Int)) ∈ hits c t := mem_hits.mpr ⟨i, j, hij, rfl, q⟩
    rw [h] at this; cases this
  · intro h
    apply List.eq_nil_iff_forall_not_mem.mpr
    intro p hp
    obtain ⟨i, j, hij, -, q⟩ := mem_hits.mp hp
    have := h i j hij
    omega
theorem whlI_go {c : M Bool} {b : SE → SR} (I : Nat → SE → Prop) (Post : SR → Prop) (N : Nat) (step : ∀ i E, I i E → (∃ E1, c E = .ok false E1 ∧ Post (.nx E1)) ∨ (i < N ∧ ∃ E1, c E = .ok true E1 ∧ TurnOk (I (i + 1)) Post (b E1))) :
    ∀ (n i : Nat) (E : SE), i ≤ N → N < i + n → I i E → Post (whlI c b n E)
  | 0, i, E, hi0, hn, h => by omega
  | n + 1, i, E, hi0, hn, h => by
    rcases step i E h with ⟨E1, e1, p⟩ | ⟨hi, E1, e1, t⟩
    · rw [whlI, e1]; exact p
    · rw [whlI, e1]
      dsimp only
      cases eb : b E1 with
      | nx E2 => rw [eb] at t; exact whlI_go I Post N step n (i + 1) E2 (by omega) (by omega) t
      | ct E2 => rw [eb] at t; exact whlI_go I Post N step n (i + 1) E2 (by omega) (by omega) t
      | bk E2 => rw [eb] at t; exact t
      | rt s E2 => rw [eb] at t; exact t
      | exc C x E2 => rw [eb] at t; exact t.elim
      | bad => rw [eb] at t; exact t.elim
theorem whlI_ind {c : M Bool} {b : SE → SR} (I : Nat → SE → Prop) (Post : SR → Prop) (N : Nat) (hN : N ≤ 1000000) (step : ∀ i E, I i E → (∃ E1, c E = .ok false E1 ∧ Post (.nx E1)) ∨ (i < N ∧ ∃ E1, c E = .ok true E1 ∧ TurnOk (I (i + 1)) Post (b E1))) (E : SE) (h : I 0 E) : Post (whlI c b fuel E) :=
  whlI_go I Post N step fuel 0 E (Nat.zero_le _) (by unfold fuel; omega) h
theorem x_whl (Φ : Nat → M Sl) (C : Nat → D) (c : E) (a : List S) (E : SE) : ex Φ C (.whl c a) E = whlI (evT Φ C c) (exs Φ C a) fuel E := by rw [ex]
def intL (f : List Int) : D := .lst (f.map .int)
theorem x_app (Φ : Nat → M Sl) (C : Nat → D) (i : Nat) (e : E) (E : SE) : ex Φ C (.app i e) E = if isOwnL E i then .of (ev Φ C e E) fun s => updS i (appD s) else .bad := by rw [ex]
theorem cut_from {α : Type} {xs : List α} {i : Nat} (h : i ≤ xs.length) : cutD xs (some (i : Int)) none = xs.drop i := by
  unfold cutD
  have e1 : HT.sIx xs.length 0 (some (i : Int)) = i := by rw [HT.sIx_nat]; omega
  have e2 : HT.sIx xs.length xs.length none = xs.length := rfl
  rw [e1, e2, List.take_of_length_le (by simp)]
theorem ev_cmp (Φ : Nat → M Sl) (C : Nat → D) (o : CmpOp) (a b : E) : ev Φ C (.cmp o a b) = M.bind (evA [opd Φ C a, opd Φ C b]) fun ds => M.opt (match ds with | [x, y] => cmpS o x y | _ => none) := by rw [ev] <;> rfl
theorem ev_bop (Φ : Nat → M Sl) (C : Nat → D) (o : Operator) (a b : E) : ev Φ C (.bop o a b) = M.bind (evA [opd Φ C a, opd Φ C b]) fun ds => M.opt (match ds with | [x, y] => bopS o x y | _ => none) := by rw [ev] <;> rfl
theorem ev_orV (Φ : Nat → M Sl) (C : Nat → D) (a b : E) : ev Φ C (.orV a b) = M.bind (ev Φ C a) fun s => match s with
    | .val (.bl false) => ev Φ C b
    | .val (.bl true) => M.pure (vB true)
    | _ => M.bad := by rw [ev] <;> rfl
theorem opd_bi (Φ : Nat → M Sl) (C : Nat → D) (b : Bi) (as : List E) : opd Φ C (.bi b as) = .ex (ev Φ C (.bi b as)) := by simp only [opd]
theorem opd_bop (Φ : Nat → M Sl) (C : Nat → D) (o : Operator) (a b : E) : opd Φ C (.bop o a b) = .ex (ev Φ C (.bop o a b)) := by simp only [opd]
theorem opd_cmp (Φ : Nat → M Sl) (C : Nat → D) (o : CmpOp) (a b : E) : opd Φ C (.cmp o a b) = .ex (ev Φ C (.cmp o a b)) := by simp only [opd]
theorem opd_lst (Φ : Nat → M Sl) (C : Nat → D) (a : List E) : opd Φ C (.lst a) = .ex (ev Φ C (.lst a)) := by simp only [opd]
theorem opd_varK (Φ : Nat → M Sl) (C : Nat → D) (i : Nat) : opd Φ C (.var i) = .slot i := by simp only [opd]
theorem evT_or (Φ : Nat → M Sl) (C : Nat → D) (a b : E) : evT Φ C (.orV a b) = M.bind (evT Φ C a) fun k => if k then M.pure true else evT Φ C b := by rw [evT]
theorem evT_and (Φ : Nat → M Sl) (C : Nat → D) (a b : E) : evT Φ C (.andV a b) = M.bind (evT Φ C a) fun k => if k then evT Φ C b else M.pure false := by rw [evT]
theorem evT_not (Φ : Nat → M Sl) (C : Nat → D) (a : E) : evT Φ C (.notV a) = M.bind (evT Φ C a) fun k => M.pure (!k) := by rw [evT]
theorem evT_cmpK (Φ : Nat → M Sl) (C : Nat → D) (o : CmpOp) (a b : E) : evT Φ C (.cmp o a b) = M.bind (evA [opd Φ C (.cmp o a b)]) fun ds => M.opt (match ds with | [d] => truthD d | _ => none) := by rw [evT] <;> first | rfl | (intros; rename_i z; cases z)
theorem evI_bopK (Φ : Nat → M Sl) (C : Nat → D) (o : Operator) (a b : E) : evI Φ C (.bop o a b) = M.bind (ev Φ C (.bop o a b)) fun s => M.opt (itemsD s.d) := by
  rw [evI] <;> first | rfl | (intros; rename_i z; cases z)
end Lw
end

section
set_option Elab.async false
set_option linter.all false
set_option maxRecDepth 100000
set_option maxHeartbeats 1000000
/-! K26: texts of tuples -/
namespace Lw
open PySem L2 PyProof.Rows
/-- what is shown without ado -/
structure Shw (p : PyData) : Prop where
  show1 : p.showable = true
  dict : p.hasDict = false
  depth : p.depth ≤ 20
  short : p.leavesShort 13 = true
  weight : p.weight ≤ 100
  ok : PyData.strOk p.shown = true
theorem shw_int {i : Int} (h : i.natAbs < 10 ^ 12) : Shw (.int i) := by
  have h1 : i.natAbs.log2 < 1920 := Nat.lt_of_lt_of_le (log_lt (k := 40) (by decide) (Nat.lt_trans h (by decide))) (by decide)
  have h2 := PyData.shown_int_le h
  have h40 : i.natAbs.log2 < 40 := log_lt (k := 40) (by decide) (Nat.lt_trans h (by decide))
  exact ⟨by simp [PyData.showable, h1], by simp [PyData.hasDict], by simp [PyData.depth], by simp only [PyData.leavesShort]; exact decide_eq_true h2, by simp only [PyData.weight]; split <;> omega, by simp only [PyData.shown]; exact strOk_int i⟩
theorem pds_map {α : Type} {f : α → D} {g : α → PyData} (h : ∀ x, (f x).pd = some (g x)) : ∀ xs : List α, D.pds (xs.map f) = some (xs.map g)
  | [] => by simp [D.pds]
  | x :: xs => by simp [D.pds, h x, pds_map h xs]
theorem shw_all : ∀ ps : List PyData, (∀ p ∈ ps, Shw p) → PyData.showableAll ps = true ∧ PyData.hasDictAll ps = false ∧ PyData.depthAll ps ≤ 20 ∧ PyData.leavesShortAll 13 ps = true ∧ PyData.weightAll ps ≤ 101 * ps.length + 1 ∧ ∀ x ∈ PyData.shownAll ps, PyData.strOk x = true
  | [], _ => by simp [PyData.showableAll, PyData.hasDictAll, PyData.depthAll, PyData.leavesShortAll, PyData.weightAll, PyData.shownAll]
  | p :: ps, h => by
    have h1 := h p List.mem_cons_self
    obtain ⟨a1, a2, a3, a4, a5, a6⟩ := shw_all ps fun q hq => h q (List.mem_cons_of_mem _ hq)
    have := h1.depth
    have := h1.weight
    refine ⟨by simp [PyData.showableAll, h1.show1, a1], by simp [PyData.hasDictAll, h1.dict, a2], by simp [PyData.depthAll]; omega, by simp [PyData.leavesShortAll, h1.short, a4], by simp [PyData.weightAll]; omega, ?_⟩
    intro x hx
    simp only [PyData.shownAll, List.mem_cons] at hx
    rcases hx with rfl | hx
    · exact h1.ok
    · exact a6 x hx
theorem repr_tup {α : Type} {f : α → D} {g : α → PyData} {xs : List α} (h : ∀ x, (f x).pd = some (g x)) (hs : ∀ x ∈ xs, Shw (g x)) (hl : xs.length ≤ 10000) : ∃ x, reprD (.tup (xs.map f)) = some x ∧ PyData.strOk x = true := by
  obtain ⟨a1, a2, a3, a4, a5, a6⟩ := shw_all (xs.map g) (fun p hp => by obtain ⟨x, hx, rfl⟩ := List.mem_map.mp hp; exact hs x hx)
  rw [List.length_map] at a5
  have w : (PyData.tuple (xs.map g)).weight ≤ 2 ^ 20 := by simp only [PyData.weight]; omega
  have sh : (PyData.tuple (xs.map g)).leavesShort 13 = true := by simp only [PyData.leavesShort]; exact a4
  have len := PyData.shown_fits (B := 13) (by omega) (by omega) sh w
  refine ⟨(PyData.tuple (xs.map g)).shown, ?_, ?_⟩
  · have e1 : (PyData.tuple (xs.map g)).showable = true := by simp only [PyData.showable]; exact a1
    have e2 : (PyData.tuple (xs.map g)).hasDict = false := by simp only [PyData.hasDict]; exact a2
    have e3 : (PyData.tuple (xs.map g)).depth ≤ 60 := by simp only [PyData.depth]; omega
    simp [reprD, D.pd, pds_map h xs, e1, e2, e3, len]
  · simp only [PyData.shown]
    exact strOk_tupT a6
theorem repr_traf {f : List Int} (h : ∀ x ∈ f, x.natAbs < 10 ^ 12) (hl : f.length ≤ 10000) : ∃ x, reprD (trafD f) = some x ∧ PyData.strOk x = true := repr_tup (f := D.int) (g := PyData.int) (fun x => by simp [D.pd]) (fun x hx => shw_int (h x hx)) hl
theorem shw_pr {p : Int × Int} (h1 : p.1.natAbs < 10 ^ 12) (h2 : p.2.natAbs < 10 ^ 12) : Shw (prP p) := by
  have l1 : p.1.natAbs.log2 < 40 := log_lt (k := 40) (by decide) (Nat.lt_trans h1 (by decide))
  have l2 : p.2.natAbs.log2 < 40 := log_lt (k := 40) (by decide) (Nat.lt_trans h2 (by decide))
  obtain ⟨a1, a2, a3, a4, a5, a6⟩ := shw_all [.int p.1, .int p.2] (fun q hq => by
    simp only [List.mem_cons, List.not_mem_nil, or_false] at hq
    rcases hq with rfl | rfl
    · exact shw_int h1
    · exact shw_int h2)
  refine ⟨by simp only [prP, PyData.showable]; exact a1, by simp only [prP, PyData.hasDict]; exact a2, by simp [prP, PyData.depth, PyData.depthAll], by simp only [prP, PyData.leavesShort]; exact a4, by simp only [prP, PyData.weight, PyData.weightAll]; split <;> split <;> omega, ?_⟩
  simp only [prP, PyData.shown]
  exact strOk_tupT a6
theorem repr_curve {c : Cv} (h : ∀ p ∈ c, p.1.natAbs < 10 ^ 12 ∧ p.2.natAbs < 10 ^ 12) (hl : c.length ≤ 10000) : ∃ x, reprD (curveD c) = some x ∧ PyData.strOk x = true := repr_tup (f := prD) (g := prP) (fun p => by simp [prD, D.pd, D.pds, prP]) (fun p hp => shw_pr (h p hp).1 (h p hp).2) hl
theorem cut_to {α : Type} (xs : List α) (n : Nat) : cutD xs none (some (n : Int)) = xs.take n := by
  unfold cutD
  have e1 : HT.sIx xs.length 0 none = 0 := rfl
  rw [e1, HT.sIx_nat, List.drop_zero, Nat.sub_zero]
  rw [List.take_eq_take_iff]; omega
end Lw
end

section
set_option Elab.async false
set_option linter.all false
set_option maxRecDepth 100000
set_option maxHeartbeats 1000000
/-! K29: the least pairs -/
namespace Lw
open PySem L2 PyProof.Rows
def leP (p q : Int × Int) : Bool := !ltP q p
theorem leD_pr (p q : Int × Int) : leD (prD p, prP p) (prD q, prP q) = leP p q := by
  have e : ∀ a b : Int, itemLt (.inl a) (.inl b) = decide (a < b) := fun a b => rfl
  unfold leD PySem.W.dataLe PySem.W.sortLe leP ltP
  simp only [prP, PySem.W.keyToks, PySem.W.keyToksAll, cond_false, List.cons_append, List.nil_append]
  congr 1
  show PyProof.Rows.lexLt _ _ _ = _
  simp only [PyProof.Rows.lexLt]
  show (itemLt _ _ || _) = _
  by_cases h1 : q.1 < p.1
  · simp [e, h1]
  · by_cases h2 : p.1 < q.1
    · simp [e, h1, h2]; omega
    · have : q.1 = p.1 := by omega
      by_cases h3 : q.2 < p.2 <;> simp [e, h1, h2, h3, this]
def sortC (c : Cv) : Cv := c.mergeSort leP
theorem sort_prs {c : Cv} : sortD (c.map prD) = some ((sortC c).map prD) := by
  have e1 := pys_map pr_py c
  have e2 : sortableB (c.map prP) = true := by
    unfold sortableB
    rw [Bool.or_eq_true]; left
    rw [List.all_eq_true]
    intro p hp
    obtain ⟨x, hx, rfl⟩ := List.mem_map.mp hp
    rfl
  have e3 : alikeB (c.map prP) = true := by
    unfold alikeB
    rw [List.all_eq_true]
    intro p hp
    rw [List.all_eq_true]
    intro q hq
    obtain ⟨x, hx, rfl⟩ := List.mem_map.mp hp
    obtain ⟨y, hy, rfl⟩ := List.mem_map.mp hq
    simp [prP, PySem.W.alike, PySem.W.alikeAll]
  have e4 : (c.map prP).all (fun p => decide (p.depth ≤ 60)) = true := by
    rw [List.all_eq_true]
    intro p hp
    obtain ⟨x, hx, rfl⟩ := List.mem_map.mp hp
    exact decide_eq_true (prP_lay x).2
  unfold sortD
  rw [e1]
  simp only [e2, e3, e4, Bool.and_self, if_true]
  congr 1
  rw [List.zip_map', ← List.map_mergeSort (r := leP) (fun a _ b _ => (leD_pr a b).symm), List.map_map]
  rfl
theorem leP_trans (a b c : Int × Int) (h1 : leP a b = true) (h2 : leP b c = true) : leP a c = true := by
  unfold leP at *
  rw [Bool.not_eq_true'] at *
  have k : ∀ x y : Int × Int, ltP x y = false ↔ ¬ (x.1 < y.1 ∨ (x.1 = y.1 ∧ x.2 < y.2)) := fun x y => by rw [← ltP_iff]; simp
  rw [k] at *
  omega
theorem leP_total (a b : Int × Int) : (leP a b || leP b a) = true := by
  unfold leP
  cases h1 : ltP b a with
  | false => rfl
  | true =>
    cases h2 : ltP a b with
    | false => rfl
    | true => rw [ltP_iff] at *; omega
theorem leP_iff {a b : Int × Int} : leP a b = true ↔ a.1 < b.1 ∨ (a.1 = b.1 ∧ a.2 ≤ b.2) := by
  unfold leP
  rw [Bool.not_eq_true', ← Bool.not_eq_true, ltP_iff]
  omega
theorem sortC_pw (c : Cv) : (sortC c).Pairwise fun a b => leP a b = true := List.pairwise_mergeSort leP_trans leP_total c
theorem sortC_mem {c : Cv} {p : Int × Int} : p ∈ sortC c ↔ p ∈ c := (List.mergeSort_perm c leP).mem_iff
theorem sortC_len (c : Cv) : (sortC c).length = c.length := (List.mergeSort_perm c leP).length_eq
/-- least: none other is as small -/
def Least (c : Cv) (p : Int × Int) : Prop := p ∈ c ∧ ∀ q ∈ c, q ≠ p → ¬ (q.1 ≤ p.1 ∧ q.2 ≤ p.2)
def kp (k : Cv) (p : Int × Int) : Cv := match k.getLast? with
  | none => [p]
  | some q => if p.2 < q.2 ∧ q.1 < p.1 then k ++ [p] else k
def keepTo (s : Cv) (i : Nat) : Cv := (s.take i).foldl kp []
theorem keep_succ {s : Cv} {i : Nat} {p : Int × Int} (h : s[i]? = some p) : keepTo s (i + 1) = kp (keepTo s i) p := by
  unfold keepTo
  rw [List.take_succ, h, List.foldl_append]; rfl
structure KeepOk (c s : Cv) (i : Nat) (k : Cv) : Prop where
  down : Down k
  sub : ∀ p ∈ k, Least c p ∧ p ∈ s.take i
  dom : ∀ x ∈ s.take i, ∃ p ∈ k, p.1 ≤ x.1 ∧ p.2 ≤ x.2
theorem down_last {k : Cv} (h : Down k) {q : Int × Int} (hq : k.getLast? = some q) : ∀ p ∈ k, p.1 ≤ q.1 ∧ q.2 ≤ p.2 := by
  intro p hp
  obtain ⟨l, rfl⟩ := List.getLast?_eq_some_iff.mp hq
  rcases List.mem_append.mp hp with hp | hp
  · have := (List.pairwise_append.mp h).2.2 p hp q (by simp)
    omega
  · simp only [List.mem_singleton] at hp
    subst hp; omega
theorem keep_ok {c s : Cv} (hs : s.Pairwise fun a b => leP a b = true) (hm : ∀ p, p ∈ s ↔ p ∈ c) : ∀ i, i ≤ s.length → KeepOk c s i (keepTo s i)
  | 0, _ => ⟨by simp [keepTo, Down], by simp [keepTo], by simp⟩
  | i + 1, hi => by
    have ih := keep_ok hs hm i (by omega)
    obtain ⟨x, hx⟩ : ∃ x, s[i]? = some x := ⟨s[i], List.getElem?_eq_getElem (by omega)⟩
    have etk : s.take (i + 1) = s.take i ++ [x] := by rw [List.take_succ, hx]; rfl
    have xs : x ∈ s := List.mem_of_getElem? hx
    have before : ∀ y ∈ s.take i, leP y x = true := by
      have : (s.take (i + 1)).Pairwise fun a b => leP a b = true := hs.sublist (List.take_sublist _ _)
      rw [etk] at this
      exact fun y hy => (List.pairwise_append.mp this).2.2 y hy x (by simp)
    have after : ∀ q ∈ s, leP q x = true → q ≠ x → q ∈ s.take i := by
      intro q hq hl hne
      have e : s = s.take (i + 1) ++ s.drop (i + 1) := (List.take_append_drop _ _).symm
      rw [e] at hq
      rcases List.mem_append.mp hq with hq | hq
      · rw [etk] at hq
        rcases List.mem_append.mp hq with hq | hq
        · exact hq
        · simp only [List.mem_singleton] at hq
          exact absurd hq hne
      · exfalso
        rw [e] at hs
        have := (List.pairwise_append.mp hs).2.2 x (by rw [etk]; simp) q hq
        rw [leP_iff] at this hl
        apply hne
        obtain ⟨q1, q2⟩ := q
        obtain ⟨x1, x2⟩ := x
        simp only at this hl
        simp only [Prod.mk.injEq]; omega
    rw [keep_succ hx]
    unfold kp
    cases hk : (keepTo s i).getLast? with
    | none =>
      have k0 : keepTo s i = [] := by simpa using hk
      have t0 : s.take i = [] := by
        cases ht : s.take i with
        | nil => rfl
        | cons y r =>
          obtain ⟨p, hp, -⟩ := ih.dom y (by rw [ht]; exact List.mem_cons_self)
          rw [k0] at hp; cases hp
      refine ⟨by simp [Down], ?_, ?_⟩
      · intro p hp
        simp only [List.mem_singleton] at hp
        subst hp
        refine ⟨⟨(hm p).mp xs, fun q hq hne hle => ?_⟩, by rw [etk]; simp⟩
        have := after q ((hm q).mpr hq) (by rw [leP_iff]; omega) hne
        rw [t0] at this; cases this
      · intro y hy
        rw [etk, t0] at hy
        simp only [List.nil_append, List.mem_singleton] at hy
        subst hy
        exact ⟨y, by simp, by omega, by omega⟩
    | some q =>
      have lastq := down_last ih.down hk
      have qk : q ∈ keepTo s i := List.mem_of_getLast? hk
      dsimp only
      by_cases hc : x.2 < q.2 ∧ q.1 < x.1
      · rw [if_pos hc]
        refine ⟨?_, ?_, ?_⟩
        · refine List.pairwise_append.mpr ⟨ih.down, by simp, fun p hp y hy => ?_⟩
          simp only [List.mem_singleton] at hy
          subst hy
          have := lastq p hp
          omega
        · intro p hp
          rcases List.mem_append.mp hp with hp | hp
          · exact ⟨(ih.sub p hp).1, by rw [etk]; exact List.mem_append_left _ (ih.sub p hp).2⟩
          · simp only [List.mem_singleton] at hp
            subst hp
            refine ⟨⟨(hm p).mp xs, fun y hy hne hle => ?_⟩, by rw [etk]; simp⟩
            have h1 := after y ((hm y).mpr hy) (by rw [leP_iff]; omega) hne
            obtain ⟨z, hz, hz1⟩ := ih.dom y h1
            have := lastq z hz
            omega
        · intro y hy
          rw [etk] at hy
          rcases List.mem_append.mp hy with hy | hy
          · obtain ⟨p, hp, h⟩ := ih.dom y hy
            exact ⟨p, List.mem_append_left _ hp, h⟩
          · simp only [List.mem_singleton] at hy
            subst hy
            exact ⟨y, by simp, by omega, by omega⟩
      · rw [if_neg hc]
        refine ⟨ih.down, fun p hp => ⟨(ih.sub p hp).1, by rw [etk]; exact List.mem_append_left _ (ih.sub p hp).2⟩, ?_⟩
        intro y hy
        rw [etk] at hy
        rcases List.mem_append.mp hy with hy | hy
        · exact ih.dom y hy
        · simp only [List.mem_singleton] at hy
          subst hy
          have hb := before q (ih.sub q qk).2
          rw [leP_iff] at hb
          exact ⟨q, qk, by omega, by omega⟩
def leastOf (c : Cv) : Cv := keepTo (sortC c) (sortC c).length
theorem least_all (c : Cv) : Down (leastOf c) ∧ (∀ p, p ∈ leastOf c ↔ Least c p) ∧ ∀ x ∈ c, ∃ p ∈ leastOf c, p.1 ≤ x.1 ∧ p.2 ≤ x.2 := by
  have ok := keep_ok (c := c) (sortC_pw c) (fun p => sortC_mem) _ (Nat.le_refl _)
  have tl : (sortC c).take (sortC c).length = sortC c := List.take_length
  refine ⟨ok.down, fun p => ⟨fun h => (ok.sub p h).1, fun h => ?_⟩, fun x hx => ok.dom x (by rw [tl]; exact sortC_mem.mpr hx)⟩
  obtain ⟨q, hq, h1, h2⟩ := ok.dom p (by rw [tl]; exact sortC_mem.mpr h.1)
  by_cases e : q = p
  · rw [← e]; exact hq
  · exact absurd ⟨h1, h2⟩ (h.2 q (ok.sub q hq).1.1 e)
theorem pw_eq : ∀ {a b : Cv}, a.Pairwise LtP → b.Pairwise LtP → (∀ p, p ∈ a ↔ p ∈ b) → a = b
  | [], [], _, _, _ => rfl
  | [], y :: b, _, _, h => absurd ((h y).mpr List.mem_cons_self) (by simp)
  | x :: a, [], _, _, h => absurd ((h x).mp List.mem_cons_self) (by simp)
  | x :: a, y :: b, ha, hb, h => by
    have ha' := List.pairwise_cons.mp ha
    have hb' := List.pairwise_cons.mp hb
    have xy : x = y := by
      rcases List.mem_cons.mp ((h x).mp List.mem_cons_self) with e | e
      · exact e
      · rcases List.mem_cons.mp ((h y).mpr List.mem_cons_self) with e2 | e2
        · exact e2.symm
        · exact absurd (ltP_trans (hb'.1 x e) (ha'.1 y e2)) ltP_irr
    subst xy
    congr 1
    refine pw_eq ha'.2 hb'.2 fun p => ⟨fun hp => ?_, fun hp => ?_⟩
    · rcases List.mem_cons.mp ((h p).mp (List.mem_cons_of_mem _ hp)) with e | e
      · subst e; exact absurd (ha'.1 _ hp) ltP_irr
      · exact e
    · rcases List.mem_cons.mp ((h p).mpr (List.mem_cons_of_mem _ hp)) with e | e
      · subst e; exact absurd (hb'.1 _ hp) ltP_irr
      · exact e
def smaller (c : Cv) (p : Int × Int) : Cv := c.filter fun q => decide (q ≠ p) && (decide (q.1 ≤ p.1) && decide (q.2 ≤ p.2))
theorem least_filter (c : Cv) : (sortP c).filter (fun p => (smaller c p).isEmpty) = leastOf c := by
  obtain ⟨h1, h2, -⟩ := least_all c
  refine pw_eq (sorted_sortP.sublist List.filter_sublist) (h1.imp fun h => by rw [LtP, ltP_iff]; omega) fun p => ?_
  rw [h2, List.mem_filter, mem_sortP]
  unfold Least smaller
  refine and_congr_right fun _ => ?_
  rw [List.isEmpty_iff, List.filter_eq_nil_iff]
  simp
theorem letZ_least {c : Cv} (hc : c ≠ []) {m : Int} (hm : 0 < m) : letZ (leastOf c) m = letZ c m := by
  obtain ⟨h1, h2, h3⟩ := least_all c
  have ne : leastOf c ≠ [] := by
    cases c with
    | nil => exact absurd rfl hc
    | cons x r =>
      obtain ⟨p, hp, -⟩ := h3 x List.mem_cons_self
      intro e; rw [e] at hp; cases hp
  apply Int.le_antisymm
  · refine le_letZ hc hm fun x hx => ?_
    obtain ⟨p, hp, q1, q2⟩ := h3 x hx
    have := letZ_le hm hp
    have := Int.mul_le_mul_of_nonneg_right q2 (Int.le_of_lt hm)
    omega
  · exact le_letZ ne hm fun p hp => letZ_le hm ((h2 p).mp hp).1
theorem hits_congr {a b : Cv} (t : List Int) (h : ∀ m : Nat, letZ a (1 + (m : Int)) = letZ b (1 + (m : Int))) : hits a t = hits b t := by
  unfold hits hitsTo rowTo hit
  simp only [h]
theorem hits_least {c : Cv} (hc : c ≠ []) (t : List Int) : hits (leastOf c) t = hits c t := hits_congr t fun m => letZ_least hc (by omega)
end Lw
end

section
set_option Elab.async false
set_option linter.all false
set_option maxRecDepth 100000
set_option maxHeartbeats 1000000
/-! K30: both_let -/
namespace Lw
open PySem L2
theorem atI_last {k : Cv} {q : Int × Int} (h : k.getLast? = some q) : atI (k.map prD) (-1) = some (prD q) := by
  obtain ⟨l, rfl⟩ := List.getLast?_eq_some_iff.mp h
  have : atI ((l ++ [q]).map prD) (-1) = ((l ++ [q]).map prD)[l.length]? := by
    unfold atI ixN
    simp
    rw [if_pos (by omega)]
    simp only [Option.bind_some]
    rw [show (-1 + ((l.length : Int) + 1)).toNat = l.length by omega]
    rw [List.getElem?_append_right (by simp)]
    simp
  rw [this]; simp
def body8 : List S := [.ite (.orV (.cmp .Eq (.var 1) (.lst [])) (.andV (.cmp .Lt (.idx (.var 2) (.int 1)) (.idx (.idx (.var 1) (.neg (.int 1))) (.int 1))) (.cmp .Gt (.idx (.var 2) (.int 0)) (.idx (.idx (.var 1) (.neg (.int 1))) (.int 0))))) [.app 1 (.fz 2)] []]
theorem b8 : B44 = [.set 1 (.lst []), .for_ (.nm 2) (.bi .sorted [(.var 0)]) body8, .ret (.ty .tuple [(.var 1)])] := rfl
theorem pr_idx (p : Int × Int) : atI [D.int p.1, D.int p.2] 0 = some (.int p.1) ∧ atI [D.int p.1, D.int p.2] 1 = some (.int p.2) := ⟨rfl, rfl⟩
theorem body8_ok {s0 : Sl} {k : Cv} {p : Int × Int} (hk : k.length ≤ 10000) : exs P44 CC body8 [s0, .own (.lst (k.map prD)), .val (prD p)] = .nx [s0, .own (.lst ((kp k p).map prD)), .val (prD p)] := by
  have en := eq_prs_nil k
  have hz : k.length < 16777216 := by omega
  unfold body8 kp
  cases h : k.getLast? with
  | none =>
    have k0 : k = [] := by simpa using h
    subst k0
    simp only [List.map_nil, List.isEmpty_nil] at en
    simp [exs, ex, ev, evT, evD, opd, fzS, cmpS, en, truthD, isOwnL, updS, appD, vB, Sl.d, sizeLine_eq, SR.of, SR.then]
  | some q =>
    have ne : k.isEmpty = false := by
      cases k with
      | nil => cases h
      | cons a r => rfl
    rw [ne] at en
    have al := atI_last h
    have e1 : evT P44 CC (.cmp .Eq (.var 1) (.lst [])) [s0, .own (.lst (k.map prD)), .val (prD p)] = .ok false [s0, .own (.lst (k.map prD)), .val (prD p)] := by
      simp [evT, ev, evD, opd, cmpS, en, truthD, vB, Sl.d]
    have e2 : evT P44 CC (.cmp .Lt (.idx (.var 2) (.int 1)) (.idx (.idx (.var 1) (.neg (.int 1))) (.int 1))) [s0, .own (.lst (k.map prD)), .val (prD p)] = .ok (decide (p.2 < q.2)) [s0, .own (.lst (k.map prD)), .val (prD p)] := by
      simp only [prD] at al ⊢
      simp [evT, ev, opd, ixS, negS, al, (pr_idx p).2, (pr_idx q).2, cmpS, truthD, vI, vB, Sl.d]
    have e3 : evT P44 CC (.cmp .Gt (.idx (.var 2) (.int 0)) (.idx (.idx (.var 1) (.neg (.int 1))) (.int 0))) [s0, .own (.lst (k.map prD)), .val (prD p)] = .ok (decide (q.1 < p.1)) [s0, .own (.lst (k.map prD)), .val (prD p)] := by
      simp only [prD] at al ⊢
      simp [evT, ev, opd, ixS, negS, al, (pr_idx p).1, (pr_idx q).1, cmpS, truthD, vI, vB, Sl.d]
    rw [x_exs1, x_ite, evT_or, s_bind, e1, s_ok]
    simp only [Bool.false_eq_true, if_false]
    rw [evT_and, s_bind, e2, s_ok]
    by_cases h1 : p.2 < q.2
    · simp only [decide_eq_true h1, if_true, e3, SR.of]
      by_cases h2 : q.1 < p.1
      · rw [if_pos (decide_eq_true h2), if_pos ⟨h1, h2⟩]
        simp [exs, ex, ev, fzS, isOwnL, updS, appD, hz, Sl.d, sizeLine_eq, SR.of, SR.then]
      · rw [if_neg (by simpa using h2), if_neg (fun z => h2 z.2)]
        simp [exs, SR.then]
    · simp only [decide_eq_false h1, Bool.false_eq_true, if_false, s_pure, SR.of, h1, false_and]
      simp [exs, SR.then]
theorem keep_len (s : Cv) : ∀ i, i ≤ s.length → (keepTo s i).length ≤ i
  | 0, _ => by simp [keepTo]
  | i + 1, h => by
    have ih := keep_len s i (by omega)
    have hx : s[i]? = some s[i] := List.getElem?_eq_getElem (by omega)
    rw [keep_succ hx]
    unfold kp
    split
    · simp
    · split
      · simp; omega
      · omega
theorem least_len (c : Cv) : (leastOf c).length ≤ c.length := by
  have := keep_len (sortC c) (sortC c).length (Nat.le_refl _)
  rw [sortC_len] at this
  unfold leastOf
  rw [sortC_len]; exact this
theorem told_least_ok {c : Cv} (hc : c.length ≤ 1000) : F44 [.own (.lst (c.map prD))] = .ok (.val (curveD (leastOf c))) [.own (.lst (c.map prD))] := by
  have es := sort_prs (c := c)
  have e1 : ex P44 CC (.set 1 (.lst [])) [.own (.lst (c.map prD)), .no, .no] = .nx [.own (.lst (c.map prD)), .own (.lst []), .no] := by
    simp [ex, ev, evD, putS, SR.of]
  have e2 : evI P44 CC (.bi .sorted [(.var 0)]) [.own (.lst (c.map prD)), .own (.lst []), .no] = .ok ((sortC c).map prD) [.own (.lst (c.map prD)), .own (.lst []), .no] := by
    simp [evI, ev, opds, opd, biS, es, itemsD, Sl.d]
  obtain ⟨s2, el⟩ := forI_ind (bt := bindT (.nm 2)) (b := exs P44 CC body8) (fun i E => ∃ s2, E = [.own (.lst (c.map prD)), .own (.lst ((keepTo (sortC c) i).map prD)), s2])
    (fun R => ∃ s2, R = .nx [.own (.lst (c.map prD)), .own (.lst ((leastOf c).map prD)), s2]) ((sortC c).map prD)
    (fun i E d hd ⟨s2, eE⟩ => by
      subst eE
      rw [List.getElem?_map] at hd
      cases hx : (sortC c)[i]? with
      | none => rw [hx] at hd; cases hd
      | some p =>
        rw [hx] at hd
        cases hd
        have hi : i < (sortC c).length := by
          rcases Nat.lt_or_ge i (sortC c).length with q | q
          · exact q
          · rw [List.getElem?_eq_none q] at hx; cases hx
        have kl := keep_len (sortC c) i (by omega)
        rw [sortC_len] at hi
        refine ⟨[.own (.lst (c.map prD)), .own (.lst ((keepTo (sortC c) i).map prD)), .val (prD p)], by simp [bindT], ?_⟩
        rw [body8_ok (by omega), keep_succ hx]
        exact ⟨_, rfl⟩)
    (fun E ⟨s2, eE⟩ => by
      subst eE
      rw [List.length_map]
      exact ⟨_, rfl⟩)
    [.own (.lst (c.map prD)), .own (.lst []), .no] ⟨.no, rfl⟩
  have eB : exs P44 CC B44 ([.own (.lst (c.map prD))] ++ List.replicate (3 - [Sl.own (.lst (c.map prD))].length) Sl.no) = .rt (.val (curveD (leastOf c))) [.own (.lst (c.map prD)), .own (.lst ((leastOf c).map prD)), s2] := by
    show exs P44 CC B44 [.own (.lst (c.map prD)), .no, .no] = _
    rw [b8, x_exs1, e1, s_nx, x_exs1, x_for, e2]
    simp only [SR.of, el, s_nx]
    simp [exs, ex, ev, opds, opd, tyS, curveD, Sl.d, SR.of, SR.then]
  unfold F44 fnS
  rw [eB]
  rfl
end Lw
end

section
set_option Elab.async false
set_option linter.all false
set_option maxRecDepth 100000
set_option maxHeartbeats 1000000
/-! J31: k84, the mathematics: lateness, peaks -/
namespace Lw
open PySem L2
/-- the greatest of what P tells -/
def Mx (P : Int → Prop) (m : Int) : Prop := P m ∧ ∀ x, P x → x ≤ m
theorem Mx.uniq {P Q : Int → Prop} {a b : Int} (h : Mx P a) (k : Mx Q b) (pq : ∀ x, P x → ∃ y, Q y ∧ x ≤ y) (qp : ∀ x, Q x → ∃ y, P y ∧ x ≤ y) : a = b := by
  obtain ⟨y, hy, h1⟩ := pq a h.1
  obtain ⟨z, hz, h2⟩ := qp b k.1
  have := k.2 y hy
  have := h.2 z hz
  omega
theorem arg_max {α : Type} (f : α → Int) : ∀ l : List α, l ≠ [] → ∃ x ∈ l, ∀ y ∈ l, f y ≤ f x
  | [], h => absurd rfl h
  | [a], _ => ⟨a, by simp, fun y hy => by simp at hy; subst hy; exact Int.le_refl _⟩
  | a :: b :: r, _ => by
    obtain ⟨x, hx, h⟩ := arg_max f (b :: r) (by simp)
    by_cases q : f a ≤ f x
    · exact ⟨x, List.mem_cons_of_mem _ hx, fun y hy => by
        rcases List.mem_cons.mp hy with rfl | hy
        · exact q
        · exact h y hy⟩
    · exact ⟨a, List.mem_cons_self, fun y hy => by
        rcases List.mem_cons.mp hy with rfl | hy
        · exact Int.le_refl _
        · have := h y hy; omega⟩
theorem arg_min {α : Type} (f : α → Int) (l : List α) (h : l ≠ []) : ∃ x ∈ l, ∀ y ∈ l, f x ≤ f y := by
  obtain ⟨x, hx, q⟩ := arg_max (fun a => - f a) l h
  exact ⟨x, hx, fun y hy => by have := q y hy; omega⟩
/-! ### where two lines cross -/
def bend (p q : Int × Int) : Int := (q.1 - p.1) / (p.2 - q.2)
theorem le_bend {p q : Int × Int} (h : q.2 < p.2) {t : Int} : t ≤ bend p q ↔ p.1 + p.2 * t ≤ q.1 + q.2 * t := by
  unfold bend
  rw [Int.le_ediv_iff_mul_le (by omega), Int.mul_sub, Int.mul_comm t, Int.mul_comm t]
  omega
def mx1 (x : Int) : Int := if 1 < x then x else 1
def Tick (c : Cv) (x : Int) : Prop := x = 1 ∨ ∃ p ∈ c, ∃ q ∈ c, q.2 < p.2 ∧ (x = mx1 (bend p q) ∨ x = mx1 (bend p q + 1))
theorem mx1_pos (x : Int) : 1 ≤ mx1 x := by unfold mx1; split <;> omega
theorem Tick.pos {c : Cv} {x : Int} (h : Tick c x) : 1 ≤ x := by
  rcases h with rfl | ⟨p, _, q, _, _, rfl | rfl⟩
  · omega
  · exact mx1_pos _
  · exact mx1_pos _
theorem bend_le {p q : Int × Int} (h : q.2 < p.2) {m : Int} (hm : q.1 - p.1 ≤ m) (h0 : 0 ≤ m) : bend p q ≤ m := by
  unfold bend
  refine Int.ediv_le_of_le_mul (by omega) ?_
  have : m * 1 ≤ m * (p.2 - q.2) := Int.mul_le_mul_of_nonneg_left (by omega) h0
  omega
theorem Tick.le {c : Cv} (hd : Drawn c) {x : Int} (h : Tick c x) : x ≤ 61 := by
  have d := hd.2.2.2.2
  rcases h with rfl | ⟨p, hp, q, hq, hlt, rfl | rfl⟩
  · omega
  · have := bend_le hlt (d p hp q hq) (by omega); unfold mx1; split <;> omega
  · have := bend_le hlt (d p hp q hq) (by omega); unfold mx1; split <;> omega
theorem mul_le_r {a b x : Int} (h : a ≤ b) (hx : 0 ≤ x) : a * x ≤ b * x := Int.mul_le_mul_of_nonneg_right h hx
/-- lines' rise -/
theorem line_rise (p : Int × Int) (a b : Int) : p.1 + p.2 * b = (p.1 + p.2 * a) + p.2 * (b - a) := by
  rw [Int.mul_sub]; omega
/-- the top of the curve less a line -/
theorem peak {c : Cv} (hne : c ≠ []) {R : Int} (hR : ∃ p ∈ c, p.2 ≤ R) : ∃ T : Int, Tick c (mx1 T) ∧ Tick c (mx1 (T + 1)) ∧
    (∀ a b, 1 ≤ a → a ≤ b → b ≤ T → letZ c a + R * (b - a) ≤ letZ c b) ∧ (∀ a b, 1 ≤ a → T < a → a ≤ b → letZ c b ≤ letZ c a + R * (b - a)) := by
  by_cases hA : c.filter (fun p => decide (R < p.2)) = []
  · have low : ∀ p ∈ c, p.2 ≤ R := fun p hp => by
      rcases Int.lt_or_le R p.2 with q | q
      · have : p ∈ c.filter (fun p => decide (R < p.2)) := List.mem_filter.mpr ⟨hp, by simpa using q⟩
        rw [hA] at this; cases this
      · exact q
    refine ⟨0, .inl (by simp [mx1]), .inl (by simp [mx1]), fun a b h1 h2 h3 => by omega, fun a b h1 h2 h3 => ?_⟩
    obtain ⟨p, hp, e⟩ := letZ_mem hne (m := a) (by omega)
    have q := letZ_le (c := c) (m := b) (by omega) hp
    rw [line_rise p a b] at q
    have := mul_le_r (low p hp) (show 0 ≤ b - a by omega)
    omega
  · have hB : c.filter (fun p => decide (p.2 ≤ R)) ≠ [] := fun z => by
      obtain ⟨p, hp, h⟩ := hR
      have : p ∈ c.filter (fun p => decide (p.2 ≤ R)) := List.mem_filter.mpr ⟨hp, by simpa using h⟩
      rw [z] at this; cases this
    have mA : ∀ {p}, p ∈ c.filter (fun p => decide (R < p.2)) ↔ p ∈ c ∧ R < p.2 := fun {p} => by rw [List.mem_filter, decide_eq_true_eq]
    have mB : ∀ {p}, p ∈ c.filter (fun p => decide (p.2 ≤ R)) ↔ p ∈ c ∧ p.2 ≤ R := fun {p} => by rw [List.mem_filter, decide_eq_true_eq]
    have mins : ∀ i : Int × Int, ∃ m : Int, (∃ j ∈ c.filter (fun p => decide (p.2 ≤ R)), m = bend i j) ∧ ∀ j ∈ c.filter (fun p => decide (p.2 ≤ R)), m ≤ bend i j := fun i => by
      obtain ⟨j, hj, h⟩ := arg_min (bend i) _ hB
      exact ⟨bend i j, ⟨j, hj, rfl⟩, h⟩
    let m := fun i => (mins i).choose
    obtain ⟨i, hi, top⟩ := arg_max m _ hA
    obtain ⟨⟨j, hj, ej⟩, lj⟩ := (mins i).choose_spec
    obtain ⟨ic, iR⟩ := mA.mp hi
    obtain ⟨jc, jR⟩ := mB.mp hj
    have hT : m i = bend i j := ej
    refine ⟨m i, .inr ⟨i, ic, j, jc, by omega, .inl (by rw [hT])⟩, .inr ⟨i, ic, j, jc, by omega, .inr (by rw [hT])⟩, fun a b h1 h2 h3 => ?_, fun a b h1 h2 h3 => ?_⟩
    · obtain ⟨q, hq, e⟩ := letZ_mem hne (m := b) (by omega)
      rcases Int.lt_or_le R q.2 with hqR | hqR
      · have l := letZ_le (c := c) (m := a) (by omega) hq
        have r := line_rise q a b
        have := mul_le_r (show R ≤ q.2 by omega) (show 0 ≤ b - a by omega)
        omega
      · have h4 := lj q (mB.mpr ⟨hq, hqR⟩)
        have h5 : b ≤ bend i q := Int.le_trans h3 h4
        rw [le_bend (by omega)] at h5
        have l := letZ_le (c := c) (m := a) (by omega) ic
        have r := line_rise i a b
        have := mul_le_r (show R ≤ i.2 by omega) (show 0 ≤ b - a by omega)
        omega
    · obtain ⟨q, hq, e⟩ := letZ_mem hne (m := a) (by omega)
      rcases Int.lt_or_le R q.2 with hqR | hqR
      · obtain ⟨⟨j', hj', ej'⟩, _⟩ := (mins q).choose_spec
        have h4 : m q ≤ m i := top q (mA.mpr ⟨hq, hqR⟩)
        have h5 : m q = bend q j' := ej'
        obtain ⟨jc', jR'⟩ := mB.mp hj'
        have h6 : ¬ a ≤ bend q j' := by omega
        rw [le_bend (by omega)] at h6
        have l := letZ_le (c := c) (m := a) (by omega) jc'
        omega
      · have l := letZ_le (c := c) (m := b) (by omega) hq
        have r := line_rise q a b
        have := mul_le_r hqR (show 0 ≤ b - a by omega)
        omega
/-! ### lateness -/
def cdiv (n R : Int) : Int := -(-n / R)
theorem cdiv_le {n R x : Int} (hR : 0 < R) : cdiv n R ≤ x ↔ n ≤ R * x := by
  unfold cdiv
  have h := Int.le_ediv_iff_mul_le (a := -x) (b := -n) hR
  rw [Int.neg_mul, Int.mul_comm x R] at h
  omega
theorem cdiv_mono {n m R : Int} (hR : 0 < R) (h : n ≤ m) : cdiv n R ≤ cdiv m R := (cdiv_le hR).mpr (Int.le_trans h ((cdiv_le hR).mp (Int.le_refl _)))
theorem cdiv_add {n R k : Int} (hR : 0 < R) : cdiv (n + R * k) R = cdiv n R + k := by
  apply Int.le_antisymm
  · rw [cdiv_le hR, Int.mul_add]
    have := (cdiv_le (n := n) hR).mp (Int.le_refl _)
    omega
  · have : cdiv n R ≤ cdiv (n + R * k) R - k := by
      rw [cdiv_le hR, Int.mul_sub]
      have := (cdiv_le (n := n + R * k) hR).mp (Int.le_refl _)
      omega
    omega
def lateZ (s : Int × Int) (n t : Int) : Int := s.2 + cdiv n s.1 - t
def servZ (s : Int × Int) (t : Int) : Int := s.1 * (if s.2 < t then t - s.2 else 0)
theorem lateZ_mono {s : Int × Int} (hR : 0 < s.1) {n m t : Int} (h : n ≤ m) : lateZ s n t ≤ lateZ s m t := by
  unfold lateZ; have := cdiv_mono hR h; omega
/-- .. of the curve: a matter of the curve less the server's line -/
theorem lateZ_cmp {s : Int × Int} (hR : 0 < s.1) {n m a b : Int} (h : n + s.1 * (b - a) ≤ m) : lateZ s n a ≤ lateZ s m b := by
  unfold lateZ
  have h1 := cdiv_mono hR h
  rw [cdiv_add hR] at h1
  omega
/-- the server has passed on so much just from then on -/
theorem servZ_ge {s : Int × Int} (hR : 0 < s.1) {n x : Int} (hn : 0 < n) : n ≤ servZ s x ↔ s.2 + cdiv n s.1 ≤ x := by
  unfold servZ
  have pos : 0 < cdiv n s.1 := by
    rcases Int.lt_or_le 0 (cdiv n s.1) with h | h
    · exact h
    · have := (cdiv_le hR).mp h; omega
  split
  · rw [← cdiv_le hR]; omega
  · rw [Int.mul_zero]; omega
end Lw
end

section
set_option Elab.async false
set_option linter.all false
set_option maxRecDepth 100000
set_option maxHeartbeats 1000000
/-! J32: k84, servers -/
namespace Lw
open PySem L2
structure Srv (s : Int × Int) : Prop where
  r0 : 0 ≤ s.1
  r1 : s.1 ≤ 100
  l0 : 0 ≤ s.2
  l1 : s.2 ≤ 200
structure SrvD (s : Int × Int) : Prop where
  r0 : 0 ≤ s.1
  r1 : s.1 ≤ 30
  l0 : 0 ≤ s.2
  l1 : s.2 ≤ 10
theorem SrvD.srv {s : Int × Int} (h : SrvD s) : Srv s := ⟨h.r0, by have := h.r1; omega, h.l0, by have := h.l1; omega⟩
theorem mul_ok {i j : Int} (h1 : i.natAbs < 2 ^ 40) (h2 : j.natAbs < 2 ^ 40) : mulOk i j = true := mulOk_of (by decide) (by decide) h1 h2 (by decide)
theorem serv_gen (Φ : Nat → M Sl) {s : Int × Int} {t : Int} (h : Srv s) (ht : t.natAbs < 2 ^ 31) : fnS Φ CC 2 [] B5 [.val (prD s), .val (.int t)] = .ok (vI (servZ s t)) [.val (prD s), .val (.int t)] := by
  have h1 := h.r0; have h2 := h.r1; have h3 := h.l0; have h4 := h.l1
  have a1 : atI [D.int s.1, D.int s.2] 0 = some (.int s.1) := rfl
  have a2 : atI [D.int s.1, D.int s.2] 1 = some (.int s.2) := rfl
  have m : mulOk s.1 (if s.2 < t then t - s.2 else 0) = true := mul_ok (by omega) (by split <;> omega)
  unfold B5 prD
  simp [fnS, exs, ex, ev, evT, evD, opds, opd, ixS, a1, a2, biS, bopS, m, vI, Sl.d, wipeE, servZ]
theorem serv_ok {s : Int × Int} {t : Int} (h : Srv s) (ht : t.natAbs < 2 ^ 31) : F5 [.val (prD s), .val (.int t)] = .ok (vI (servZ s t)) [.val (prD s), .val (.int t)] := serv_gen P5 h ht
theorem serv27_ok {s : Int × Int} {t : Int} (h : Srv s) (ht : t.natAbs < 2 ^ 31) : F27 [.val (prD s), .val (.int t)] = .ok (vI (servZ s t)) [.val (prD s), .val (.int t)] := serv_gen P27 h ht
theorem is_server_ok {s : Int × Int} (h : Srv s) : F10 [.val (prD s)] = .ok (vB true) [.val (prD s)] := by
  have h1 := h.r0; have h2 := h.r1; have h3 := h.l0; have h4 := h.l1
  have a1 : atI [D.int s.1, D.int s.2] 0 = some (.int s.1) := rfl
  have a2 : atI [D.int s.1, D.int s.2] 1 = some (.int s.2) := rfl
  have q : P10 7 = F7 := rfl
  have g : ∀ v lo hi : Int, F7 [.val (.int v), .val (.int lo), .val (.int hi)] = .ok (.val (.bl (decide (lo ≤ v) && decide (v ≤ hi)))) [.val (.int v), .val (.int lo), .val (.int hi)] := fun v lo hi => is_int_ok v lo hi
  unfold F10 B10 prD
  simp [fnS, exs, ex, ev, evT, evD, opds, opd, args, callS, evC, popS, q, g, CC, ixS, a1, a2, isiT, lenD, biS, bopS, cmpS, eqD_int, truthD, putBack, vI, vB, Sl.d, wipeE, SR.then, h1, h2, h3, h4]
theorem look_server_ok {s : Int × Int} (h : Srv s) : F11 [.val (prD s)] = .ok (.val .non) [.val (prD s)] := by
  have e := is_server_ok h
  have q : P11 10 = F10 := rfl
  unfold F11 B11
  simp [fnS, exs, ex, ev, evT, opds, opd, args, callS, evC, popS, q, e, truthD, putBack, vB, Sl.d, wipeE, SR.then]
theorem late_by_ok {s : Int × Int} {n t : Int} (h : Srv s) (h0 : 0 < s.1) : F13 [.val (prD s), .val (.int n), .val (.int t)] = .ok (vI (lateZ s n t)) [.val (prD s), .val (.int n), .val (.int t)] := by
  have h2 := h.r1
  have a1 : atI [D.int s.1, D.int s.2] 0 = some (.int s.1) := rfl
  have a2 : atI [D.int s.1, D.int s.2] 1 = some (.int s.2) := rfl
  have lg : s.1.natAbs.log2 < 9000 := Nat.lt_of_lt_of_le (log_lt (k := 10) (by decide) (by omega)) (by decide)
  unfold F13 B13 prD
  simp [fnS, exs, ex, ev, evT, evD, opds, opd, ixS, a1, a2, biS, bopS, negS, h0, lg, vI, Sl.d, wipeE, lateZ, cdiv]
theorem server_drawn_ok {n : Int} {l : List D} (hn : n < 2 ^ 19) (h : PotOk n l) : ∃ s l', SrvD s ∧ PotOk (n + 2) l' ∧ F3 [.own (.lst l)] = .ok (.val (prD s)) [.own (.lst l')] := by
  obtain ⟨x, l1, hx, p1, e1⟩ := of_ok (n := n) (xs := [.int 0, .int 1, .int 2, .int 5, .int 9, .int 30]) (by omega) h (by simp) (by simp)
  obtain ⟨a, rfl, ha0, ha1⟩ : ∃ y : Int, x = .int y ∧ 0 ≤ y ∧ y ≤ 30 := by
    simp at hx
    rcases hx with rfl | rfl | rfl | rfl | rfl | rfl <;> exact ⟨_, rfl, by decide, by decide⟩
  obtain ⟨x, l2, hx, p2, e2⟩ := of_ok (n := n + 1) (xs := [.int 0, .int 0, .int 1, .int 3, .int 10]) (by omega) p1 (by simp) (by simp)
  obtain ⟨b, rfl, hb0, hb1⟩ : ∃ y : Int, x = .int y ∧ 0 ≤ y ∧ y ≤ 10 := by
    simp at hx
    rcases hx with rfl | rfl | rfl | rfl <;> exact ⟨_, rfl, by decide, by decide⟩
  refine ⟨(a, b), l2, ⟨ha0, ha1, hb0, hb1⟩, by rw [show n + 2 = n + 1 + 1 by omega]; exact p2, ?_⟩
  have q : P3 1 = F1 := rfl
  unfold F3 B3
  simp [fnS, exs, ex, ev, evT, evD, opds, opd, args, callS, evC, popS, q, e1, e2, tyS, putBack, vI, Sl.d, sizeLine_eq, wipeE, prD]
theorem bool36 (a b : Bool) : F36 [.val (.bl a), .val (.bl b)] = .ok (.val (.bl (a == b))) [.val (.bl a), .val (.bl b)] := by
  unfold F36 B36
  simp [fnS, exs, ex, ev, opds, opd, biS, isiD, tyD, isiTys, isiS, cmpS, eqD_bl, vB, Sl.d, wipeE]
end Lw
end

section
set_option Elab.async false
set_option linter.all false
set_option maxRecDepth 100000
set_option maxHeartbeats 1000000
/-! J33: k84, ticks_of -/
namespace Lw
open PySem L2
def dkT (xs : List Int) : D := .dk (xs.map Sum.inl) (xs.map fun _ => .bl true)
def insK (xs : List Int) (x : Int) : List Int := if x ∈ xs then xs else xs ++ [x]
theorem insK_len (xs : List Int) (x : Int) : (insK xs x).length ≤ xs.length + 1 := by unfold insK; split <;> simp
theorem insK_mem {xs : List Int} {x y : Int} : y ∈ insK xs x ↔ y ∈ xs ∨ y = x := by
  unfold insK
  split
  · rename_i h
    exact ⟨.inl, fun z => z.elim id fun e => e ▸ h⟩
  · simp
theorem zip_dk : ∀ xs : List Int, ((xs.map Sum.inl : List Key).zip (xs.map fun _ => D.bl true)) = xs.map fun y => (Sum.inl y, D.bl true)
  | [] => rfl
  | x :: r => by simp [zip_dk r]
theorem setK_dk {xs : List Int} {x : Int} (h : xs.length < 16777216) : setK (dkT xs) (.int x) (.bl true) = some (dkT (insK xs x)) := by
  have an : ((xs.map fun y => ((Sum.inl y : Key), D.bl true)).any fun kv => decide (kv.1 = Sum.inl x)) = decide (x ∈ xs) := by
    rw [List.any_map]
    by_cases hx : x ∈ xs
    · rw [decide_eq_true hx, List.any_eq_true]
      exact ⟨x, hx, by simp⟩
    · rw [decide_eq_false hx, List.any_eq_false]
      intro y hy
      simp
      intro z; subst z; exact hx hy
  have sz : (xs.map (Sum.inl : Int → Key)).length < sizeLine ∧ (xs.map (Sum.inl : Int → Key)).length = (xs.map fun _ => D.bl true).length := by
    simp only [List.length_map, and_true, sizeLine_eq]; exact h
  have e : putZ ((xs.map Sum.inl : List Key).zip (xs.map fun _ => D.bl true)) (.inl x) (.bl true) = (insK xs x).map fun y => ((Sum.inl y : Key), D.bl true) := by
    unfold putZ insK
    rw [zip_dk, an]
    by_cases hx : x ∈ xs
    · rw [if_pos (decide_eq_true hx), if_pos hx, List.map_map]
      refine List.map_congr_left fun y _ => ?_
      show (if (Sum.inl y : Key) = Sum.inl x then ((Sum.inl y : Key), D.bl true) else (Sum.inl y, .bl true)) = _
      split <;> rfl
    · rw [if_neg (by simpa using hx), if_neg hx]; simp
  show (if (xs.map (Sum.inl : Int → Key)).length < sizeLine ∧ (xs.map (Sum.inl : Int → Key)).length = (xs.map fun _ => D.bl true).length then some (D.dk ((putZ ((xs.map Sum.inl : List Key).zip (xs.map fun _ => D.bl true)) (.inl x) (.bl true)).map (·.1)) ((putZ ((xs.map Sum.inl : List Key).zip (xs.map fun _ => D.bl true)) (.inl x) (.bl true)).map (·.2))) else none) = _
  rw [if_pos sz, e]
  simp [dkT, List.map_map, Function.comp_def]
def bd6 : List S := [.dset 1 (.bi .max [(.int 1), (.var 6)]) (.bl true)]
def bd4 : List S := [.set 5 (.bop .FloorDiv (.bop .Sub (.idx (.var 4) (.int 0)) (.idx (.var 3) (.int 0))) (.bop .Sub (.idx (.var 3) (.int 1)) (.idx (.var 4) (.int 1)))), .for_ (.nm 6) (.tup [(.fz 5), (.bop .Add (.var 5) (.int 1))]) bd6]
def bd2 : List S := [.for_ (.nm 4) (.slc (.var 0) (.bop .Add (.var 2) (.int 1)) .non) bd4]
theorem b14 : B14 = [.set 1 (.dicti 1 true), .for_ (.tup [(.nm 2), (.nm 3)]) (.enum (.fz 0)) bd2, .ret (.bi .sorted [(.var 1)])] := rfl
theorem bd6_ok {c : Cv} {xs : List Int} {t : Int} {s2 s3 s4 s5 : Sl} (h : xs.length < 16777216) : exs P14 CC bd6 [.val (curveD c), .own (dkT xs), s2, s3, s4, s5, .val (.int t)] = .nx [.val (curveD c), .own (dkT (insK xs (mx1 t))), s2, s3, s4, s5, .val (.int t)] := by
  have e := setK_dk (xs := xs) (x := mx1 t) h
  have ii : isOwnD [.val (curveD c), .own (dkT xs), s2, s3, s4, s5, .val (.int t)] 1 = true := by simp [isOwnD, dkT]
  have m : biS .max [.int 1, .int t] = some (vI (mx1 t)) := by simp [biS, mx1]
  unfold bd6
  simp [exs, ex, ev, evC, opds, opd, ii, m, vI, vB, Sl.d, updS, e, SR.then]
theorem bd4_ok {c : Cv} {xs : List Int} {p q : Int × Int} {s2 s5 s6 : Sl} (h : xs.length + 2 < 16777216) (hp : q.2 < p.2) (hb : (p.2 - q.2).natAbs < 2 ^ 40) :
    exs P14 CC bd4 [.val (curveD c), .own (dkT xs), s2, .val (prD p), .val (prD q), s5, s6] = .nx [.val (curveD c), .own (dkT (insK (insK xs (mx1 (bend p q))) (mx1 (bend p q + 1)))), s2, .val (prD p), .val (prD q), .val (.int (bend p q)), .val (.int (bend p q + 1))] := by
  have a1 : atI [D.int p.1, D.int p.2] 0 = some (.int p.1) := rfl
  have a2 : atI [D.int p.1, D.int p.2] 1 = some (.int p.2) := rfl
  have a3 : atI [D.int q.1, D.int q.2] 0 = some (.int q.1) := rfl
  have a4 : atI [D.int q.1, D.int q.2] 1 = some (.int q.2) := rfl
  have pos : 0 < p.2 - q.2 := by omega
  have lg : (p.2 - q.2).natAbs.log2 < 9000 := Nat.lt_of_lt_of_le (log_lt (k := 40) (by decide) hb) (by decide)
  have l1 := insK_len xs (mx1 (bend p q))
  have e1 := bd6_ok (c := c) (xs := xs) (t := bend p q) (s2 := s2) (s3 := .val (prD p)) (s4 := .val (prD q)) (s5 := .val (.int (bend p q))) (by omega)
  have e2 := bd6_ok (c := c) (xs := insK xs (mx1 (bend p q))) (t := bend p q + 1) (s2 := s2) (s3 := .val (prD p)) (s4 := .val (prD q)) (s5 := .val (.int (bend p q))) (by omega)
  have st : ex P14 CC (.set 5 (.bop .FloorDiv (.bop .Sub (.idx (.var 4) (.int 0)) (.idx (.var 3) (.int 0))) (.bop .Sub (.idx (.var 3) (.int 1)) (.idx (.var 4) (.int 1))))) [.val (curveD c), .own (dkT xs), s2, .val (prD p), .val (prD q), s5, s6] = .nx [.val (curveD c), .own (dkT xs), s2, .val (prD p), .val (prD q), .val (.int (bend p q)), s6] := by
    simp [ex, ev, opd, prD, ixS, a1, a2, a3, a4, bopS, hp, lg, putS, vI, Sl.d, bend]
  have it : evI P14 CC (.tup [(.fz 5), (.bop .Add (.var 5) (.int 1))]) [.val (curveD c), .own (dkT xs), s2, .val (prD p), .val (prD q), .val (.int (bend p q)), s6] = .ok [.int (bend p q), .int (bend p q + 1)] [.val (curveD c), .own (dkT xs), s2, .val (prD p), .val (prD q), .val (.int (bend p q)), s6] := by
    simp [evI, ev, evD, opd, fzS, bopS, vI, Sl.d, sizeLine_eq, itemsD]
  unfold bd4
  rw [x_exs1, st]
  simp only [SR.then]
  rw [x_exs1, x_for, it]
  simp only [SR.of]
  simp [forI, bindT, e1, e2, SR.then, x_exs0]
def ins2 (p : Int × Int) (xs : List Int) (q : Int × Int) : List Int := insK (insK xs (mx1 (bend p q))) (mx1 (bend p q + 1))
theorem ins2_len (p : Int × Int) (xs : List Int) (q : Int × Int) : (ins2 p xs q).length ≤ xs.length + 2 := by
  have := insK_len xs (mx1 (bend p q))
  have := insK_len (insK xs (mx1 (bend p q))) (mx1 (bend p q + 1))
  unfold ins2; omega
theorem ins2s_len (p : Int × Int) : ∀ (qs : Cv) (xs : List Int), (qs.foldl (ins2 p) xs).length ≤ xs.length + 2 * qs.length
  | [], xs => by simp
  | q :: r, xs => by
    have h1 := ins2_len p xs q
    have h2 := ins2s_len p r (ins2 p xs q)
    simp only [List.foldl_cons, List.length_cons]; omega
theorem ins2s_mem (p : Int × Int) {x : Int} : ∀ (qs : Cv) (xs : List Int), x ∈ qs.foldl (ins2 p) xs ↔ x ∈ xs ∨ ∃ q ∈ qs, x = mx1 (bend p q) ∨ x = mx1 (bend p q + 1)
  | [], xs => by simp
  | q :: r, xs => by
    rw [List.foldl_cons, ins2s_mem p r]
    unfold ins2
    rw [insK_mem, insK_mem]
    simp only [List.mem_cons, exists_eq_or_imp]
    constructor
    · rintro (((h | h) | h) | h)
      · exact .inl h
      · exact .inr (.inl (.inl h))
      · exact .inr (.inl (.inr h))
      · exact .inr (.inr h)
    · rintro (h | ((h | h) | h))
      · exact .inl (.inl (.inl h))
      · exact .inl (.inl (.inr h))
      · exact .inl (.inr h)
      · exact .inr h
theorem loop4 {c : Cv} {p : Int × Int} {s2 : Sl} : ∀ (qs : Cv) (xs : List Int) (s4 s5 s6 : Sl), xs.length + 2 * qs.length < 16777216 → (∀ q ∈ qs, q.2 < p.2 ∧ (p.2 - q.2).natAbs < 2 ^ 40) →
    ∃ s4' s5' s6', forI (bindT (.nm 4)) (exs P14 CC bd4) (qs.map prD) [.val (curveD c), .own (dkT xs), s2, .val (prD p), s4, s5, s6] = .nx [.val (curveD c), .own (dkT (qs.foldl (ins2 p) xs)), s2, .val (prD p), s4', s5', s6']
  | [], xs, s4, s5, s6, _, _ => ⟨s4, s5, s6, rfl⟩
  | q :: r, xs, s4, s5, s6, hl, hq => by
    simp only [List.length_cons] at hl
    have l1 := ins2_len p xs q
    obtain ⟨h1, h2⟩ := hq q List.mem_cons_self
    have e := bd4_ok (c := c) (xs := xs) (p := p) (q := q) (s2 := s2) (s5 := s5) (s6 := s6) (by omega) h1 h2
    obtain ⟨s4', s5', s6', ih⟩ := loop4 (c := c) (p := p) (s2 := s2) r (ins2 p xs q) (.val (prD q)) (.val (.int (bend p q))) (.val (.int (bend p q + 1))) (by omega) fun x hx => hq x (List.mem_cons_of_mem _ hx)
    refine ⟨s4', s5', s6', ?_⟩
    rw [List.map_cons, forI]
    have b : bindT (.nm 4) (prD q) [.val (curveD c), .own (dkT xs), s2, .val (prD p), s4, s5, s6] = some [.val (curveD c), .own (dkT xs), s2, .val (prD p), .val (prD q), s5, s6] := by simp [bindT]
    rw [b]
    dsimp only
    rw [e]
    exact ih
def tickTo (c : Cv) : Nat → List Int
  | 0 => [1]
  | i + 1 => match c[i]? with
    | some p => (c.drop (i + 1)).foldl (ins2 p) (tickTo c i)
    | none => tickTo c i
theorem tickTo_succ {c : Cv} {i : Nat} {p : Int × Int} (h : c[i]? = some p) : tickTo c (i + 1) = (c.drop (i + 1)).foldl (ins2 p) (tickTo c i) := by
  simp only [tickTo, h]
theorem tickTo_len {c : Cv} (hc : c.length ≤ 8) : ∀ i, i ≤ c.length → (tickTo c i).length + 2 * (c.length - i) * (c.length - i) ≤ 1 + 2 * c.length * c.length
  | 0, _ => by simp [tickTo]
  | i + 1, h => by
    have ih := tickTo_len hc i (by omega)
    have e : c[i]? = some c[i] := by simp [show i < c.length by omega]
    rw [tickTo_succ e]
    have l := ins2s_len c[i] (c.drop (i + 1)) (tickTo c i)
    rw [List.length_drop] at l
    obtain ⟨m, hm⟩ : ∃ m, c.length - i = m + 1 := ⟨c.length - i - 1, by omega⟩
    have hm2 : c.length - (i + 1) = m := by omega
    rw [hm] at ih
    rw [hm2] at l ⊢
    have : 2 * (m + 1) * (m + 1) = 2 * m * m + 4 * m + 2 := by
      rw [Nat.mul_assoc, Nat.mul_assoc, Nat.mul_add, Nat.add_mul]; omega
    omega
theorem tickTo_mem {c : Cv} {x : Int} : ∀ i, x ∈ tickTo c i ↔ x = 1 ∨ ∃ a b p q, a < i ∧ a < b ∧ c[a]? = some p ∧ c[b]? = some q ∧ (x = mx1 (bend p q) ∨ x = mx1 (bend p q + 1))
  | 0 => by simp [tickTo]
  | i + 1 => by
    have ih := tickTo_mem (c := c) (x := x) i
    cases e : c[i]? with
    | none =>
      simp only [tickTo, e]
      rw [ih]
      constructor
      · rintro (h | ⟨a, b, p, q, h1, h⟩)
        · exact .inl h
        · exact .inr ⟨a, b, p, q, by omega, h⟩
      · rintro (h | ⟨a, b, p, q, h1, h2, h3, h⟩)
        · exact .inl h
        · refine .inr ⟨a, b, p, q, ?_, h2, h3, h⟩
          rcases Nat.lt_or_ge a i with z | z
          · exact z
          · rw [show a = i by omega, e] at h3; cases h3
    | some p =>
      rw [tickTo_succ e, ins2s_mem, ih]
      constructor
      · rintro ((h | ⟨a, b, p, q, h1, h⟩) | ⟨q, hq, h⟩)
        · exact .inl h
        · exact .inr ⟨a, b, p, q, by omega, h⟩
        · obtain ⟨j, hj⟩ := List.mem_iff_getElem?.mp hq
          rw [List.getElem?_drop] at hj
          exact .inr ⟨i, i + 1 + j, p, q, by omega, by omega, e, hj, h⟩
      · rintro (h | ⟨a, b, p', q, h1, h2, h3, h4, h⟩)
        · exact .inl (.inl h)
        · rcases Nat.lt_or_ge a i with z | z
          · exact .inl (.inr ⟨a, b, p', q, z, h2, h3, h4, h⟩)
          · have : a = i := by omega
            subst this
            rw [e] at h3; cases h3
            refine .inr ⟨q, List.mem_iff_getElem?.mpr ⟨b - (a + 1), ?_⟩, h⟩
            rw [List.getElem?_drop, show a + 1 + (b - (a + 1)) = b by omega]; exact h4
theorem down_get {c : Cv} (h : Down c) {a b : Nat} {p q : Int × Int} (hab : a < b) (ha : c[a]? = some p) (hb : c[b]? = some q) : p.1 < q.1 ∧ q.2 < p.2 := by
  have la : a < c.length := by
    rcases Nat.lt_or_ge a c.length with z | z
    · exact z
    · rw [List.getElem?_eq_none z] at ha; cases ha
  have lb : b < c.length := by
    rcases Nat.lt_or_ge b c.length with z | z
    · exact z
    · rw [List.getElem?_eq_none z] at hb; cases hb
  rw [List.getElem?_eq_getElem la] at ha
  rw [List.getElem?_eq_getElem lb] at hb
  cases ha; cases hb
  exact List.pairwise_iff_getElem.mp h a b la lb hab
theorem ticks_mem {c : Cv} (h : Down c) {x : Int} : x ∈ tickTo c c.length ↔ Tick c x := by
  rw [tickTo_mem]
  constructor
  · rintro (h1 | ⟨a, b, p, q, h1, h2, h3, h4, h5⟩)
    · exact .inl h1
    · exact .inr ⟨p, List.mem_of_getElem? h3, q, List.mem_of_getElem? h4, (down_get h h2 h3 h4).2, h5⟩
  · rintro (h1 | ⟨p, hp, q, hq, hlt, h5⟩)
    · exact .inl h1
    · obtain ⟨a, ha⟩ := List.mem_iff_getElem?.mp hp
      obtain ⟨b, hb⟩ := List.mem_iff_getElem?.mp hq
      rcases Nat.lt_trichotomy a b with z | z | z
      · refine .inr ⟨a, b, p, q, ?_, z, ha, hb, h5⟩
        rcases Nat.lt_or_ge a c.length with y | y
        · exact y
        · rw [List.getElem?_eq_none y] at ha; cases ha
      · subst z; rw [ha] at hb; cases hb; omega
      · have := (down_get h z hb ha).2; omega
def ticks (c : Cv) : List Int := sortI (tickTo c c.length)
theorem ticks_iff {c : Cv} (h : Down c) {x : Int} : x ∈ ticks c ↔ Tick c x := by
  unfold ticks; rw [(sortI_perm _).mem_iff]; exact ticks_mem h
theorem ticks_ne {c : Cv} (h : Down c) : ticks c ≠ [] := fun z => by
  have : (1 : Int) ∈ ticks c := (ticks_iff h).mpr (.inl rfl)
  rw [z] at this; cases this
theorem ticks_len {c : Cv} (hc : c.length ≤ 3) : (ticks c).length ≤ 19 := by
  have := tickTo_len (c := c) (by omega) c.length (Nat.le_refl _)
  have e : (ticks c).length = (tickTo c c.length).length := (sortI_perm _).length_eq
  rw [e]
  simp at this
  have h2 : 2 * c.length * c.length ≤ 2 * 3 * 3 := Nat.mul_le_mul (by omega) hc
  omega
end Lw
end

section
set_option Elab.async false
set_option linter.all false
set_option maxRecDepth 100000
set_option maxHeartbeats 1000000
/-! J34: k84, ticks_of, the walk -/
namespace Lw
open PySem L2
theorem enum_get {xs : List D} {i : Nat} {d : D} (h : (enumD xs)[i]? = some d) : ∃ x, xs[i]? = some x ∧ d = .tup [.int i, x] := by
  unfold enumD at h
  rw [List.getElem?_map, List.getElem?_zipIdx] at h
  cases e : xs[i]? with
  | none => rw [e] at h; cases h
  | some x => rw [e] at h; simp at h; exact ⟨x, rfl, h.symm⟩
theorem enum_len (xs : List D) : (enumD xs).length = xs.length := by simp [enumD]
theorem ev_slc (Φ : Nat → M Sl) (C : Nat → D) (a lo hi : E) : ev Φ C (.slc a lo hi) = M.bind (evA [opd Φ C a, partO (isNonE lo) (opd Φ C lo), partO (isNonE hi) (opd Φ C hi)]) fun ds => M.opt (slP (isNonE lo) (isNonE hi) ds) := by rw [ev]
theorem evI_slcK (Φ : Nat → M Sl) (C : Nat → D) (a lo hi : E) : evI Φ C (.slc a lo hi) = M.bind (ev Φ C (.slc a lo hi)) fun s => M.opt (itemsD s.d) := by rw [evI] <;> first | rfl | (intros; rename_i z; cases z)
theorem ticks_of_ok {c : Cv} (hc : Drawn c) : F14 [.val (curveD c)] = .ok (.own (intL (ticks c))) [.val (curveD c)] := by
  have il := forI_ind (bt := bindT (.tup [(.nm 2), (.nm 3)])) (b := exs P14 CC bd2)
    (fun i E => ∃ s2 s3 s4 s5 s6, E = [.val (curveD c), .own (dkT (tickTo c i)), s2, s3, s4, s5, s6])
    (fun R => ∃ s2 s3 s4 s5 s6, R = .nx [.val (curveD c), .own (dkT (tickTo c c.length)), s2, s3, s4, s5, s6]) (enumD (c.map prD))
    (fun i E d hd ⟨s2, s3, s4, s5, s6, eE⟩ => by
      subst eE
      obtain ⟨x, hx, rfl⟩ := enum_get hd
      rw [List.getElem?_map] at hx
      cases ep : c[i]? with
      | none => rw [ep] at hx; cases hx
      | some p =>
        rw [ep] at hx
        obtain rfl : prD p = x := by simpa using hx
        have hi : i < c.length := by
          rcases Nat.lt_or_ge i c.length with q | q
          · exact q
          · rw [List.getElem?_eq_none q] at ep; cases ep
        have hl := hc.2.1
        have tl := tickTo_len (c := c) (by omega) i (by omega)
        have t19 : (tickTo c i).length ≤ 19 := by
          have h2 : 2 * c.length * c.length ≤ 2 * 3 * 3 := Nat.mul_le_mul (by omega) hl
          omega
        refine ⟨[.val (curveD c), .own (dkT (tickTo c i)), .val (.int i), .val (prD p), s4, s5, s6], by simp [bindT, bindTs], ?_⟩
        have pc := hc.2.2.1 p (List.mem_of_getElem? ep)
        obtain ⟨s4', s5', s6', lo⟩ := loop4 (c := c) (p := p) (s2 := .val (.int i)) (c.drop (i + 1)) (tickTo c i) s4 s5 s6 (by rw [List.length_drop]; omega) (fun q hq => by
          obtain ⟨j, hj⟩ := List.mem_iff_getElem?.mp hq
          rw [List.getElem?_drop] at hj
          have dn := down_get hc.2.2.2.1 (show i < i + 1 + j by omega) ep hj
          have qc := hc.2.2.1 q (List.mem_of_getElem? hj)
          exact ⟨dn.2, by omega⟩)
        have ei : evI P14 CC (.slc (.var 0) (.bop .Add (.var 2) (.int 1)) .non) [.val (curveD c), .own (dkT (tickTo c i)), .val (.int i), .val (prD p), s4, s5, s6] = .ok ((c.drop (i + 1)).map prD) [.val (curveD c), .own (dkT (tickTo c i)), .val (.int i), .val (prD p), s4, s5, s6] := by
          have ct : cutD (c.map prD) (some ((i : Int) + 1)) none = (c.drop (i + 1)).map prD := by
            have := cut_from (xs := c.map prD) (i := i + 1) (by simp; omega)
            rw [show ((i : Int) + 1) = ((i + 1 : Nat) : Int) by simp, this, List.map_drop]
          rw [evI_slcK, ev_slc]
          simp [ev, opd, partO, isNonE, bopS, vI, Sl.d, partD, slP, slS, curveD, ct, itemsD]
        unfold bd2
        rw [x_exs1, x_for, ei]
        simp only [SR.of, lo, SR.then, x_exs0]
        exact ⟨_, _, _, _, _, by rw [tickTo_succ ep]⟩)
    (fun E ⟨s2, s3, s4, s5, s6, eE⟩ => by
      subst eE
      rw [enum_len, List.length_map]
      exact ⟨_, _, _, _, _, rfl⟩)
    [.val (curveD c), .own (dkT [1]), .no, .no, .no, .no, .no] ⟨.no, .no, .no, .no, .no, rfl⟩
  obtain ⟨s2, s3, s4, s5, s6, el⟩ := il
  have e0 : ex P14 CC (.set 1 (.dicti 1 true)) [.val (curveD c), .no, .no, .no, .no, .no, .no] = .nx [.val (curveD c), .own (dkT [1]), .no, .no, .no, .no, .no] := by
    simp [ex, ev, putS, dkT]
  have e1 : evI P14 CC (.enum (.fz 0)) [.val (curveD c), .own (dkT [1]), .no, .no, .no, .no, .no] = .ok (enumD (c.map prD)) [.val (curveD c), .own (dkT [1]), .no, .no, .no, .no, .no] := by
    simp [evI, evC, ev, fzS, curveD, Sl.d, itemsD]
  have hl := hc.2.1
  have tl := tickTo_len (c := c) (by omega) c.length (Nat.le_refl _)
  have t64 : (tickTo c c.length).length < 64 := by
    have h2 : 2 * c.length * c.length ≤ 2 * 3 * 3 := Nat.mul_le_mul (by omega) hl
    omega
  have ki : ∀ ns : List Int, keyInts (ns.map Sum.inl) = some ns := fun ns => by
    induction ns with
    | nil => rfl
    | cons n r ih => simp [keyInts, ih]
  unfold F14 fnS
  rw [b14]
  show (match exs P14 CC _ [.val (curveD c), .no, .no, .no, .no, .no, .no] with | .rt s E => R.ok s ((wipeE E []).take 1) | .nx E => .ok (.val .non) ((wipeE E []).take 1) | .exc c x E => .exc c x ((wipeE E []).take 1) | _ => .bad) = _
  rw [x_exs1, e0]
  simp only [SR.then]
  rw [x_exs1, x_for, e1]
  simp only [SR.of, el, SR.then]
  simp [exs, ex, ev, opds, opd, biS, dkT, ki, t64, wipeE, Sl.d, intL, ticks]
end Lw
end

section
set_option Elab.async false
set_option linter.all false
set_option maxRecDepth 100000
set_option maxHeartbeats 1000000
/-! J35: k84, told_late, greatest -/
namespace Lw
open PySem L2
theorem lcI_flt {α : Type} {bt : D → SE → Option SE} {tests : List (M Bool)} {elt : M Sl} {own : List Nat} {W : SE} {g f : α → D} {b : α → Bool} (hW : wipeE W own = W) : ∀ (xs : List α) (acc : List D), acc.length + xs.length ≤ sizeLine →
    (∀ x ∈ xs, ∃ E1 E2, bt (g x) W = some E1 ∧ lcI.allT tests E1 = .ok (b x) E2 ∧ (b x = true → ∃ E3 s, elt E2 = .ok s E3 ∧ s.d = f x ∧ wipeE E3 own = W) ∧ (b x = false → wipeE E2 own = W)) →
    lcI bt tests elt own (xs.map g) acc W = .ok (acc ++ (xs.filter b).map f) W
  | [], acc, _, _ => by simp [lcI]
  | d :: ds, acc, hz, h => by
    obtain ⟨E1, E2, h1, h2, h3, h4⟩ := h d List.mem_cons_self
    simp only [List.length_cons] at hz
    rw [List.map_cons, lcI]
    simp only [hW, h1, h2, s_ok]
    cases hb : b d with
    | true =>
      obtain ⟨E3, s, h5, h6, h7⟩ := h3 hb
      simp only [if_true, h5, h6, h7, s_ok]
      rw [if_pos (by omega), lcI_flt hW ds (acc ++ [f d]) (by simp; omega) fun x hx => h x (List.mem_cons_of_mem _ hx)]
      simp [List.filter_cons, hb]
    | false =>
      rw [if_neg (by simp), h4 hb, lcI_flt hW ds acc (by omega) fun x hx => h x (List.mem_cons_of_mem _ hx)]
      simp [List.filter_cons, hb]
/-- a comprehension -/
theorem lc_flt {Φ : Nat → M Sl} {C : Nat → D} {elt it : E} {tg : Tgt} {ifs : List E} {own : List Nat} {α : Type} (xs : List α) (g f : α → D) (b : α → Bool) {E E1 : SE} (W : SE)
    (hi : evI Φ C it E = .ok (xs.map g) E1) (hn : notOwn E1 own = true) (hW1 : wipeE E1 own = W) (hW : wipeE W own = W) (hB : backE E1 W own = E1) (hl : xs.length ≤ 1000000)
    (h : ∀ x ∈ xs, ∃ E1 E2, bindT tg (g x) W = some E1 ∧ lcI.allT (evTs Φ C ifs) E1 = .ok (b x) E2 ∧ (b x = true → ∃ E3 s, ev Φ C elt E2 = .ok s E3 ∧ s.d = f x ∧ wipeE E3 own = W) ∧ (b x = false → wipeE E2 own = W)) :
    ev Φ C (.lc elt tg it ifs own) E = .ok (.own (.lst ((xs.filter b).map f))) E1 := by
  rw [ev_lc, s_bind, hi, s_ok]
  rw [if_pos hn, hW1, lcI_flt hW xs [] (by rw [sizeLine_eq]; simp; omega) h]
  simp only [List.nil_append, hB]
theorem lc_all {Φ : Nat → M Sl} {C : Nat → D} {elt it : E} {tg : Tgt} {own : List Nat} {α : Type} (xs : List α) (g f : α → D) {E E1 : SE} (W : SE)
    (hi : evI Φ C it E = .ok (xs.map g) E1) (hn : notOwn E1 own = true) (hW1 : wipeE E1 own = W) (hW : wipeE W own = W) (hB : backE E1 W own = E1) (hl : xs.length ≤ 1000000)
    (h : ∀ x ∈ xs, ∃ E1 E3 s, bindT tg (g x) W = some E1 ∧ ev Φ C elt E1 = .ok s E3 ∧ s.d = f x ∧ wipeE E3 own = W) :
    ev Φ C (.lc elt tg it [] own) E = .ok (.own (.lst (xs.map f))) E1 := by
  have := lc_flt (Φ := Φ) (C := C) (elt := elt) (it := it) (tg := tg) (ifs := []) (own := own) xs g f (fun _ => true) W hi hn hW1 hW hB hl (fun x hx => by
    obtain ⟨E1, E3, s, h1, h2, h3, h4⟩ := h x hx
    exact ⟨E1, E1, h1, by simp [evTs, lcI.allT], fun _ => ⟨E3, s, h2, h3, h4⟩, fun z => by cases z⟩)
  rw [show xs.filter (fun _ => true) = xs from List.filter_eq_self.mpr fun _ _ => rfl] at this
  exact this
theorem max_ints {l : List Int} (h : l ≠ []) : biS .max [.lst (l.map D.int)] = some (vI (maxL l)) := by
  cases l with
  | nil => exact absurd rfl h
  | cons i r => simp only [biS, intsOf_ints]
theorem min_ints {l : List Int} (h : l ≠ []) : biS .min [.lst (l.map D.int)] = some (vI (minL l)) := by
  cases l with
  | nil => exact absurd rfl h
  | cons i r => simp only [biS, intsOf_ints]
theorem maxL_mx {l : List Int} (h : l ≠ []) : Mx (· ∈ l) (maxL l) := by
  cases l with
  | nil => exact absurd rfl h
  | cons i r => exact maxL_mem i r
theorem evI_callK (Φ : Nat → M Sl) (C : Nat → D) (f : Nat) (as : List E) : evI Φ C (.call f as) = M.bind (ev Φ C (.call f as)) fun s => M.opt (itemsD s.d) := by rw [evI] <;> first | rfl | (intros; rename_i z; cases z)
theorem ev_biK (Φ : Nat → M Sl) (C : Nat → D) (b : Bi) (as : List E) : ev Φ C (.bi b as) = M.bind (evA (opds Φ C as)) fun ds => M.opt (biS b ds) := by rw [ev]
def lastP (c : Cv) : Int × Int := c.getLastD (0, 0)
theorem atI_lastP {c : Cv} (h : c ≠ []) : atI (c.map prD) (-1) = some (prD (lastP c)) := by
  have : c.getLast? = some (lastP c) := by
    unfold lastP
    cases e : c.getLast? with
    | none => exact absurd (List.getLast?_eq_none_iff.mp e) h
    | some q => rw [List.getLastD_eq_getLast?, e]; rfl
  exact atI_last this
theorem lastP_mem {c : Cv} (h : c ≠ []) : lastP c ∈ c := by
  have : c.getLast? = some (lastP c) := by
    unfold lastP
    cases e : c.getLast? with
    | none => exact absurd (List.getLast?_eq_none_iff.mp e) h
    | some q => rw [List.getLastD_eq_getLast?, e]; rfl
  exact List.mem_of_getLast? this
def lbs (c : Cv) (s : Int × Int) : List Int := 0 :: (ticks c).map fun t => lateZ s (letZ c t) t
/-- told_late: none where there is no most -/
def lateO (c : Cv) (s : Int × Int) : Option Int := if letZ c 1 = 0 then some 0 else if s.1 = 0 ∨ s.1 < (lastP c).2 then none else some (maxL (lbs c s))
def optD : Option Int → D
  | none => .non
  | some i => .int i
theorem tick31 {c : Cv} (hc : Drawn c) {t : Int} (h : t ∈ ticks c) : 1 ≤ t ∧ t ≤ 61 := by
  have := (ticks_iff hc.2.2.2.1).mp h
  exact ⟨this.pos, this.le hc⟩
def ltE : E := .call 13 [(.var 1), (.call 12 [(.var 0), (.var 2)]), (.var 2)]
theorem lt15_ok {c : Cv} {s : Int × Int} (hc : Drawn c) (hs : Srv s) (h0 : 0 < s.1) : ev P15 CC (.lc ltE (.nm 2) (.call 14 [(.var 0)]) [] [2]) [.val (curveD c), .val (prD s), .no] = .ok (.own (.lst ((ticks c).map fun t => .int (lateZ s (letZ c t) t)))) [.val (curveD c), .val (prD s), .no] := by
  have q13 : P15 13 = F13 := rfl
  have q12 : P15 12 = F12 := rfl
  have q14 : P15 14 = F14 := rfl
  have e14 := ticks_of_ok hc
  have tl := ticks_len hc.2.1
  refine lc_all (ticks c) D.int _ [.val (curveD c), .val (prD s), .no] ?_ (by simp [notOwn]) (by simp [wipeE]) (by simp [wipeE]) (by simp [backE]) (by omega) fun t ht => ?_
  · rw [evI_callK]
    simp [ev, args, callS, evC, popS, q14, e14, putBack, intL, itemsD, Sl.d]
  · have tb := tick31 hc ht
    have t1 := told_at_ok hc.curve (t := t) (by omega)
    have t2 := late_by_ok (n := letZ c t) (t := t) hs h0
    refine ⟨[.val (curveD c), .val (prD s), .val (.int t)], [.val (curveD c), .val (prD s), .val (.int t)], vI (lateZ s (letZ c t) t), by simp [bindT], ?_, rfl, by simp [wipeE]⟩
    unfold ltE
    simp [ev, opd, args, callS, evC, popS, q13, q12, t1, t2, putBack, putBack_ex, vI, Sl.d]
def tooE (i j : Nat) : E := .cmp .Gt (.idx (.idx (.var i) (.neg (.int 1))) (.int 1)) (.idx (.var j) (.int 0))
theorem too_ev (Φ : Nat → M Sl) {c : Cv} {s : Int × Int} {i j : Nat} {E : SE} (hc : c ≠ []) (hi : E[i]? = some (.val (curveD c))) (hj : E[j]? = some (.val (prD s))) : ev Φ CC (tooE i j) E = .ok (vB (decide (s.1 < (lastP c).2))) E := by
  have al := atI_lastP hc
  have a1 : atI [D.int s.1, D.int s.2] 0 = some (.int s.1) := rfl
  have a2 : atI [D.int (lastP c).1, D.int (lastP c).2] 1 = some (.int (lastP c).2) := rfl
  unfold tooE
  simp only [prD, curveD] at al hi hj
  simp [ev, opd, slotAt, hi, hj, ixS, negS, al, a1, a2, cmpS, vI, vB, Sl.d]
theorem zero_ev (Φ : Nat → M Sl) {s : Int × Int} {j : Nat} {E : SE} (hj : E[j]? = some (.val (prD s))) : ev Φ CC (.cmp .Eq (.idx (.var j) (.int 0)) (.int 0)) E = .ok (vB (s.1 == 0)) E := by
  have a1 : atI [D.int s.1, D.int s.2] 0 = some (.int s.1) := rfl
  simp only [prD] at hj
  simp [ev, opd, slotAt, hj, ixS, a1, cmpS, eqD_int, vI, vB, Sl.d]
end Lw
end

section
set_option Elab.async false
set_option linter.all false
set_option maxRecDepth 100000
set_option maxHeartbeats 1000000
/-! J36: k84, told_late, greatest, late_most -/
namespace Lw
open PySem L2
theorem ev_lstK (Φ : Nat → M Sl) (C : Nat → D) (as : List E) : ev Φ C (.lst as) = M.bind (evD Φ C as) fun ds => if ds.length ≤ sizeLine then M.pure (.own (.lst ds)) else M.bad := by rw [ev]
theorem evD_int (Φ : Nat → M Sl) (C : Nat → D) (i : Int) (r : List E) : evD Φ C (.int i :: r) = M.bind (ev Φ C (.int i)) fun s => M.bind (evD Φ C r) fun ds => M.pure (s.d :: ds) := by rw [evD] <;> first | rfl | (intros; rename_i z; cases z)
theorem evD_star (Φ : Nat → M Sl) (C : Nat → D) (a : E) (r : List E) : evD Φ C (.star a :: r) = M.bind (ev Φ C a) fun s => match s with
    | .val (.tup xs) => M.bind (evD Φ C r) fun ds => M.pure (xs ++ ds)
    | .val (.lst xs) => M.bind (evD Φ C r) fun ds => M.pure (xs ++ ds)
    | .own (.lst xs) => M.bind (evD Φ C r) fun ds => M.pure (xs ++ ds)
    | _ => M.bad := by rw [evD] <;> rfl
/-- max([0, *[..]]) -/
theorem max0_ev {Φ : Nat → M Sl} {e : E} {E E1 : SE} {l : List Int} (h : ev Φ CC e E = .ok (.own (.lst (l.map D.int))) E1) (hl : l.length ≤ 1000000) : ev Φ CC (.bi .max [.lst [.int 0, .star e]]) E = .ok (vI (maxL (0 :: l))) E1 := by
  have mx := max_ints (l := 0 :: l) (by simp)
  simp only [List.map_cons] at mx
  have e0 : evD Φ CC [.int 0, .star e] E = .ok (D.int 0 :: l.map D.int) E1 := by
    rw [evD_int, s_bind]
    simp only [ev, s_pure, s_ok]
    rw [s_bind, evD_star, s_bind, h, s_ok]
    simp only [s_bind, evD, s_pure, s_ok, List.append_nil, vI, Sl.d]
  have e1 : ev Φ CC (.lst [.int 0, .star e]) E = .ok (.own (.lst (D.int 0 :: l.map D.int))) E1 := by
    rw [ev_lstK, s_bind, e0, s_ok, if_pos (by rw [sizeLine_eq]; simp; omega), s_pure]
  rw [ev_biK, opds1, opd_lst, s_bind, s_evA2, e1]
  simp [opds, Sl.d, mx]
theorem told_late_ok {c : Cv} {s : Int × Int} (hc : Drawn c) (hs : Srv s) : F15 [.val (curveD c), .val (prD s)] = .ok (.val (optD (lateO c s))) [.val (curveD c), .val (prD s)] := by
  have q12 : P15 12 = F12 := rfl
  have t1 := told_at_ok hc.curve (t := 1) (by omega)
  have z0 := zero_ev P15 (s := s) (j := 1) (E := [.val (curveD c), .val (prD s), .no]) rfl
  have z1 := too_ev P15 (c := c) (s := s) (i := 0) (j := 1) (E := [.val (curveD c), .val (prD s), .no]) hc.1 rfl rfl
  have b15 : B15 = [.ite (.cmp .Eq (.call 12 [(.var 0), (.int 1)]) (.int 0)) [.ret (.int 0)] [], .ite (.orV (.cmp .Eq (.idx (.var 1) (.int 0)) (.int 0)) (tooE 0 1)) [.ret .non] [], .ret (.bi .max [(.lst [(.int 0), (.star (.lc ltE (.nm 2) (.call 14 [(.var 0)]) [] [2]))])])] := rfl
  have r1 : ex P15 CC (.ite (.cmp .Eq (.call 12 [(.var 0), (.int 1)]) (.int 0)) [.ret (.int 0)] []) [.val (curveD c), .val (prD s), .no] = if letZ c 1 = 0 then .rt (vI 0) [.val (curveD c), .val (prD s), .no] else .nx [.val (curveD c), .val (prD s), .no] := by
    by_cases h1 : letZ c 1 = 0 <;> simp [exs, ex, ev, evT, opds, opd, args, callS, evC, popS, q12, t1, h1, cmpS, eqD_int, truthD, putBack, putBack_ex, vI, vB, Sl.d, SR.of, SR.then]
  have c2 : evT P15 CC (.orV (.cmp .Eq (.idx (.var 1) (.int 0)) (.int 0)) (tooE 0 1)) [.val (curveD c), .val (prD s), .no] = .ok (decide (s.1 = 0 ∨ s.1 < (lastP c).2)) [.val (curveD c), .val (prD s), .no] := by
    rw [evT_or, s_bind, evT_cmpK, s_bind, opd_cmp, s_evA2, z0]
    unfold tooE at z1 ⊢
    by_cases h3 : s.1 = 0
    · simp [h3, vB, Sl.d, truthD]
    · simp [h3, vB, Sl.d, truthD]
      rw [evT_cmpK, s_bind, opd_cmp, s_evA2, z1]
      simp [vB, Sl.d, truthD]
  unfold F15 fnS
  rw [b15]
  show (match exs P15 CC _ [.val (curveD c), .val (prD s), .no] with | .rt s E => R.ok s ((wipeE E []).take 2) | .nx E => .ok (.val .non) ((wipeE E []).take 2) | .exc c x E => .exc c x ((wipeE E []).take 2) | _ => .bad) = _
  unfold lateO
  rw [x_exs1, r1]
  by_cases h1 : letZ c 1 = 0
  · rw [if_pos h1, if_pos h1]; simp [SR.then, wipeE, vI, optD]
  · rw [if_neg h1, if_neg h1]
    simp only [SR.then]
    rw [x_exs1, x_ite, c2]
    by_cases h2 : s.1 = 0 ∨ s.1 < (lastP c).2
    · rw [if_pos h2, decide_eq_true h2]
      simp [SR.of, SR.then, exs, ex, ev, wipeE, optD]
    · rw [if_neg h2, decide_eq_false h2]
      have lc := lt15_ok hc hs (by have := hs.r0; have : s.1 ≠ 0 := fun z => h2 (.inl z); omega)
      have tl := ticks_len hc.2.1
      have mx := max0_ev (Φ := P15) (l := (ticks c).map fun t => lateZ s (letZ c t) t) (by rw [lc, List.map_map]; rfl) (by simp; omega)
      simp only [SR.of, Bool.false_eq_true, if_false, x_exs0, SR.then]
      rw [x_exs1, x_ret, mx]
      simp [SR.of, SR.then, wipeE, vI, optD, lbs]
/-! ### the fullest traffic -/
def fullN (c : Cv) (n : Nat) : List Int := (List.range n).map fun (i : Nat) => letZ c ((i : Int) + 1) - letZ c (i : Int)
theorem rng0 (n : Nat) : rngD 0 (n : Int) = (List.range n).map fun (i : Nat) => D.int (i : Int) := by
  unfold rngD
  rw [show ((n : Int) - 0).toNat = n by omega]
  exact List.map_congr_left fun i _ => by simp
theorem rng1_ev {Φ : Nat → M Sl} {C : Nat → D} {e : E} {E E1 : SE} {n : Int} (h : ev Φ C e E = .ok (.val (.int n)) E1) (h0 : -1000000 ≤ n) (h1 : n ≤ 1000000) : evI Φ C (.rng1 e) E = .ok (rngD 0 n) E1 := by
  have hm' : (if -(2 : Int) ^ 62 ≤ n ∧ n < 2 ^ 62 then M.pure (rngD 0 n) else M.bad) = M.pure (rngD 0 n) := if_pos (by constructor <;> omega)
  rw [evI, s_bind, h, s_ok]
  dsimp only
  rw [hm', s_pure]
theorem rng2_ev {Φ : Nat → M Sl} {C : Nat → D} {a b : E} {E E1 : SE} {m n : Int} (h : evA [opd Φ C a, opd Φ C b] E = .ok [.int m, .int n] E1) (h0 : -1000000 ≤ m ∧ m ≤ 1000000) (h1 : -1000000 ≤ n ∧ n ≤ 1000000) : evI Φ C (.rng2 a b) E = .ok (rngD m n) E1 := by
  have hm' : (if (-(2 : Int) ^ 62 ≤ m ∧ m < 2 ^ 62) ∧ (-(2 : Int) ^ 62 ≤ n ∧ n < 2 ^ 62) then M.pure (rngD m n) else M.bad) = M.pure (rngD m n) := if_pos (by refine ⟨⟨?_, ?_⟩, ?_, ?_⟩ <;> omega)
  rw [evI, s_bind, h, s_ok]
  dsimp only
  rw [hm', s_pure]
theorem full_gen (Φ : Nat → M Sl) (k : Nat) (G : M Sl) {c : Cv} {n : Nat} (hG : ∀ t : Int, t < 2 ^ 31 → G [.val (curveD c), .val (.int t)] = .ok (vI (letZ c t)) [.val (curveD c), .val (.int t)]) (hk : Φ k = G) (hn : n ≤ 100000) :
    fnS Φ CC 3 [] [.ret (.ty .tuple [(.lc (.bop .Sub (.call k [(.var 0), (.bop .Add (.var 2) (.int 1))]) (.call k [(.var 0), (.var 2)])) (.nm 2) (.rng1 (.fz 1)) [] [2])])] [.val (curveD c), .val (.int n)] = .ok (.val (trafD (fullN c n))) [.val (curveD c), .val (.int n)] := by
  have lc := lc_all (Φ := Φ) (C := CC) (elt := .bop .Sub (.call k [(.var 0), (.bop .Add (.var 2) (.int 1))]) (.call k [(.var 0), (.var 2)])) (it := .rng1 (.fz 1)) (tg := .nm 2) (own := [2]) (List.range n) (fun (i : Nat) => D.int (i : Int)) (fun (i : Nat) => .int (letZ c ((i : Int) + 1) - letZ c (i : Int)))
    (E := [.val (curveD c), .val (.int n), .no]) (E1 := [.val (curveD c), .val (.int n), .no]) [.val (curveD c), .val (.int n), .no] (by
      rw [rng1_ev (n := (n : Int)) (E1 := [.val (curveD c), .val (.int n), .no]) (by simp [ev, fzS]) (by omega) (by omega), rng0]) (by simp [notOwn]) (by simp [wipeE]) (by simp [wipeE]) (by simp [backE]) (by simp; omega) (fun i hi => by
      have hi := List.mem_range.mp hi
      have l1 := hG ((i : Int) + 1) (by omega)
      have l2 := hG (i : Int) (by omega)
      refine ⟨[.val (curveD c), .val (.int n), .val (.int i)], [.val (curveD c), .val (.int n), .val (.int i)], vI (letZ c ((i : Int) + 1) - letZ c (i : Int)), by simp [bindT], ?_, rfl, by simp [wipeE]⟩
      simp [ev, opd, args, callS, evC, popS, hk, l1, l2, putBack, putBack_ex, bopS, vI, Sl.d])
  have ft : D.tup ((List.range n).map fun (i : Nat) => D.int (letZ c ((i : Int) + 1) - letZ c (i : Int))) = trafD (fullN c n) := by
    simp only [trafD, fullN, List.map_map]; rfl
  simp only [fnS, List.length_cons, List.length_nil, List.replicate, List.append, List.cons_append, List.nil_append, x_exs1, x_exs0, x_ret, ev_ty, opds1, opd_lc, s_bind, s_evA2]
  simp [lc, opds, tyS, Sl.d, SR.of, SR.then, ft, wipeE]
theorem greatest_ok {c : Cv} {n : Nat} (hc : Curve c) (hn : n ≤ 100000) : F16 [.val (curveD c), .val (.int n)] = .ok (.val (trafD (fullN c n))) [.val (curveD c), .val (.int n)] :=
  full_gen P16 12 F12 (fun t ht => told_at_ok hc ht) rfl hn
theorem full38_ok {c : Cv} {n : Nat} (hc : Curve c) (hn : n ≤ 100000) : F38 [.val (curveD c), .val (.int n)] = .ok (.val (trafD (fullN c n))) [.val (curveD c), .val (.int n)] :=
  full_gen P38 4 F4 (fun t ht => let_ok hc ht) rfl hn
end Lw
end

section
set_option Elab.async false
set_option linter.all false
set_option maxRecDepth 100000
set_option maxHeartbeats 1000000
/-! J37: k84, the most: over the ticks where lines meet, or over 80 -/
namespace Lw
open PySem L2
theorem Mx.step {P : Int → Prop} {a y : Int} (h : Mx P a) : Mx (fun x => P x ∨ x = y) (if a < y then y else a) := by
  split
  · exact ⟨.inr rfl, fun x hx => by
      rcases hx with hx | rfl
      · have := h.2 x hx; omega
      · omega⟩
  · exact ⟨.inl h.1, fun x hx => by
      rcases hx with hx | rfl
      · exact h.2 x hx
      · omega⟩
theorem Mx.congr {P Q : Int → Prop} {a : Int} (h : Mx P a) (e : ∀ x, P x ↔ Q x) : Mx Q a := ⟨(e a).mp h.1, fun x hx => h.2 x ((e x).mpr hx)⟩
def LateP (c : Cv) (s : Int × Int) (n : Nat) (x : Int) : Prop := x = 0 ∨ ∃ t : Nat, 1 ≤ t ∧ t ≤ n ∧ x = lateZ s (letZ c t) t
def HeldP (c : Cv) (s : Int × Int) (n : Nat) (x : Int) : Prop := x = 0 ∨ ∃ t : Nat, 1 ≤ t ∧ t ≤ n ∧ x = letZ c t - servZ s ((t : Int) - 1)
theorem LateP.succ {c : Cv} {s : Int × Int} {n : Nat} {x : Int} : (LateP c s n x ∨ x = lateZ s (letZ c (1 + (n : Int))) (1 + (n : Int))) ↔ LateP c s (n + 1) x := by
  have e : (1 + (n : Int)) = ((n + 1 : Nat) : Int) := by omega
  rw [e]
  constructor
  · rintro ((h | ⟨t, h1, h2, h3⟩) | h)
    · exact .inl h
    · exact .inr ⟨t, h1, by omega, h3⟩
    · exact .inr ⟨n + 1, by omega, by omega, h⟩
  · rintro (h | ⟨t, h1, h2, h3⟩)
    · exact .inl (.inl h)
    · rcases Nat.lt_or_ge t (n + 1) with z | z
      · exact .inl (.inr ⟨t, h1, by omega, h3⟩)
      · obtain rfl : t = n + 1 := by omega
        exact .inr h3
theorem HeldP.succ {c : Cv} {s : Int × Int} {n : Nat} {x : Int} : (HeldP c s n x ∨ x = letZ c (1 + (n : Int)) - servZ s (1 + (n : Int) - 1)) ↔ HeldP c s (n + 1) x := by
  have e : (1 + (n : Int)) = ((n + 1 : Nat) : Int) := by omega
  rw [e]
  constructor
  · rintro ((h | ⟨t, h1, h2, h3⟩) | h)
    · exact .inl h
    · exact .inr ⟨t, h1, by omega, h3⟩
    · exact .inr ⟨n + 1, by omega, by omega, h⟩
  · rintro (h | ⟨t, h1, h2, h3⟩)
    · exact .inl (.inl h)
    · rcases Nat.lt_or_ge t (n + 1) with z | z
      · exact .inl (.inr ⟨t, h1, by omega, h3⟩)
      · obtain rfl : t = n + 1 := by omega
        exact .inr h3
theorem last_low {c : Cv} (hne : c ≠ []) (hd : Down c) : ∀ p ∈ c, (lastP c).2 ≤ p.2 := fun p hp => by
  have h := List.getLast?_eq_some_getLast hne
  have e : lastP c = c.getLast hne := by unfold lastP; rw [List.getLastD_eq_getLast?, h]; rfl
  rw [e]
  have := down_last hd h p hp
  exact this.2
theorem letZ_mono {c : Cv} (hc : Curve c) {a b : Int} (h1 : 1 ≤ a) (h2 : a ≤ b) : letZ c a ≤ letZ c b := by
  obtain ⟨p, hp, e⟩ := letZ_mem hc.ne (m := b) (by omega)
  have l := letZ_le (c := c) (m := a) (by omega) hp
  have := Int.mul_le_mul_of_nonneg_left h2 (hc.small p hp).2.1
  omega
theorem letZ_pos {c : Cv} (hc : Curve c) {a : Int} : 0 ≤ letZ c a := by
  by_cases h : 0 < a
  · refine le_letZ hc.ne h fun p hp => ?_
    have := hc.small p hp
    have := Int.mul_nonneg this.2.1 (show 0 ≤ a by omega)
    omega
  · unfold letZ; rw [if_neg h]; omega
theorem servZ_pos {s : Int × Int} (h : 0 ≤ s.1) (t : Int) : 0 ≤ servZ s t := by
  unfold servZ
  refine Int.mul_nonneg h ?_
  split <;> omega
theorem late_peak {c : Cv} {s : Int × Int} (hc : Drawn c) (h0 : 0 < s.1) (hl : (lastP c).2 ≤ s.1) {t : Int} (ht : 1 ≤ t) : ∃ x, Tick c x ∧ lateZ s (letZ c t) t ≤ lateZ s (letZ c x) x := by
  obtain ⟨T, k1, k2, up, dn⟩ := peak hc.1 (R := s.1) ⟨lastP c, lastP_mem hc.1, hl⟩
  rcases Int.lt_or_le T t with h | h
  · refine ⟨_, k2, lateZ_cmp h0 ?_⟩
    have p := mx1_pos (T + 1)
    have b : mx1 (T + 1) ≤ t ∧ T < mx1 (T + 1) := by unfold mx1; split <;> omega
    have := dn (mx1 (T + 1)) t p b.2 b.1
    rw [Int.mul_sub] at this ⊢
    omega
  · refine ⟨_, k1, lateZ_cmp h0 ?_⟩
    have e : mx1 T = T := by unfold mx1; split <;> omega
    rw [e]
    exact up t T ht h (Int.le_refl _)
def heldL (c : Cv) (s : Int × Int) : List Int := (ticks c ++ [s.2 + 1, s.2 + 2]).map fun t => letZ c t - servZ s (t - 1)
def heldO (c : Cv) (s : Int × Int) : Option Int := if s.1 < (lastP c).2 then none else some (maxL (heldL c s))
theorem held_peak {c : Cv} {s : Int × Int} (hc : Drawn c) (hs : Srv s) (hl : (lastP c).2 ≤ s.1) {t : Int} (ht : 1 ≤ t) : ∃ x, (Tick c x ∨ x = s.2 + 1) ∧ letZ c t - servZ s (t - 1) ≤ letZ c x - servZ s (x - 1) := by
  have hl0 := hs.l0
  rcases Int.lt_or_le (s.2 + 1) t with h | h
  · have e : servZ s (t - 1) = s.1 * (t - 1 - s.2) := by unfold servZ; rw [if_pos (by omega)]
    obtain ⟨T, k1, k2, up, dn⟩ := peak hc.1 (R := s.1) ⟨lastP c, lastP_mem hc.1, hl⟩
    rcases Int.lt_or_le T t with hT | hT
    · have p := mx1_pos (T + 1)
      have b : mx1 (T + 1) ≤ t ∧ T < mx1 (T + 1) := by unfold mx1; split <;> omega
      rcases Int.lt_or_le (mx1 (T + 1)) (s.2 + 1) with q | q
      · have d := dn (s.2 + 1) t (by omega) (by omega) (by omega)
        refine ⟨s.2 + 1, .inr rfl, ?_⟩
        have e2 : servZ s (s.2 + 1 - 1) = 0 := by unfold servZ; rw [if_neg (by omega), Int.mul_zero]
        rw [e, e2]
        have : s.1 * (t - 1 - s.2) = s.1 * (t - (s.2 + 1)) := by congr 1; omega
        omega
      · have d := dn (mx1 (T + 1)) t p b.2 b.1
        refine ⟨_, .inl k2, ?_⟩
        have e2 : servZ s (mx1 (T + 1) - 1) = s.1 * (mx1 (T + 1) - 1 - s.2) := by
          unfold servZ
          split
          · rfl
          · rw [show mx1 (T + 1) - 1 - s.2 = 0 by omega]
        rw [e, e2]
        simp only [Int.mul_sub] at d ⊢
        omega
    · have eT : mx1 T = T := by unfold mx1; split <;> omega
      have u := up t T ht hT (Int.le_refl _)
      refine ⟨_, .inl k1, ?_⟩
      rw [eT]
      have e2 : servZ s (T - 1) = s.1 * (T - 1 - s.2) := by unfold servZ; rw [if_pos (by omega)]
      rw [e, e2]
      simp only [Int.mul_sub] at u ⊢
      omega
  · refine ⟨s.2 + 1, .inr rfl, ?_⟩
    have e1 : servZ s (t - 1) = 0 := by unfold servZ; rw [if_neg (by omega), Int.mul_zero]
    have e2 : servZ s (s.2 + 1 - 1) = 0 := by unfold servZ; rw [if_neg (by omega), Int.mul_zero]
    rw [e1, e2]
    have := letZ_mono hc.curve ht h
    omega
theorem late_eq {c : Cv} {s : Int × Int} (hc : Drawn c) (h0 : 0 < s.1) (hl : (lastP c).2 ≤ s.1) {a : Int} (h : Mx (LateP c s 80) a) : a = maxL (lbs c s) := by
  refine h.uniq (maxL_mx (l := lbs c s) (by simp [lbs])) (fun x hx => ?_) fun x hx => ?_
  · rcases hx with rfl | ⟨t, h1, h2, rfl⟩
    · exact ⟨0, by simp [lbs], Int.le_refl _⟩
    · obtain ⟨y, hy, q⟩ := late_peak hc h0 hl (t := t) (by omega)
      exact ⟨_, List.mem_cons_of_mem _ (List.mem_map.mpr ⟨y, (ticks_iff hc.2.2.2.1).mpr hy, rfl⟩), q⟩
  · rcases List.mem_cons.mp hx with rfl | hx
    · exact ⟨0, .inl rfl, Int.le_refl _⟩
    · obtain ⟨t, ht, rfl⟩ := List.mem_map.mp hx
      have b := tick31 hc ht
      exact ⟨_, .inr ⟨t.toNat, by omega, by omega, rfl⟩, by rw [show ((t.toNat : Nat) : Int) = t by omega]; exact Int.le_refl _⟩
theorem held_eq {c : Cv} {s : Int × Int} (hc : Drawn c) (hs : SrvD s) (hl : (lastP c).2 ≤ s.1) {a : Int} (h : Mx (HeldP c s 80) a) : a = maxL (heldL c s) := by
  have hl0 := hs.l0
  have hl1 := hs.l1
  refine h.uniq (maxL_mx (l := heldL c s) (by simp [heldL])) (fun x hx => ?_) fun x hx => ?_
  · rcases hx with rfl | ⟨t, h1, h2, rfl⟩
    · refine ⟨letZ c 1 - servZ s (1 - 1), List.mem_map.mpr ⟨1, List.mem_append_left _ ((ticks_iff hc.2.2.2.1).mpr (.inl rfl)), rfl⟩, ?_⟩
      have e : servZ s (1 - 1) = 0 := by unfold servZ; rw [if_neg (by omega), Int.mul_zero]
      rw [e]
      have := letZ_pos hc.curve (a := 1); omega
    · obtain ⟨y, hy, q⟩ := held_peak hc hs.srv hl (t := t) (by omega)
      refine ⟨_, List.mem_map.mpr ⟨y, ?_, rfl⟩, q⟩
      rcases hy with hy | rfl
      · exact List.mem_append_left _ ((ticks_iff hc.2.2.2.1).mpr hy)
      · simp
  · obtain ⟨t, ht, rfl⟩ := List.mem_map.mp hx
    have b : 1 ≤ t ∧ t ≤ 80 := by
      rcases List.mem_append.mp ht with ht | ht
      · have := tick31 hc ht; omega
      · simp at ht; omega
    exact ⟨_, .inr ⟨t.toNat, by omega, by omega, rfl⟩, by rw [show ((t.toNat : Nat) : Int) = t by omega]; exact Int.le_refl _⟩
/-- where nothing is let in -/
theorem letZ_none {c : Cv} (hc : Curve c) (h : letZ c 1 = 0) : (lastP c).2 ≤ 0 ∧ ∀ t, letZ c t = 0 := by
  obtain ⟨p, hp, e⟩ := letZ_mem hc.ne (m := 1) (by omega)
  have b := hc.small p hp
  have p1 : p.1 = 0 := by omega
  have p2 : p.2 = 0 := by omega
  refine ⟨by have := last_low hc.ne hc.down p hp; omega, fun t => ?_⟩
  have := letZ_pos hc (a := t)
  by_cases ht : 0 < t
  · have := letZ_le (c := c) (m := t) ht hp
    rw [p1, p2, Int.zero_mul] at this
    omega
  · unfold letZ; rw [if_neg ht]
theorem held_none {c : Cv} {s : Int × Int} (hc : Drawn c) (hs : SrvD s) (h : letZ c 1 = 0) : heldO c s = some 0 := by
  obtain ⟨q1, q2⟩ := letZ_none hc.curve h
  have r0 := hs.r0
  have l0 := hs.l0
  unfold heldO
  rw [if_neg (by omega)]
  congr 1
  refine (maxL_mx (l := heldL c s) (by simp [heldL])).uniq (Q := fun x => x = 0) ⟨rfl, fun x hx => by omega⟩ (fun x hx => ?_) fun x hx => ?_
  · obtain ⟨t, ht, rfl⟩ := List.mem_map.mp hx
    refine ⟨0, rfl, ?_⟩
    rw [q2]
    have := servZ_pos r0 (t - 1); omega
  · subst hx
    refine ⟨letZ c 1 - servZ s (1 - 1), List.mem_map.mpr ⟨1, List.mem_append_left _ ((ticks_iff hc.2.2.2.1).mpr (.inl rfl)), rfl⟩, ?_⟩
    have e : servZ s (1 - 1) = 0 := by unfold servZ; rw [if_neg (by omega), Int.mul_zero]
    rw [e, q2]; omega
end Lw
end

section
set_option Elab.async false
set_option linter.all false
set_option maxRecDepth 100000
set_option maxHeartbeats 1000000
/-! J38: k84, _law_most, held_most -/
namespace Lw
open PySem L2
def m6 : S := .set 3 (.bi .max [(.var 3), (.bop .Sub (.call 4 [(.var 0), (.var 4)]) (.call 5 [(.var 1), (.bop .Sub (.var 4) (.int 1))]))])
def l6 : S := .ite (.cmp .Gt (.idx (.var 1) (.int 0)) (.int 0)) [.set 2 (.bi .max [(.var 2), (.bop .Sub (.bop .Sub (.idx (.var 1) (.int 1)) (.bop .FloorDiv (.neg (.call 4 [(.var 0), (.var 4)])) (.idx (.var 1) (.int 0)))) (.var 4))])] []
def f6 : S := .for_ (.nm 4) (.rng2 (.int 1) (.int 81)) [m6, l6]
theorem b6 : B6 = [.ite (.cmp .Eq (.call 4 [(.var 0), (.int 1)]) (.int 0)) [.ret (.tup [(.int 0), (.int 0)])] [], .setT (.tup [(.nm 2), (.nm 3)]) (.tup [(.int 0), (.int 0)]), f6, .set 5 (tooE 0 1), .ret (.tup [(.ite (.orV (.var 5) (.cmp .Eq (.idx (.var 1) (.int 0)) (.int 0))) .non (.fz 2)), (.ite (.var 5) .non (.fz 3))])] := rfl
theorem m6_ok {c : Cv} {s : Int × Int} {b t : Int} {s2 s5 : Sl} (hc : Curve c) (hs : Srv s) (h1 : 1 ≤ t) (h2 : t ≤ 100) : ex P6 CC m6 [.val (curveD c), .val (prD s), s2, .val (.int b), .val (.int t), s5] = .nx [.val (curveD c), .val (prD s), s2, .val (.int (if b < letZ c t - servZ s (t - 1) then letZ c t - servZ s (t - 1) else b)), .val (.int t), s5] := by
  have q4 : P6 4 = F4 := rfl
  have q5 : P6 5 = F5 := rfl
  have t1 := let_ok (t := t) hc (by omega)
  have t2 := serv_ok (t := t - 1) hs (by omega)
  unfold m6
  simp [ex, ev, opds, opd, args, callS, evC, popS, q4, q5, t1, t2, biS, bopS, putBack, putBack_ex, putS, vI, Sl.d, SR.of]
theorem l6_ok {c : Cv} {s : Int × Int} {a t : Int} {s3 s5 : Sl} (hc : Curve c) (hs : Srv s) (h1 : 1 ≤ t) (h2 : t ≤ 100) : ex P6 CC l6 [.val (curveD c), .val (prD s), .val (.int a), s3, .val (.int t), s5] = .nx [.val (curveD c), .val (prD s), .val (.int (if 0 < s.1 then (if a < lateZ s (letZ c t) t then lateZ s (letZ c t) t else a) else a)), s3, .val (.int t), s5] := by
  have q4 : P6 4 = F4 := rfl
  have t1 := let_ok (t := t) hc (by omega)
  have r1 := hs.r1
  have r0 := hs.r0
  have a1 : atI [D.int s.1, D.int s.2] 0 = some (.int s.1) := rfl
  have a2 : atI [D.int s.1, D.int s.2] 1 = some (.int s.2) := rfl
  have lg : s.1.natAbs.log2 < 9000 := Nat.lt_of_lt_of_le (log_lt (k := 10) (by decide) (by omega)) (by decide)
  have el : s.2 - -letZ c t / s.1 - t = lateZ s (letZ c t) t := by unfold lateZ cdiv; omega
  unfold l6 prD
  by_cases h0 : 0 < s.1
  · simp [ex, exs, ev, evT, opds, opd, args, callS, evC, popS, q4, t1, ixS, a1, a2, h0, lg, biS, bopS, negS, el, cmpS, truthD, putBack, putBack_ex, putS, vI, vB, Sl.d, SR.of, SR.then]
  · simp [ex, exs, ev, evT, opds, opd, args, ixS, a1, a2, h0, cmpS, truthD, vI, vB, Sl.d, SR.of, SR.then]
theorem f6_ok {c : Cv} {s : Int × Int} {s5 : Sl} (hc : Curve c) (hs : Srv s) : ∃ a b s4, (0 < s.1 → Mx (LateP c s 80) a) ∧ Mx (HeldP c s 80) b ∧ ex P6 CC f6 [.val (curveD c), .val (prD s), .val (.int 0), .val (.int 0), .no, s5] = .nx [.val (curveD c), .val (prD s), .val (.int a), .val (.int b), s4, s5] := by
  have il := forI_ind (bt := bindT (.nm 4)) (b := exs P6 CC [m6, l6]) (fun i E => ∃ a b s4, (0 < s.1 → Mx (LateP c s i) a) ∧ Mx (HeldP c s i) b ∧ E = [.val (curveD c), .val (prD s), .val (.int a), .val (.int b), s4, s5])
    (fun R => ∃ a b s4, (0 < s.1 → Mx (LateP c s 80) a) ∧ Mx (HeldP c s 80) b ∧ R = .nx [.val (curveD c), .val (prD s), .val (.int a), .val (.int b), s4, s5]) (rngD 1 81)
    (fun i E d hd ⟨a, b, s4, ha, hb, eE⟩ => by
      subst eE
      obtain ⟨rfl, hi⟩ := rng2_get hd
      refine ⟨[.val (curveD c), .val (prD s), .val (.int a), .val (.int b), .val (.int (1 + i)), s5], by simp [bindT], ?_⟩
      rw [x_exs1, m6_ok hc hs (by omega) (by omega)]
      simp only [SR.then]
      rw [x_exs1, l6_ok hc hs (by omega) (by omega)]
      simp only [SR.then, x_exs0]
      refine ⟨_, _, _, fun h => ?_, ?_, rfl⟩
      · rw [if_pos h]
        exact (Mx.step (ha h)).congr fun x => LateP.succ
      · exact (Mx.step hb).congr fun x => HeldP.succ)
    (fun E ⟨a, b, s4, ha, hb, eE⟩ => by
      subst eE
      have e : (rngD 1 81).length = 80 := by rw [rng_len2]; rfl
      rw [e] at ha hb
      exact ⟨a, b, s4, ha, hb, rfl⟩)
    [.val (curveD c), .val (prD s), .val (.int 0), .val (.int 0), .no, s5] ⟨0, 0, .no, fun _ => ⟨.inl rfl, fun x hx => by
      rcases hx with rfl | ⟨t, h1, h2, _⟩ <;> omega⟩, ⟨.inl rfl, fun x hx => by
      rcases hx with rfl | ⟨t, h1, h2, _⟩ <;> omega⟩, rfl⟩
  obtain ⟨a, b, s4, ha, hb, e⟩ := il
  refine ⟨a, b, s4, ha, hb, ?_⟩
  unfold f6
  rw [x_for, rng2_ev (m := 1) (n := 81) (E1 := [.val (curveD c), .val (prD s), .val (.int 0), .val (.int 0), .no, s5]) (by simp [opd, ev, vI, Sl.d]) (by omega) (by omega)]
  exact e
theorem law_most_ok {c : Cv} {s : Int × Int} (hc : Drawn c) (hs : SrvD s) : F6 [.val (curveD c), .val (prD s)] = .ok (.val (.tup [optD (lateO c s), optD (heldO c s)])) [.val (curveD c), .val (prD s)] := by
  have q4 : P6 4 = F4 := rfl
  have t1 := let_ok (t := 1) hc.curve (by omega)
  have r1 : ex P6 CC (.ite (.cmp .Eq (.call 4 [(.var 0), (.int 1)]) (.int 0)) [.ret (.tup [(.int 0), (.int 0)])] []) [.val (curveD c), .val (prD s), .no, .no, .no, .no] = if letZ c 1 = 0 then .rt (.val (.tup [.int 0, .int 0])) [.val (curveD c), .val (prD s), .no, .no, .no, .no] else .nx [.val (curveD c), .val (prD s), .no, .no, .no, .no] := by
    by_cases h1 : letZ c 1 = 0 <;> simp [exs, ex, ev, evT, evD, opds, opd, args, callS, evC, popS, q4, t1, h1, cmpS, eqD_int, truthD, putBack, putBack_ex, vI, vB, Sl.d, sizeLine_eq, SR.of, SR.then]
  have r2 : ex P6 CC (.setT (.tup [(.nm 2), (.nm 3)]) (.tup [(.int 0), (.int 0)])) [.val (curveD c), .val (prD s), .no, .no, .no, .no] = .nx [.val (curveD c), .val (prD s), .val (.int 0), .val (.int 0), .no, .no] := by
    simp [ex, ev, evD, bindT, bindTs, vI, Sl.d, sizeLine_eq, SR.of]
  unfold F6 fnS
  rw [b6]
  show (match exs P6 CC _ [.val (curveD c), .val (prD s), .no, .no, .no, .no] with | .rt s E => R.ok s ((wipeE E []).take 2) | .nx E => .ok (.val .non) ((wipeE E []).take 2) | .exc c x E => .exc c x ((wipeE E []).take 2) | _ => .bad) = _
  rw [x_exs1, r1]
  by_cases h1 : letZ c 1 = 0
  · rw [if_pos h1, held_none hc hs h1]
    simp [SR.then, wipeE, lateO, h1, optD]
  · rw [if_neg h1]
    obtain ⟨a, b, s4, ha, hb, e⟩ := f6_ok (s5 := .no) hc.curve hs.srv
    have z1 := too_ev P6 (c := c) (s := s) (i := 0) (j := 1) (E := [.val (curveD c), .val (prD s), .val (.int a), .val (.int b), s4, .no]) hc.1 rfl rfl
    simp only [SR.then]
    rw [x_exs1, r2]
    simp only [SR.then]
    rw [x_exs1, e]
    simp only [SR.then]
    rw [x_exs1, x_set, z1]
    have a1 : atI [D.int s.1, D.int s.2] 0 = some (.int s.1) := rfl
    have r0 := hs.r0
    by_cases h3 : s.1 < (lastP c).2
    · have e1 : lateO c s = none := by unfold lateO; rw [if_neg h1, if_pos (.inr h3)]
      have e2 : heldO c s = none := by unfold heldO; rw [if_pos h3]
      rw [e1, e2]
      simp [SR.of, SR.then, putS, exs, ex, ev, evT, evD, opd, h3, vB, truthD, Sl.d, sizeLine_eq, wipeE, optD]
    · have e2 : heldO c s = some b := by unfold heldO; rw [if_neg h3, held_eq hc hs (by omega) hb]
      by_cases h4 : s.1 = 0
      · have e1 : lateO c s = none := by unfold lateO; rw [if_neg h1, if_pos (.inl h4)]
        rw [e1, e2]
        simp only [prD]
        have h5 : ¬ (0 < (lastP c).2) := by omega
        have a0 : atI [D.int 0, D.int s.2] 0 = some (.int 0) := rfl
        simp [SR.of, SR.then, putS, exs, ex, ev, evT, evD, opd, h4, h5, ixS, a0, cmpS, eqD_int, fzS, vB, vI, truthD, Sl.d, sizeLine_eq, wipeE, optD]
      · have e1 : lateO c s = some a := by
          unfold lateO
          rw [if_neg h1, if_neg (fun z => z.elim h4 h3), late_eq hc (by omega) (by omega) (ha (by omega))]
        rw [e1, e2]
        simp only [prD]
        simp [SR.of, SR.then, putS, exs, ex, ev, evT, evD, opd, h3, h4, ixS, a1, cmpS, eqD_int, fzS, vB, vI, truthD, Sl.d, sizeLine_eq, wipeE, optD]
/-! ### held_most -/
def some37 : S := .set 2 (.lst [(.star (.call 14 [(.var 0)])), (.bop .Add (.idx (.var 1) (.int 1)) (.int 1)), (.bop .Add (.idx (.var 1) (.int 1)) (.int 2))])
def lc37 : E := .lc (.bop .Sub (.call 12 [(.var 0), (.var 3)]) (.call 27 [(.var 1), (.bop .Sub (.var 3) (.int 1))])) (.nm 3) (.fz 2) [] [3]
theorem held_most_ok {c : Cv} {s : Int × Int} (hc : Drawn c) (hs : SrvD s) : F37 [.val (curveD c), .val (prD s)] = .ok (.val (optD (heldO c s))) [.val (curveD c), .val (prD s)] := by
  have q9 : P37 9 = F9 := rfl
  have q11 : P37 11 = F11 := rfl
  have q12 : P37 12 = F12 := rfl
  have q14 : P37 14 = F14 := rfl
  have q27 : P37 27 = F27 := rfl
  have e9 := look_curve_ok hc.curve
  have e11 := look_server_ok hs.srv
  have e14 := ticks_of_ok hc
  have tl := ticks_len hc.2.1
  have z1 := too_ev P37 (c := c) (s := s) (i := 0) (j := 1) (E := [.val (curveD c), .val (prD s), .no, .no]) hc.1 rfl rfl
  have a2 : atI [D.int s.1, D.int s.2] 1 = some (.int s.2) := rfl
  have l0 := hs.l0
  have l1 := hs.l1
  have b37 : B37 = [.ex (.call 9 [(.var 0)]), .ex (.call 11 [(.var 1)]), .ite (tooE 0 1) [.ret .non] [], some37, .ret (.bi .max [lc37])] := rfl
  have r1 : ex P37 CC (.ex (.call 9 [(.var 0)])) [.val (curveD c), .val (prD s), .no, .no] = .nx [.val (curveD c), .val (prD s), .no, .no] := by
    simp [ex, ev, args, callS, evC, popS, q9, e9, putBack, SR.of]
  have r2 : ex P37 CC (.ex (.call 11 [(.var 1)])) [.val (curveD c), .val (prD s), .no, .no] = .nx [.val (curveD c), .val (prD s), .no, .no] := by
    simp [ex, ev, args, callS, evC, popS, q11, e11, putBack, SR.of]
  have r3 : evT P37 CC (tooE 0 1) [.val (curveD c), .val (prD s), .no, .no] = .ok (decide (s.1 < (lastP c).2)) [.val (curveD c), .val (prD s), .no, .no] := by
    unfold tooE at z1 ⊢
    rw [evT_cmpK, s_bind, opd_cmp, s_evA2, z1]
    simp [vB, Sl.d, truthD]
  unfold F37 fnS
  rw [b37]
  show (match exs P37 CC _ [.val (curveD c), .val (prD s), .no, .no] with | .rt s E => R.ok s ((wipeE E []).take 2) | .nx E => .ok (.val .non) ((wipeE E []).take 2) | .exc c x E => .exc c x ((wipeE E []).take 2) | _ => .bad) = _
  rw [x_exs1, r1]
  simp only [SR.then]
  rw [x_exs1, r2]
  simp only [SR.then]
  rw [x_exs1, x_ite, r3]
  unfold heldO
  by_cases h3 : s.1 < (lastP c).2
  · rw [if_pos h3, decide_eq_true h3]
    simp [SR.of, SR.then, exs, ex, ev, wipeE, optD]
  · rw [if_neg h3, decide_eq_false h3]
    simp only [SR.of, Bool.false_eq_true, if_false, x_exs0, SR.then]
    have r4 : ex P37 CC some37 [.val (curveD c), .val (prD s), .no, .no] = .nx [.val (curveD c), .val (prD s), .own (intL (ticks c ++ [s.2 + 1, s.2 + 2])), .no] := by
      have sz : (ticks c).length + (1 + 1) ≤ 16777216 := by omega
      have ec : ev P37 CC (.call 14 [(.var 0)]) [.val (curveD c), .val (prD s), .no, .no] = .ok (.own (intL (ticks c))) [.val (curveD c), .val (prD s), .no, .no] := by
        simp [ev, args, callS, evC, popS, q14, e14, putBack]
      unfold some37
      rw [x_set, ev_lstK, s_bind, evD_star, s_bind, ec]
      simp only [prD]
      simp [intL, evD, ev, opd, ixS, a2, bopS, sizeLine_eq, sz, vI, Sl.d, putS, SR.of]
    have lc : ev P37 CC lc37 [.val (curveD c), .val (prD s), .own (intL (ticks c ++ [s.2 + 1, s.2 + 2])), .no] = .ok (.own (.lst ((heldL c s).map D.int))) [.val (curveD c), .val (prD s), .val (intL (ticks c ++ [s.2 + 1, s.2 + 2])), .no] := by
      unfold lc37 heldL
      rw [List.map_map]
      refine lc_all (ticks c ++ [s.2 + 1, s.2 + 2]) D.int _ [.val (curveD c), .val (prD s), .val (intL (ticks c ++ [s.2 + 1, s.2 + 2])), .no] ?_ (by simp [notOwn]) (by simp [wipeE]) (by simp [wipeE]) (by simp [backE]) (by simp; omega) fun t ht => ?_
      · simp [evI, ev, fzS, intL, itemsD, Sl.d]
      · have b : 1 ≤ t ∧ t ≤ 80 := by
          rcases List.mem_append.mp ht with ht | ht
          · have := tick31 hc ht; omega
          · simp at ht; omega
        have t1 := told_at_ok hc.curve (t := t) (by omega)
        have t2 := serv27_ok (t := t - 1) hs.srv (by omega)
        refine ⟨[.val (curveD c), .val (prD s), .val (intL (ticks c ++ [s.2 + 1, s.2 + 2])), .val (.int t)], [.val (curveD c), .val (prD s), .val (intL (ticks c ++ [s.2 + 1, s.2 + 2])), .val (.int t)], vI (letZ c t - servZ s (t - 1)), by simp [bindT], ?_, rfl, by simp [wipeE]⟩
        simp [ev, opd, args, callS, evC, popS, q12, q27, t1, t2, bopS, putBack, putBack_ex, vI, Sl.d]
    have mx := max_ints (l := heldL c s) (by simp [heldL])
    rw [x_exs1, r4]
    simp only [SR.then]
    rw [x_exs1, x_ret, ev_biK, opds1, show opd P37 CC lc37 = .ex (ev P37 CC lc37) from opd_lc _ _ _ _ _ _ _, s_bind, s_evA2, lc]
    simp [opds, mx, SR.of, SR.then, wipeE, vI, Sl.d, optD]
end Lw
end

section
set_option Elab.async false
set_option linter.all false
set_option maxRecDepth 100000
set_option maxHeartbeats 1000000
/-! J39: k84, late_most; the fullest traffic fits -/
namespace Lw
open PySem L2
/-! ### the fullest traffic -/
theorem full_len (c : Cv) (n : Nat) : (fullN c n).length = n := by simp [fullN]
theorem full_get {c : Cv} {n i : Nat} (h : i < n) : (fullN c n)[i]'(by rw [full_len]; exact h) = letZ c ((i : Int) + 1) - letZ c (i : Int) := by simp [fullN]
theorem full_sum {c : Cv} {n i : Nat} : ∀ m, i + m ≤ n → sumZ (fullN c n) i m = letZ c ((i : Int) + (m : Int)) - letZ c (i : Int)
  | 0, _ => by simp [sumZ]
  | m + 1, h => by
    rw [sumZ_succ (by rw [full_len]; omega), full_sum m (by omega), full_get (by omega)]
    have e : ((i : Int) + ((m + 1 : Nat) : Int)) = ((i + m : Nat) : Int) + 1 := by omega
    have e2 : ((i : Int) + (m : Int)) = ((i + m : Nat) : Int) := by omega
    rw [e, e2]; omega
theorem letZ_sub {c : Cv} (hc : Curve c) {a b : Int} (h1 : 0 ≤ a) (h2 : 1 ≤ b) : letZ c (a + b) ≤ letZ c a + letZ c b := by
  by_cases h : a = 0
  · subst h
    rw [Int.zero_add]
    have := letZ_pos hc (a := 0); omega
  · obtain ⟨p, hp, ep⟩ := letZ_mem hc.ne (m := a) (by omega)
    obtain ⟨q, hq, eq⟩ := letZ_mem hc.ne (m := b) (by omega)
    have bp := hc.small p hp
    have bq := hc.small q hq
    have lp := letZ_le (c := c) (m := a + b) (by omega) hp
    have lq := letZ_le (c := c) (m := a + b) (by omega) hq
    rw [Int.mul_add] at lp lq
    rcases Int.le_total p.2 q.2 with z | z
    · have := mul_le_r z (show 0 ≤ b by omega); omega
    · have := mul_le_r z (show 0 ≤ a by omega); omega
theorem full_fits {c : Cv} (hc : Curve c) (n : Nat) : hits c (fullN c n) = [] := by
  rw [hits_nil]
  intro i j h
  rw [full_len] at h
  rw [full_sum (j + 1) (by omega)]
  have := letZ_sub hc (a := (i : Int)) (b := 1 + (j : Int)) (by omega) (by omega)
  rw [show ((i : Int) + ((j + 1 : Nat) : Int)) = (i : Int) + (1 + (j : Int)) by omega]
  omega
theorem letZ_one {c : Cv} (hc : Curve c) : letZ c 1 ≤ 500 := by
  obtain ⟨p, hp, ep⟩ := letZ_mem hc.ne (m := 1) (by omega)
  have := hc.small p hp
  omega
theorem letZ_zero (c : Cv) : letZ c 0 = 0 := by unfold letZ; rw [if_neg (by omega)]
theorem full_traf {c : Cv} (hc : Curve c) {n : Nat} (hn : n ≤ 500) : Traf (fullN c n) := by
  refine ⟨by rw [full_len]; exact hn, fun x hx => ?_⟩
  obtain ⟨i, hi, rfl⟩ := List.mem_iff_getElem.mp hx
  have hi' : i < n := by rw [full_len] at hi; exact hi
  rw [full_get hi']
  have s := letZ_sub hc (a := (i : Int)) (b := 1) (by omega) (by omega)
  have o := letZ_one hc
  have m : letZ c (i : Int) ≤ letZ c ((i : Int) + 1) := by
    rcases Nat.eq_zero_or_pos i with z | z
    · subst z
      have := letZ_pos hc (a := ((0 : Nat) : Int) + 1)
      have e : letZ c ((0 : Nat) : Int) = 0 := letZ_zero c
      omega
    · exact letZ_mono hc (by omega) (by omega)
  constructor <;> omega
/-! ### late_most -/
def lateS (c : Cv) (s : Int × Int) (m : Int) : List Int := (ticks c).filter fun t => decide (lateZ s (letZ c t) t = m)
def lateW (c : Cv) (s : Int × Int) (m : Int) : Nat := ((lateS c s m).headD 0).toNat
def toldD (c : Cv) (s : Int × Int) : D := match lateO c s with
  | none => .tup [.str "never"]
  | some m => if m = 0 then .tup [.str "late", .int 0, .tup []] else .tup [.str "late", .int m, trafD (fullN c (lateW c s m))]
theorem late_top {c : Cv} {s : Int × Int} {m : Int} (hc : Drawn c) (h : lateO c s = some m) (hm : m ≠ 0) : 0 < s.1 ∨ s.1 < 0 := by
  unfold lateO at h
  split at h
  · cases h; exact absurd rfl hm
  · split at h
    · cases h
    · rename_i q; omega
theorem late_first {c : Cv} {s : Int × Int} {m : Int} (hc : Drawn c) (h : lateO c s = some m) (hm : m ≠ 0) : ∃ r, lateS c s m = (lateW c s m : Int) :: r ∧ Tick c (lateW c s m) ∧ lateZ s (letZ c (lateW c s m)) (lateW c s m) = m := by
  have e : m = maxL (lbs c s) := by
    unfold lateO at h
    split at h
    · cases h; exact absurd rfl hm
    · split at h
      · cases h
      · cases h; rfl
  obtain ⟨q1, _⟩ := maxL_mx (l := lbs c s) (by simp [lbs])
  rw [← e] at q1
  rcases List.mem_cons.mp q1 with z | z
  · exact absurd z hm
  · obtain ⟨t, ht, et⟩ := List.mem_map.mp z
    have mem : t ∈ lateS c s m := List.mem_filter.mpr ⟨ht, decide_eq_true et⟩
    cases eS : lateS c s m with
    | nil => rw [eS] at mem; cases mem
    | cons x r =>
      have hx : x ∈ lateS c s m := by rw [eS]; exact List.mem_cons_self
      obtain ⟨h1, h2⟩ := List.mem_filter.mp hx
      have b := tick31 hc h1
      have ew : ((lateW c s m : Nat) : Int) = x := by
        unfold lateW; rw [eS]; simp; omega
      refine ⟨r, by rw [ew], by rw [ew]; exact (ticks_iff hc.2.2.2.1).mp h1, by rw [ew]; exact of_decide_eq_true h2⟩
def s17 : S := .set 3 (.lc (.fz 4) (.nm 4) (.call 14 [(.var 0)]) [(.cmp .Eq (.call 13 [(.var 1), (.call 12 [(.var 0), (.var 4)]), (.var 4)]) (.var 2))] [4])
theorem s17_ok {c : Cv} {s : Int × Int} {m : Int} (hc : Drawn c) (hs : Srv s) (h0 : 0 < s.1) : ex P17 CC s17 [.val (curveD c), .val (prD s), .val (.int m), .no, .no] = .nx [.val (curveD c), .val (prD s), .val (.int m), .own (intL (lateS c s m)), .no] := by
  have q13 : P17 13 = F13 := rfl
  have q12 : P17 12 = F12 := rfl
  have q14 : P17 14 = F14 := rfl
  have e14 := ticks_of_ok hc
  have tl := ticks_len hc.2.1
  have lc := lc_flt (Φ := P17) (C := CC) (elt := .fz 4) (it := .call 14 [(.var 0)]) (tg := .nm 4) (ifs := [(.cmp .Eq (.call 13 [(.var 1), (.call 12 [(.var 0), (.var 4)]), (.var 4)]) (.var 2))]) (own := [4]) (ticks c) D.int D.int (fun t => decide (lateZ s (letZ c t) t = m))
    (E := [.val (curveD c), .val (prD s), .val (.int m), .no, .no]) (E1 := [.val (curveD c), .val (prD s), .val (.int m), .no, .no]) [.val (curveD c), .val (prD s), .val (.int m), .no, .no] (by
      rw [evI_callK]
      simp [ev, args, callS, evC, popS, q14, e14, putBack, intL, itemsD, Sl.d]) (by simp [notOwn]) (by simp [wipeE]) (by simp [wipeE]) (by simp [backE]) (by omega) (fun t ht => by
      have tb := tick31 hc ht
      have t1 := told_at_ok hc.curve (t := t) (by omega)
      have t2 := late_by_ok (n := letZ c t) (t := t) hs h0
      refine ⟨[.val (curveD c), .val (prD s), .val (.int m), .no, .val (.int t)], [.val (curveD c), .val (prD s), .val (.int m), .no, .val (.int t)], by simp [bindT], ?_, fun _ => ⟨_, .val (.int t), by simp [ev, fzS]; rfl, rfl, by simp [wipeE]⟩, fun _ => by simp [wipeE]⟩
      by_cases hq : lateZ s (letZ c t) t = m <;>
      simp [evTs, lcI.allT, evT, ev, opd, args, callS, evC, popS, q13, q12, t1, t2, putBack, putBack_ex, cmpS, eqD_int, truthD, hq, vI, vB, Sl.d])
  unfold s17
  rw [x_set, lc]
  simp [SR.of, putS, intL, lateS]
theorem late_most_ok {c : Cv} {s : Int × Int} (hc : Drawn c) (hs : Srv s) : F17 [.val (curveD c), .val (prD s)] = .ok (.val (toldD c s)) [.val (curveD c), .val (prD s)] := by
  have q9 : P17 9 = F9 := rfl
  have q11 : P17 11 = F11 := rfl
  have q15 : P17 15 = F15 := rfl
  have q16 : P17 16 = F16 := rfl
  have e9 := look_curve_ok hc.curve
  have e11 := look_server_ok hs
  have e15 := told_late_ok hc hs
  have b17 : B17 = [.ex (.call 9 [(.var 0)]), .ex (.call 11 [(.var 1)]), .set 2 (.call 15 [(.var 0), (.var 1)]), .ite (.cmp .Is (.var 2) .non) [.ret (.tup [(.cst 4)])] [], .ite (.cmp .Eq (.var 2) (.int 0)) [.ret (.tup [(.cst 5), (.int 0), (.tup [])])] [], s17, .ret (.tup [(.cst 5), (.fz 2), (.call 16 [(.var 0), (.idx (.var 3) (.int 0))])])] := rfl
  have r1 : ex P17 CC (.ex (.call 9 [(.var 0)])) [.val (curveD c), .val (prD s), .no, .no, .no] = .nx [.val (curveD c), .val (prD s), .no, .no, .no] := by
    simp [ex, ev, args, callS, evC, popS, q9, e9, putBack, SR.of]
  have r2 : ex P17 CC (.ex (.call 11 [(.var 1)])) [.val (curveD c), .val (prD s), .no, .no, .no] = .nx [.val (curveD c), .val (prD s), .no, .no, .no] := by
    simp [ex, ev, args, callS, evC, popS, q11, e11, putBack, SR.of]
  have r3 : ex P17 CC (.set 2 (.call 15 [(.var 0), (.var 1)])) [.val (curveD c), .val (prD s), .no, .no, .no] = .nx [.val (curveD c), .val (prD s), .val (optD (lateO c s)), .no, .no] := by
    simp [ex, ev, args, callS, evC, popS, q15, e15, putBack, putS, SR.of]
  have c4 : CC 4 = .str "never" := rfl
  have c5 : CC 5 = .str "late" := rfl
  unfold F17 fnS
  rw [b17]
  show (match exs P17 CC _ [.val (curveD c), .val (prD s), .no, .no, .no] with | .rt s E => R.ok s ((wipeE E []).take 2) | .nx E => .ok (.val .non) ((wipeE E []).take 2) | .exc c x E => .exc c x ((wipeE E []).take 2) | _ => .bad) = _
  rw [x_exs1, r1]
  simp only [SR.then]
  rw [x_exs1, r2]
  simp only [SR.then]
  rw [x_exs1, r3]
  simp only [SR.then]
  unfold toldD
  cases e : lateO c s with
  | none => simp [exs, ex, ev, evT, evD, opd, optD, cmpS, isNonD, truthD, c4, vB, Sl.d, sizeLine_eq, wipeE, SR.of, SR.then]
  | some m =>
    have n0 : ex P17 CC (.ite (.cmp .Is (.var 2) .non) [.ret (.tup [(.cst 4)])] []) [.val (curveD c), .val (prD s), .val (.int m), .no, .no] = .nx [.val (curveD c), .val (prD s), .val (.int m), .no, .no] := by
      simp [exs, ex, ev, evT, opd, cmpS, isNonD, truthD, vB, Sl.d, SR.of]
    simp only [optD]
    rw [x_exs1, n0]
    simp only [SR.then]
    by_cases hm : m = 0
    · subst hm
      simp [exs, ex, ev, evT, evD, opd, cmpS, eqD_int, truthD, c5, vB, vI, Sl.d, sizeLine_eq, wipeE, SR.of, SR.then]
    · have n1 : ex P17 CC (.ite (.cmp .Eq (.var 2) (.int 0)) [.ret (.tup [(.cst 5), (.int 0), (.tup [])])] []) [.val (curveD c), .val (prD s), .val (.int m), .no, .no] = .nx [.val (curveD c), .val (prD s), .val (.int m), .no, .no] := by
        simp [exs, ex, ev, evT, opd, cmpS, eqD_int, hm, truthD, vI, vB, Sl.d, SR.of]
      have h0 : 0 < s.1 := by
        have := late_top hc e hm
        have := hs.r0; omega
      obtain ⟨r, e1, e2, e3⟩ := late_first hc e hm
      have tb := e2.le hc
      have e16 := greatest_ok (n := lateW c s m) hc.curve (by omega)
      have ai : atI (D.int (lateW c s m : Int) :: r.map D.int) 0 = some (.int (lateW c s m)) := by
        have : ((D.int (lateW c s m : Int)) :: r.map D.int)[0]? = some (.int (lateW c s m)) := rfl
        simp [atI, ixN]
      rw [x_exs1, n1]
      simp only [SR.then]
      rw [x_exs1, s17_ok hc hs h0, e1, if_neg hm]
      simp only [SR.then]
      simp [exs, ex, ev, evD, opd, args, callS, evC, popS, fzS, intL, ixS, ai, q16, e16, putBack, putBack_ex, c5, vI, Sl.d, sizeLine_eq, wipeE, SR.of, SR.then]
end Lw
end

section
set_option Elab.async false
set_option linter.all false
set_option maxRecDepth 100000
set_option maxHeartbeats 1000000
/-! J40: k84, held -/
namespace Lw
open PySem L2
/-- what pairs (start, last), last below n, come to -/
def PairP (v : Nat → Nat → Int) (ok : Nat → Prop) (n : Nat) (x : Int) : Prop := x = 0 ∨ ∃ i l, i ≤ l ∧ l < n ∧ ok l ∧ x = v i l
def PairQ (v : Nat → Nat → Int) (ok : Nat → Prop) (l m : Nat) (x : Int) : Prop := PairP v ok l x ∨ ∃ i, i < m ∧ x = v i l
theorem PairQ.zero {v ok} {l : Nat} {x : Int} : PairQ v ok l 0 x ↔ PairP v ok l x := by
  unfold PairQ
  constructor
  · rintro (h | ⟨i, hi, _⟩)
    · exact h
    · omega
  · exact .inl
theorem PairQ.succ {v ok} {l m : Nat} {x : Int} : (PairQ v ok l m x ∨ x = v m l) ↔ PairQ v ok l (m + 1) x := by
  unfold PairQ
  constructor
  · rintro ((h | ⟨i, hi, h⟩) | h)
    · exact .inl h
    · exact .inr ⟨i, by omega, h⟩
    · exact .inr ⟨m, by omega, h⟩
  · rintro (h | ⟨i, hi, h⟩)
    · exact .inl (.inl h)
    · rcases Nat.lt_or_ge i m with z | z
      · exact .inl (.inr ⟨i, z, h⟩)
      · obtain rfl : i = m := by omega
        exact .inr h
theorem PairQ.full {v ok} {l : Nat} {x : Int} (hk : ok l) : PairQ v ok l (l + 1) x ↔ PairP v ok (l + 1) x := by
  unfold PairQ PairP
  constructor
  · rintro ((h | ⟨i, k, h1, h2, h3⟩) | ⟨i, hi, h⟩)
    · exact .inl h
    · exact .inr ⟨i, k, h1, by omega, h3⟩
    · exact .inr ⟨i, l, by omega, by omega, hk, h⟩
  · rintro (h | ⟨i, k, h1, h2, h3, h4⟩)
    · exact .inl (.inl h)
    · rcases Nat.lt_or_ge k l with z | z
      · exact .inl (.inr ⟨i, k, h1, z, h3, h4⟩)
      · obtain rfl : k = l := by omega
        exact .inr ⟨i, by omega, h4⟩
theorem PairP.skip {v ok} {l : Nat} {x : Int} (hk : ¬ ok l) : PairP v ok l x ↔ PairP v ok (l + 1) x := by
  unfold PairP
  constructor
  · rintro (h | ⟨i, k, h1, h2, h3⟩)
    · exact .inl h
    · exact .inr ⟨i, k, h1, by omega, h3⟩
  · rintro (h | ⟨i, k, h1, h2, h3, h4⟩)
    · exact .inl h
    · refine .inr ⟨i, k, h1, ?_, h3, h4⟩
      rcases Nat.lt_or_ge k l with z | z
      · exact z
      · obtain rfl : k = l := by omega
        exact absurd h3 hk
theorem PairP.zeroMx {v ok} : Mx (PairP v ok 0) 0 := ⟨.inl rfl, fun x hx => by
  rcases hx with rfl | ⟨i, l, _, h, _⟩ <;> omega⟩
/-- sum(t[start:last + 1]) -/
theorem sum_ev (Φ : Nat → M Sl) {t : List Int} {a b c i l : Nat} {E : SE} (h1 : E[a]? = some (.val (trafD t))) (h2 : E[b]? = some (.val (.int i))) (h3 : E[c]? = some (.val (.int l))) (hil : i ≤ l) (hl : l < t.length) :
    ev Φ CC (.bi .sum [(.slc (.var a) (.var b) (.bop .Add (.var c) (.int 1)))]) E = .ok (vI (sumZ t i (l - i + 1))) E := by
  have ct : cutD (t.map D.int) (some (i : Int)) (some ((l : Int) + 1)) = ((t.drop i).take (l - i + 1)).map D.int := by
    have := cut_nat (xs := t.map D.int) (s := i) (m := l - i + 1) (by simp; omega)
    rw [show ((l : Int) + 1) = (i : Int) + ((l - i + 1 : Nat) : Int) by omega, this, List.map_take, List.map_drop]
  have ei := intsOf_map ((t.drop i).take (l - i + 1))
  rw [List.map_take, List.map_drop] at ei
  unfold trafD at h1
  simp [ev, opds, opd, slotAt, h1, h2, h3, partO, isNonE, bopS, vI, Sl.d, partD, slP, slS, ct]
  simp only [biS]
  rw [ei]
  simp [sumZ, vI]
theorem sumZ_bound {t : List Int} (h : ∀ x ∈ t, 0 ≤ x ∧ x ≤ 1000) (i m : Nat) : 0 ≤ sumZ t i m ∧ sumZ t i m ≤ 1000 * m := by
  have key : ∀ l : List Int, (∀ x ∈ l, 0 ≤ x ∧ x ≤ 1000) → 0 ≤ l.sum ∧ l.sum ≤ 1000 * l.length := by
    intro l
    induction l with
    | nil => intro _; simp
    | cons a r ih =>
      intro h
      have h1 := h a List.mem_cons_self
      have h2 := ih fun x hx => h x (List.mem_cons_of_mem _ hx)
      simp only [List.sum_cons, List.length_cons]
      omega
  have hs : ∀ x ∈ (t.drop i).take m, x ∈ t := fun x hx => List.mem_of_mem_drop (List.mem_of_mem_take hx)
  have k := key _ fun x hx => h x (hs x hx)
  have : ((t.drop i).take m).length ≤ m := by rw [List.length_take]; omega
  unfold sumZ
  omega
/-! ### held -/
def heldV (s : Int × Int) (t : List Int) (i l : Nat) : Int := sumZ t i (l - i + 1) - servZ s ((l : Int) - (i : Int))
def All (_ : Nat) : Prop := True
def inH (k : Nat) : List S := [.set 2 (.bi .max [(.var 2), (.bop .Sub (.bi .sum [(.slc (.var 1) (.var 4) (.bop .Add (.var 3) (.int 1)))]) (.call k [(.var 0), (.bop .Sub (.var 3) (.var 4))]))])]
def outH (k : Nat) : List S := [.for_ (.nm 4) (.rng1 (.bop .Add (.var 3) (.int 1))) (inH k)]
section
variable {Φ : Nat → M Sl} {k : Nat} {s : Int × Int} {t : List Int}
theorem inH_ok (hk : ∀ u : Int, u.natAbs < 2 ^ 31 → Φ k [.val (prD s), .val (.int u)] = .ok (vI (servZ s u)) [.val (prD s), .val (.int u)]) (ht : t.length ≤ 500) {a : Int} {i l : Nat} (hil : i ≤ l) (hl : l < t.length) :
    exs Φ CC (inH k) [.val (prD s), .val (trafD t), .val (.int a), .val (.int l), .val (.int i)] = .nx [.val (prD s), .val (trafD t), .val (.int (if a < heldV s t i l then heldV s t i l else a)), .val (.int l), .val (.int i)] := by
  have e1 := sum_ev Φ (t := t) (a := 1) (b := 4) (c := 3) (i := i) (l := l) (E := [.val (prD s), .val (trafD t), .val (.int a), .val (.int l), .val (.int i)]) rfl rfl rfl hil hl
  have e2 := hk ((l : Int) - (i : Int)) (by omega)
  have e3 : ev Φ CC (.bop .Sub (.bi .sum [(.slc (.var 1) (.var 4) (.bop .Add (.var 3) (.int 1)))]) (.call k [(.var 0), (.bop .Sub (.var 3) (.var 4))])) [.val (prD s), .val (trafD t), .val (.int a), .val (.int l), .val (.int i)] = .ok (vI (heldV s t i l)) [.val (prD s), .val (trafD t), .val (.int a), .val (.int l), .val (.int i)] := by
    rw [ev_bop, opd_bi, s_bind, s_evA2, e1]
    simp [ev, opd, args, callS, evC, popS, e2, bopS, putBack, putBack_ex, vI, Sl.d, heldV]
  unfold inH
  rw [x_exs1, x_set, ev_biK, opds1, opds1, opd_bop, opd_varK, s_bind, s_evA1]
  simp only [slotAt, List.getElem?_cons_succ, List.getElem?_cons_zero, s_ok, s_evA2, e3]
  simp [opds, slotAt, biS, vI, Sl.d, putS, SR.of, SR.then, x_exs0]
theorem outH_ok (hk : ∀ u : Int, u.natAbs < 2 ^ 31 → Φ k [.val (prD s), .val (.int u)] = .ok (vI (servZ s u)) [.val (prD s), .val (.int u)]) (ht : t.length ≤ 500) {a : Int} {l : Nat} {s4 : Sl} (hl : l < t.length) (ha : Mx (PairP (heldV s t) All l) a) :
    ∃ b s4', Mx (PairP (heldV s t) All (l + 1)) b ∧ exs Φ CC (outH k) [.val (prD s), .val (trafD t), .val (.int a), .val (.int l), s4] = .nx [.val (prD s), .val (trafD t), .val (.int b), .val (.int l), s4'] := by
  have il := forI_ind (bt := bindT (.nm 4)) (b := exs Φ CC (inH k)) (fun i E => ∃ b s4', Mx (PairQ (heldV s t) All l i) b ∧ E = [.val (prD s), .val (trafD t), .val (.int b), .val (.int l), s4'])
    (fun R => ∃ b s4', Mx (PairP (heldV s t) All (l + 1)) b ∧ R = .nx [.val (prD s), .val (trafD t), .val (.int b), .val (.int l), s4']) (rngD 0 ((l : Int) + 1))
    (fun i E d hd ⟨b, s4', hb, eE⟩ => by
      subst eE
      obtain ⟨rfl, hi⟩ := rng2_get hd
      refine ⟨[.val (prD s), .val (trafD t), .val (.int b), .val (.int l), .val (.int i)], by simp [bindT], ?_⟩
      rw [inH_ok hk ht (by omega) hl]
      exact ⟨_, _, (Mx.step hb).congr fun x => PairQ.succ, rfl⟩)
    (fun E ⟨b, s4', hb, eE⟩ => by
      subst eE
      have e : (rngD 0 ((l : Int) + 1)).length = l + 1 := by rw [rng_len2]; omega
      rw [e] at hb
      exact ⟨b, s4', hb.congr fun x => PairQ.full trivial, rfl⟩)
    [.val (prD s), .val (trafD t), .val (.int a), .val (.int l), s4] ⟨a, s4, ha.congr fun x => PairQ.zero.symm, rfl⟩
  obtain ⟨b, s4', hb, e⟩ := il
  refine ⟨b, s4', hb, ?_⟩
  unfold outH
  rw [x_exs1, x_for, rng1_ev (n := (l : Int) + 1) (E1 := [.val (prD s), .val (trafD t), .val (.int a), .val (.int l), s4]) (by simp [ev, opd, bopS, vI, Sl.d]) (by omega) (by omega)]
  simp only [SR.of, e, SR.then, x_exs0]
theorem loopH (hk : ∀ u : Int, u.natAbs < 2 ^ 31 → Φ k [.val (prD s), .val (.int u)] = .ok (vI (servZ s u)) [.val (prD s), .val (.int u)]) (ht : t.length ≤ 500) :
    ∃ b s3 s4, Mx (PairP (heldV s t) All t.length) b ∧ ex Φ CC (.for_ (.nm 3) (.rng1 (.bi .len [(.var 1)])) (outH k)) [.val (prD s), .val (trafD t), .val (.int 0), .no, .no] = .nx [.val (prD s), .val (trafD t), .val (.int b), s3, s4] := by
  have il := forI_ind (bt := bindT (.nm 3)) (b := exs Φ CC (outH k)) (fun i E => ∃ b s3 s4, Mx (PairP (heldV s t) All i) b ∧ E = [.val (prD s), .val (trafD t), .val (.int b), s3, s4])
    (fun R => ∃ b s3 s4, Mx (PairP (heldV s t) All t.length) b ∧ R = .nx [.val (prD s), .val (trafD t), .val (.int b), s3, s4]) (rngD 0 (t.length : Int))
    (fun i E d hd ⟨b, s3, s4, hb, eE⟩ => by
      subst eE
      obtain ⟨rfl, hi⟩ := rng2_get hd
      refine ⟨[.val (prD s), .val (trafD t), .val (.int b), .val (.int i), s4], by simp [bindT], ?_⟩
      obtain ⟨b', s4', hb', e⟩ := outH_ok (s4 := s4) hk ht (show i < t.length by omega) hb
      rw [e]
      exact ⟨_, _, _, hb', rfl⟩)
    (fun E ⟨b, s3, s4, hb, eE⟩ => by
      subst eE
      have e : (rngD 0 (t.length : Int)).length = t.length := by rw [rng_len2]; omega
      rw [e] at hb
      exact ⟨b, s3, s4, hb, rfl⟩)
    [.val (prD s), .val (trafD t), .val (.int 0), .no, .no] ⟨0, .no, .no, PairP.zeroMx, rfl⟩
  obtain ⟨b, s3, s4, hb, e⟩ := il
  refine ⟨b, s3, s4, hb, ?_⟩
  rw [x_for, rng1_ev (n := (t.length : Int)) (E1 := [.val (prD s), .val (trafD t), .val (.int 0), .no, .no]) (by simp [ev, opds, opd, biS, lenD, trafD, vI, Sl.d]) (by omega) (by omega)]
  exact e
end
theorem held_ok {s : Int × Int} {t : List Int} (hs : Srv s) (ht : Traf t) : ∃ b, Mx (PairP (heldV s t) All t.length) b ∧ F28 [.val (prD s), .val (trafD t)] = .ok (vI b) [.val (prD s), .val (trafD t)] := by
  have q11 : P28 11 = F11 := rfl
  have q24 : P28 24 = F24 := rfl
  have e11 := look_server_ok hs
  have e24 := look_traffic_ok ht
  have b28 : B28 = [.ex (.call 11 [(.var 0)]), .ex (.call 24 [(.var 1)]), .set 2 (.int 0), .for_ (.nm 3) (.rng1 (.bi .len [(.var 1)])) (outH 27), .ret (.mv 2)] := rfl
  obtain ⟨b, s3, s4, hb, e⟩ := loopH (Φ := P28) (k := 27) (s := s) (t := t) (fun u hu => serv27_ok hs hu) ht.len
  refine ⟨b, hb, ?_⟩
  have r1 : ex P28 CC (.ex (.call 11 [(.var 0)])) [.val (prD s), .val (trafD t), .no, .no, .no] = .nx [.val (prD s), .val (trafD t), .no, .no, .no] := by
    simp [ex, ev, args, callS, evC, popS, q11, e11, putBack, SR.of]
  have r2 : ex P28 CC (.ex (.call 24 [(.var 1)])) [.val (prD s), .val (trafD t), .no, .no, .no] = .nx [.val (prD s), .val (trafD t), .no, .no, .no] := by
    simp [ex, ev, args, callS, evC, popS, q24, e24, putBack, SR.of]
  have r3 : ex P28 CC (.set 2 (.int 0)) [.val (prD s), .val (trafD t), .no, .no, .no] = .nx [.val (prD s), .val (trafD t), .val (.int 0), .no, .no] := by
    simp [ex, ev, putS, vI, SR.of]
  unfold F28 fnS
  rw [b28]
  show (match exs P28 CC _ [.val (prD s), .val (trafD t), .no, .no, .no] with | .rt s E => R.ok s ((wipeE E []).take 2) | .nx E => .ok (.val .non) ((wipeE E []).take 2) | .exc c x E => .exc c x ((wipeE E []).take 2) | _ => .bad) = _
  rw [x_exs1, r1]
  simp only [SR.then]
  rw [x_exs1, r2]
  simp only [SR.then]
  rw [x_exs1, r3]
  simp only [SR.then]
  rw [x_exs1, e]
  simp [exs, ex, ev, popS, SR.of, SR.then, wipeE, vI]
theorem law_held_ok {s : Int × Int} {t : List Int} (hs : Srv s) (ht : Traf t) : ∃ b, Mx (PairP (heldV s t) All t.length) b ∧ F29 [.val (prD s), .val (trafD t)] = .ok (vI b) [.val (prD s), .val (trafD t)] := by
  have b29 : B29 = [.set 2 (.int 0), .for_ (.nm 3) (.rng1 (.bi .len [(.var 1)])) (outH 5), .ret (.mv 2)] := rfl
  obtain ⟨b, s3, s4, hb, e⟩ := loopH (Φ := P29) (k := 5) (s := s) (t := t) (fun u hu => serv_ok hs hu) ht.len
  refine ⟨b, hb, ?_⟩
  have r3 : ex P29 CC (.set 2 (.int 0)) [.val (prD s), .val (trafD t), .no, .no, .no] = .nx [.val (prD s), .val (trafD t), .val (.int 0), .no, .no] := by
    simp [ex, ev, putS, vI, SR.of]
  unfold F29 fnS
  rw [b29]
  show (match exs P29 CC _ [.val (prD s), .val (trafD t), .no, .no, .no] with | .rt s E => R.ok s ((wipeE E []).take 2) | .nx E => .ok (.val .non) ((wipeE E []).take 2) | .exc c x E => .exc c x ((wipeE E []).take 2) | _ => .bad) = _
  rw [x_exs1, r3]
  simp only [SR.then]
  rw [x_exs1, e]
  simp [exs, ex, ev, popS, SR.of, SR.then, wipeE, vI]
theorem Mx.same {P : Int → Prop} {a b : Int} (h : Mx P a) (k : Mx P b) : a = b := h.uniq k (fun x hx => ⟨x, hx, Int.le_refl _⟩) fun x hx => ⟨x, hx, Int.le_refl _⟩
end Lw
end

section
set_option Elab.async false
set_option linter.all false
set_option maxRecDepth 100000
set_option maxHeartbeats 1000000
/-! J41: k84, _law_late -/
namespace Lw
open PySem L2
def lateV (s : Int × Int) (t : List Int) (i l : Nat) : Int := lateZ s (sumZ t i (l - i + 1)) ((l : Int) - (i : Int) + 1)
def okL (t : List Int) (l : Nat) : Prop := 0 < t.getD l 0
theorem getD_at {t : List Int} {l : Nat} (h : l < t.length) : t.getD l 0 = t[l] := by simp [h]
theorem sum_pos {t : List Int} (h : ∀ x ∈ t, 0 ≤ x ∧ x ≤ 1000) {i l : Nat} (hil : i ≤ l) (hl : l < t.length) (hk : okL t l) : 0 < sumZ t i (l - i + 1) := by
  have e := sumZ_succ (t := t) (s := i) (m := l - i) (by omega)
  rw [e]
  have b := sumZ_bound h i (l - i)
  have : t[i + (l - i)]'(by omega) = t.getD l 0 := by
    rw [getD_at hl]; congr 1; omega
  rw [this]
  unfold okL at hk
  omega
def lateN (s : Int × Int) (t : List Int) (o : Int) : Option Int := if s.1 = 0 then (if 0 < t.sum then none else some 0) else some o
def c19 : E := .cmp .Lt (.call 5 [(.var 0), (.var 6)]) (.var 5)
def w19 : List S := [.set 6 (.bop .Add (.var 6) (.int 1))]
theorem c19_ok {s : Int × Int} {n u : Int} {s1 s2 s3 s4 : Sl} (hs : Srv s) (hu : u.natAbs < 2 ^ 31) : evT P19 CC c19 [.val (prD s), s1, s2, s3, s4, .val (.int n), .val (.int u)] = .ok (decide (servZ s u < n)) [.val (prD s), s1, s2, s3, s4, .val (.int n), .val (.int u)] := by
  have q5 : P19 5 = F5 := rfl
  have e := serv_ok (t := u) hs hu
  unfold c19
  simp [evT, ev, opd, args, callS, evC, popS, q5, e, cmpS, truthD, putBack, vI, vB, Sl.d]
theorem whl19 {s : Int × Int} {n : Int} {s1 s2 s3 s4 : Sl} (hs : Srv s) (h0 : 0 < s.1) (hn : 0 < n) (hb : n ≤ 600000) :
    ex P19 CC (.whl c19 w19) [.val (prD s), s1, s2, s3, s4, .val (.int n), .val (.int 0)] = .nx [.val (prD s), s1, s2, s3, s4, .val (.int n), .val (.int (s.2 + cdiv n s.1))] := by
  have l0 := hs.l0
  have l1 := hs.l1
  have cp : 0 < cdiv n s.1 := by
    rcases Int.lt_or_le 0 (cdiv n s.1) with h | h
    · exact h
    · have := (cdiv_le h0).mp h; omega
  have cn : cdiv n s.1 ≤ n := (cdiv_le h0).mpr (by
    have := Int.mul_le_mul_of_nonneg_right (show 1 ≤ s.1 by omega) (show 0 ≤ n by omega)
    omega)
  rw [x_whl]
  refine whlI_ind (fun i E => (i : Int) ≤ s.2 + cdiv n s.1 ∧ E = [.val (prD s), s1, s2, s3, s4, .val (.int n), .val (.int i)]) (fun R => R = .nx [.val (prD s), s1, s2, s3, s4, .val (.int n), .val (.int (s.2 + cdiv n s.1))]) (s.2 + cdiv n s.1).toNat (by omega) (fun i E ⟨hi, eE⟩ => ?_) _ ⟨by simp; omega, rfl⟩
  subst eE
  have ec := c19_ok (s1 := s1) (s2 := s2) (s3 := s3) (s4 := s4) (n := n) (u := (i : Int)) hs (by omega)
  have g := servZ_ge (s := s) (n := n) (x := (i : Int)) h0 hn
  by_cases q : (i : Int) = s.2 + cdiv n s.1
  · left
    rw [decide_eq_false (by omega)] at ec
    exact ⟨_, ec, by rw [q]⟩
  · right
    rw [decide_eq_true (by omega)] at ec
    refine ⟨by omega, _, ec, ?_⟩
    have e : exs P19 CC w19 [.val (prD s), s1, s2, s3, s4, .val (.int n), .val (.int i)] = .nx [.val (prD s), s1, s2, s3, s4, .val (.int n), .val (.int ((i : Int) + 1))] := by
      unfold w19
      simp [exs, ex, ev, opd, bopS, putS, vI, Sl.d, SR.of, SR.then]
    rw [e]
    exact ⟨by omega, by simp⟩
def p19 : S := .par [5, 6] [(.bi .sum [(.slc (.var 1) (.var 4) (.bop .Add (.var 3) (.int 1)))]), (.int 0)]
def x19 : S := .set 2 (.bi .max [(.var 2), (.bop .Sub (.bop .Sub (.bop .Add (.var 4) (.var 6)) (.int 1)) (.var 3))])
def in19 : List S := [p19, .whl c19 w19, x19]
def z19 : S := .ite (.cmp .Eq (.idx (.var 1) (.var 3)) (.int 0)) [.cnt] []
def out19 : List S := [z19, .for_ (.nm 4) (.rng1 (.bop .Add (.var 3) (.int 1))) in19]
theorem b19 : B19 = [.ite (.cmp .Eq (.idx (.var 0) (.int 0)) (.int 0)) [.ret (.ite (.cmp .Gt (.bi .sum [(.var 1)]) (.int 0)) .non (.int 0))] [], .set 2 (.int 0), .for_ (.nm 3) (.rng1 (.bi .len [(.var 1)])) out19, .ret (.mv 2)] := rfl
section
variable {s : Int × Int} {t : List Int}
theorem args_bi (Φ : Nat → M Sl) (C : Nat → D) (b : Bi) (as : List E) (r : List E) : args Φ C (.bi b as :: r) = .ex (ev Φ C (.bi b as)) :: args Φ C r := by rw [args] <;> first | rfl | (intros; rename_i z; cases z)
theorem in19_ok (hs : Srv s) (h0 : 0 < s.1) (ht : Traf t) {a : Int} {i l : Nat} {s5 s6 : Sl} (hil : i ≤ l) (hl : l < t.length) (hk : okL t l) :
    ∃ s5' s6', exs P19 CC in19 [.val (prD s), .val (trafD t), .val (.int a), .val (.int l), .val (.int i), s5, s6] = .nx [.val (prD s), .val (trafD t), .val (.int (if a < lateV s t i l then lateV s t i l else a)), .val (.int l), .val (.int i), s5', s6'] := by
  have hlen := ht.len
  have e1 := sum_ev P19 (t := t) (a := 1) (b := 4) (c := 3) (i := i) (l := l) (E := [.val (prD s), .val (trafD t), .val (.int a), .val (.int l), .val (.int i), s5, s6]) rfl rfl rfl hil hl
  have pos := sum_pos ht.small hil hl hk
  have bd := sumZ_bound ht.small i (l - i + 1)
  have r1 : ex P19 CC p19 [.val (prD s), .val (trafD t), .val (.int a), .val (.int l), .val (.int i), s5, s6] = .nx [.val (prD s), .val (trafD t), .val (.int a), .val (.int l), .val (.int i), .val (.int (sumZ t i (l - i + 1))), .val (.int 0)] := by
    unfold p19
    rw [ex, args_bi]
    generalize ev P19 CC (.bi .sum [(.slc (.var 1) (.var 4) (.bop .Add (.var 3) (.int 1)))]) = g at e1 ⊢
    simp [evC, args, e1, ev, putAll, putS, vI, SR.of, SR.then]
  have r2 := whl19 (s := s) (n := sumZ t i (l - i + 1)) (s1 := .val (trafD t)) (s2 := .val (.int a)) (s3 := .val (.int l)) (s4 := .val (.int i)) hs h0 pos (by omega)
  have el : (i : Int) + (s.2 + cdiv (sumZ t i (l - i + 1)) s.1) - 1 - (l : Int) = lateV s t i l := by unfold lateV lateZ; omega
  have e3 : ev P19 CC (.bop .Sub (.bop .Sub (.bop .Add (.var 4) (.var 6)) (.int 1)) (.var 3)) [.val (prD s), .val (trafD t), .val (.int a), .val (.int l), .val (.int i), .val (.int (sumZ t i (l - i + 1))), .val (.int (s.2 + cdiv (sumZ t i (l - i + 1)) s.1))] = .ok (vI (lateV s t i l)) [.val (prD s), .val (trafD t), .val (.int a), .val (.int l), .val (.int i), .val (.int (sumZ t i (l - i + 1))), .val (.int (s.2 + cdiv (sumZ t i (l - i + 1)) s.1))] := by
    rw [← el]
    simp [ev, opd, bopS, vI, Sl.d]
  refine ⟨.val (.int (sumZ t i (l - i + 1))), .val (.int (s.2 + cdiv (sumZ t i (l - i + 1)) s.1)), ?_⟩
  unfold in19
  rw [x_exs1, r1]
  simp only [SR.then]
  rw [x_exs1, r2]
  simp only [SR.then]
  unfold x19
  rw [x_exs1, x_set, ev_biK, opds1, opds1, opd_bop, opd_varK, s_bind, s_evA1]
  simp only [slotAt, List.getElem?_cons_succ, List.getElem?_cons_zero, s_ok, s_evA2, e3]
  simp [opds, slotAt, biS, vI, Sl.d, putS, SR.of, SR.then, x_exs0]
theorem out19_ok (hs : Srv s) (h0 : 0 < s.1) (ht : Traf t) {a : Int} {l : Nat} {s4 s5 s6 : Sl} (hl : l < t.length) (ha : Mx (PairP (lateV s t) (okL t) l) a) :
    ∃ b s4' s5' s6', Mx (PairP (lateV s t) (okL t) (l + 1)) b ∧ (exs P19 CC out19 [.val (prD s), .val (trafD t), .val (.int a), .val (.int l), s4, s5, s6] = .nx [.val (prD s), .val (trafD t), .val (.int b), .val (.int l), s4', s5', s6'] ∨ exs P19 CC out19 [.val (prD s), .val (trafD t), .val (.int a), .val (.int l), s4, s5, s6] = .ct [.val (prD s), .val (trafD t), .val (.int b), .val (.int l), s4', s5', s6']) := by
  have hlen := ht.len
  have ai : atI (t.map D.int) (l : Int) = some (.int t[l]) := by
    rw [atI_nat (by simpa using hl)]; simp
  have r0 : ex P19 CC z19 [.val (prD s), .val (trafD t), .val (.int a), .val (.int l), s4, s5, s6] = if t[l] = 0 then .ct [.val (prD s), .val (trafD t), .val (.int a), .val (.int l), s4, s5, s6] else .nx [.val (prD s), .val (trafD t), .val (.int a), .val (.int l), s4, s5, s6] := by
    unfold z19
    by_cases q : t[l] = 0 <;> simp [exs, ex, ev, evT, opd, trafD, ixS, ai, q, cmpS, eqD_int, truthD, vI, vB, Sl.d, SR.of, SR.then]
  by_cases q : t[l] = 0
  · refine ⟨a, s4, s5, s6, ha.congr fun x => PairP.skip (by unfold okL; rw [getD_at hl]; omega), .inr ?_⟩
    unfold out19
    rw [x_exs1, r0, if_pos q]
    rfl
  · have hk : okL t l := by
      unfold okL; rw [getD_at hl]
      have := ht.small t[l] (List.getElem_mem hl); omega
    have il := forI_ind (bt := bindT (.nm 4)) (b := exs P19 CC in19) (fun i E => ∃ b s4' s5' s6', Mx (PairQ (lateV s t) (okL t) l i) b ∧ E = [.val (prD s), .val (trafD t), .val (.int b), .val (.int l), s4', s5', s6'])
      (fun R => ∃ b s4' s5' s6', Mx (PairP (lateV s t) (okL t) (l + 1)) b ∧ R = .nx [.val (prD s), .val (trafD t), .val (.int b), .val (.int l), s4', s5', s6']) (rngD 0 ((l : Int) + 1))
      (fun i E d hd ⟨b, s4', s5', s6', hb, eE⟩ => by
        subst eE
        obtain ⟨rfl, hi⟩ := rng2_get hd
        refine ⟨[.val (prD s), .val (trafD t), .val (.int b), .val (.int l), .val (.int i), s5', s6'], by simp [bindT], ?_⟩
        obtain ⟨s5'', s6'', e⟩ := in19_ok (a := b) (s5 := s5') (s6 := s6') hs h0 ht (show i ≤ l by omega) hl hk
        rw [e]
        exact ⟨_, _, _, _, (Mx.step hb).congr fun x => PairQ.succ, rfl⟩)
      (fun E ⟨b, s4', s5', s6', hb, eE⟩ => by
        subst eE
        have e : (rngD 0 ((l : Int) + 1)).length = l + 1 := by rw [rng_len2]; omega
        rw [e] at hb
        exact ⟨b, s4', s5', s6', hb.congr fun x => PairQ.full hk, rfl⟩)
      [.val (prD s), .val (trafD t), .val (.int a), .val (.int l), s4, s5, s6] ⟨a, s4, s5, s6, ha.congr fun x => PairQ.zero.symm, rfl⟩
    obtain ⟨b, s4', s5', s6', hb, e⟩ := il
    refine ⟨b, s4', s5', s6', hb, .inl ?_⟩
    unfold out19
    rw [x_exs1, r0, if_neg q]
    simp only [SR.then]
    rw [x_exs1, x_for, rng1_ev (n := (l : Int) + 1) (E1 := [.val (prD s), .val (trafD t), .val (.int a), .val (.int l), s4, s5, s6]) (by simp [ev, opd, bopS, vI, Sl.d]) (by omega) (by omega)]
    simp only [SR.of, e, SR.then, x_exs0]
theorem sum_all (Φ : Nat → M Sl) {E : SE} {a : Nat} (h1 : E[a]? = some (.val (trafD t))) : ev Φ CC (.bi .sum [(.var a)]) E = .ok (vI t.sum) E := by
  have ei := intsOf_map t
  unfold trafD at h1
  simp [ev, opds, opd, slotAt, h1, biS, ei, vI]
theorem law_late_ok (hs : Srv s) (ht : Traf t) : ∃ b, (s.1 ≠ 0 → Mx (PairP (lateV s t) (okL t) t.length) b) ∧ F19 [.val (prD s), .val (trafD t)] = .ok (.val (optD (lateN s t b))) [.val (prD s), .val (trafD t)] := by
  have hlen := ht.len
  have r0 := hs.r0
  have z0 := zero_ev P19 (s := s) (j := 0) (E := [.val (prD s), .val (trafD t), .no, .no, .no, .no, .no]) rfl
  have su := sum_all P19 (t := t) (a := 1) (E := [.val (prD s), .val (trafD t), .no, .no, .no, .no, .no]) rfl
  have c0 : evT P19 CC (.cmp .Eq (.idx (.var 0) (.int 0)) (.int 0)) [.val (prD s), .val (trafD t), .no, .no, .no, .no, .no] = .ok (s.1 == 0) [.val (prD s), .val (trafD t), .no, .no, .no, .no, .no] := by
    rw [evT_cmpK, s_bind, opd_cmp, s_evA2, z0]
    simp [vB, Sl.d, truthD]
  unfold F19 fnS lateN
  rw [b19]
  by_cases hz : s.1 = 0
  · refine ⟨0, fun h => absurd hz h, ?_⟩
    show (match exs P19 CC _ [.val (prD s), .val (trafD t), .no, .no, .no, .no, .no] with | .rt s E => R.ok s ((wipeE E []).take 2) | .nx E => .ok (.val .non) ((wipeE E []).take 2) | .exc c x E => .exc c x ((wipeE E []).take 2) | _ => .bad) = _
    rw [x_exs1, x_ite, c0, if_pos hz]
    have e : ex P19 CC (.ret (.ite (.cmp .Gt (.bi .sum [(.var 1)]) (.int 0)) .non (.int 0))) [.val (prD s), .val (trafD t), .no, .no, .no, .no, .no] = .rt (.val (if 0 < t.sum then .non else .int 0)) [.val (prD s), .val (trafD t), .no, .no, .no, .no, .no] := by
      rw [x_ret]
      have cg : evT P19 CC (.cmp .Gt (.bi .sum [(.var 1)]) (.int 0)) [.val (prD s), .val (trafD t), .no, .no, .no, .no, .no] = .ok (decide (0 < t.sum)) [.val (prD s), .val (trafD t), .no, .no, .no, .no, .no] := by
        rw [evT_cmpK, s_bind, opd_cmp, s_evA2, ev_cmp, opd_bi, s_bind, s_evA2, su]
        simp [ev, opd, cmpS, truthD, vI, vB, Sl.d]
      by_cases q : 0 < t.sum
      · simp only [ev, s_bind, cg]
        simp [q, SR.of]
      · simp only [ev, s_bind, cg]
        simp [q, vI, SR.of]
    simp only [SR.of, hz, beq_self_eq_true, if_true, SR.then]
    rw [x_exs1, e]
    by_cases q : 0 < t.sum <;> simp [q, SR.then, wipeE, optD]
  · have il := forI_ind (bt := bindT (.nm 3)) (b := exs P19 CC out19) (fun i E => ∃ b s3 s4 s5 s6, Mx (PairP (lateV s t) (okL t) i) b ∧ E = [.val (prD s), .val (trafD t), .val (.int b), s3, s4, s5, s6])
      (fun R => ∃ b s3 s4 s5 s6, Mx (PairP (lateV s t) (okL t) t.length) b ∧ R = .nx [.val (prD s), .val (trafD t), .val (.int b), s3, s4, s5, s6]) (rngD 0 (t.length : Int))
      (fun i E d hd ⟨b, s3, s4, s5, s6, hb, eE⟩ => by
        subst eE
        obtain ⟨rfl, hi⟩ := rng2_get hd
        refine ⟨[.val (prD s), .val (trafD t), .val (.int b), .val (.int i), s4, s5, s6], by simp [bindT], ?_⟩
        obtain ⟨b', s4', s5', s6', hb', e⟩ := out19_ok (s4 := s4) (s5 := s5) (s6 := s6) hs (by omega) ht (show i < t.length by omega) hb
        rcases e with e | e
        · rw [e]; exact ⟨_, _, _, _, _, hb', rfl⟩
        · rw [e]; exact ⟨_, _, _, _, _, hb', rfl⟩)
      (fun E ⟨b, s3, s4, s5, s6, hb, eE⟩ => by
        subst eE
        have e : (rngD 0 (t.length : Int)).length = t.length := by rw [rng_len2]; omega
        rw [e] at hb
        exact ⟨b, s3, s4, s5, s6, hb, rfl⟩)
      [.val (prD s), .val (trafD t), .val (.int 0), .no, .no, .no, .no] ⟨0, .no, .no, .no, .no, PairP.zeroMx, rfl⟩
    obtain ⟨b, s3, s4, s5, s6, hb, e⟩ := il
    refine ⟨b, fun _ => hb, ?_⟩
    show (match exs P19 CC _ [.val (prD s), .val (trafD t), .no, .no, .no, .no, .no] with | .rt s E => R.ok s ((wipeE E []).take 2) | .nx E => .ok (.val .non) ((wipeE E []).take 2) | .exc c x E => .exc c x ((wipeE E []).take 2) | _ => .bad) = _
    have r3 : ex P19 CC (.set 2 (.int 0)) [.val (prD s), .val (trafD t), .no, .no, .no, .no, .no] = .nx [.val (prD s), .val (trafD t), .val (.int 0), .no, .no, .no, .no] := by
      simp [ex, ev, putS, vI, SR.of]
    rw [x_exs1, x_ite, c0, if_neg hz]
    simp only [SR.of, show (s.1 == 0) = false by simpa using hz, Bool.false_eq_true, if_false, x_exs0, SR.then]
    rw [x_exs1, r3]
    simp only [SR.then]
    rw [x_exs1, x_for, rng1_ev (n := (t.length : Int)) (E1 := [.val (prD s), .val (trafD t), .val (.int 0), .no, .no, .no, .no]) (by simp [ev, opds, opd, biS, lenD, trafD, vI, Sl.d]) (by omega) (by omega)]
    simp only [SR.of, e, SR.then]
    simp [exs, ex, ev, popS, SR.of, SR.then, wipeE, vI, optD]
end
end Lw
end

section
set_option Elab.async false
set_option linter.all false
set_option maxRecDepth 100000
set_option maxHeartbeats 1000000
/-! J42: k84, told_passed, lateness -/
namespace Lw
open PySem L2
def EndP (s : Int × Int) (t : List Int) (l m : Nat) (x : Int) : Prop := x = l ∨ ∃ i, i < m ∧ 0 < sumZ t i (l - i + 1) ∧ x = l + lateV s t i l
def in25 : List S := [.set 6 (.bi .sum [(.slc (.var 1) (.var 5) (.bop .Add (.var 3) (.int 1)))]), .ite (.cmp .Gt (.var 6) (.int 0)) [.app 4 (.bop .Add (.var 3) (.call 13 [(.var 0), (.var 6), (.bop .Add (.bop .Sub (.var 3) (.var 5)) (.int 1))]))] []]
def out25 : List S := [.set 4 (.lst [(.fz 3)]), .for_ (.nm 5) (.rng1 (.bop .Add (.var 3) (.int 1))) in25, .app 2 (.bi .max [(.var 4)])]
theorem b25 : B25 = [.set 2 (.lst []), .for_ (.nm 3) (.rng1 (.bi .len [(.var 1)])) out25, .ret (.mv 2)] := rfl
section
variable {s : Int × Int} {t : List Int}
theorem in25_ok (hs : Srv s) (h0 : 0 < s.1) (ht : Traf t) {es fs : List Int} {i l : Nat} {s6 : Sl} (he : es.length ≤ 1000) (hil : i ≤ l) (hl : l < t.length) :
    exs P25 CC in25 [.val (prD s), .val (trafD t), .own (intL fs), .val (.int l), .own (intL es), .val (.int i), s6] = .nx [.val (prD s), .val (trafD t), .own (intL fs), .val (.int l), .own (intL (if 0 < sumZ t i (l - i + 1) then es ++ [(l : Int) + lateV s t i l] else es)), .val (.int i), .val (.int (sumZ t i (l - i + 1)))] := by
  have q13 : P25 13 = F13 := rfl
  have e1 := sum_ev P25 (t := t) (a := 1) (b := 5) (c := 3) (i := i) (l := l) (E := [.val (prD s), .val (trafD t), .own (intL fs), .val (.int l), .own (intL es), .val (.int i), s6]) rfl rfl rfl hil hl
  have e2 := late_by_ok (n := sumZ t i (l - i + 1)) (t := (l : Int) - (i : Int) + 1) hs h0
  have sz : es.length < 16777216 := by omega
  unfold in25
  rw [x_exs1, x_set, e1]
  simp only [SR.of, putS, vI, List.length_cons, List.length_nil, Nat.reduceAdd, Nat.reduceLT, if_true, List.set_cons_succ, List.set_cons_zero, SR.then]
  by_cases q : 0 < sumZ t i (l - i + 1)
  · simp [exs, ex, ev, evT, opd, args, callS, evC, popS, q13, e2, q, isOwnL, intL, updS, appD, sizeLine_eq, sz, bopS, cmpS, truthD, putBack, putBack_ex, vI, vB, Sl.d, SR.of, SR.then, lateV]
  · simp [exs, ex, ev, evT, opd, q, cmpS, truthD, vI, vB, Sl.d, SR.of, SR.then]
theorem loop25 (hs : Srv s) (h0 : 0 < s.1) (ht : Traf t) {fs : List Int} {l : Nat} {s5 s6 : Sl} (hl : l < t.length) :
    ∃ es s5' s6', es ≠ [] ∧ (∀ x, x ∈ es ↔ EndP s t l (l + 1) x) ∧ forI (bindT (.nm 5)) (exs P25 CC in25) (rngD 0 ((l : Int) + 1)) [.val (prD s), .val (trafD t), .own (intL fs), .val (.int l), .own (intL [(l : Int)]), s5, s6] = .nx [.val (prD s), .val (trafD t), .own (intL fs), .val (.int l), .own (intL es), s5', s6'] := by
  have hlen := ht.len
  exact forI_ind (bt := bindT (.nm 5)) (b := exs P25 CC in25) (fun i E => ∃ es s5' s6', es ≠ [] ∧ es.length ≤ i + 1 ∧ (∀ x, x ∈ es ↔ EndP s t l i x) ∧ E = [.val (prD s), .val (trafD t), .own (intL fs), .val (.int l), .own (intL es), s5', s6'])
    (fun R => ∃ es s5' s6', es ≠ [] ∧ (∀ x, x ∈ es ↔ EndP s t l (l + 1) x) ∧ R = .nx [.val (prD s), .val (trafD t), .own (intL fs), .val (.int l), .own (intL es), s5', s6']) (rngD 0 ((l : Int) + 1))
    (fun i E d hd ⟨es, s5', s6', hne, hle, hm, eE⟩ => by
      subst eE
      obtain ⟨rfl, hi⟩ := rng2_get hd
      refine ⟨[.val (prD s), .val (trafD t), .own (intL fs), .val (.int l), .own (intL es), .val (.int i), s6'], by simp [bindT], ?_⟩
      rw [in25_ok hs h0 ht (by omega) (show i ≤ l by omega) hl]
      refine ⟨_, _, _, ?_, ?_, fun x => ?_, rfl⟩
      · split
        · simp
        · exact hne
      · split
        · simp; exact hle
        · omega
      · split
        · rename_i q
          rw [List.mem_append, hm]
          unfold EndP
          constructor
          · rintro ((h | ⟨j, h1, h2⟩) | h)
            · exact .inl h
            · exact .inr ⟨j, by omega, h2⟩
            · simp at h; exact .inr ⟨i, by omega, q, h⟩
          · rintro (h | ⟨j, h1, h2, h3⟩)
            · exact .inl (.inl h)
            · rcases Nat.lt_or_ge j i with z | z
              · exact .inl (.inr ⟨j, z, h2, h3⟩)
              · obtain rfl : j = i := by omega
                exact .inr (by simp [h3])
        · rename_i q
          rw [hm]
          unfold EndP
          constructor
          · rintro (h | ⟨j, h1, h2⟩)
            · exact .inl h
            · exact .inr ⟨j, by omega, h2⟩
          · rintro (h | ⟨j, h1, h2, h3⟩)
            · exact .inl h
            · rcases Nat.lt_or_ge j i with z | z
              · exact .inr ⟨j, z, h2, h3⟩
              · obtain rfl : j = i := by omega
                exact absurd h2 q)
    (fun E ⟨es, s5', s6', hne, hle, hm, eE⟩ => by
      subst eE
      have e : (rngD 0 ((l : Int) + 1)).length = l + 1 := by rw [rng_len2]; omega
      rw [e] at hm
      exact ⟨es, s5', s6', hne, hm, rfl⟩)
    _ ⟨[(l : Int)], s5, s6, by simp, by simp, fun x => by simp [EndP], rfl⟩
theorem out25_ok (hs : Srv s) (h0 : 0 < s.1) (ht : Traf t) {fs : List Int} {l : Nat} {s4 s5 s6 : Sl} (hf : fs.length ≤ 1000) (hl : l < t.length) :
    ∃ m es s5' s6', Mx (EndP s t l (l + 1)) m ∧ exs P25 CC out25 [.val (prD s), .val (trafD t), .own (intL fs), .val (.int l), s4, s5, s6] = .nx [.val (prD s), .val (trafD t), .own (intL (fs ++ [m])), .val (.int l), .own (intL es), s5', s6'] := by
  have hlen := ht.len
  obtain ⟨es, s5', s6', hne, hm, e⟩ := loop25 (fs := fs) (s5 := s5) (s6 := s6) hs h0 ht hl
  refine ⟨maxL es, es, s5', s6', (maxL_mx hne).congr hm, ?_⟩
  have r1 : ex P25 CC (.set 4 (.lst [(.fz 3)])) [.val (prD s), .val (trafD t), .own (intL fs), .val (.int l), s4, s5, s6] = .nx [.val (prD s), .val (trafD t), .own (intL fs), .val (.int l), .own (intL [(l : Int)]), s5, s6] := by
    simp [ex, ev, evD, fzS, sizeLine_eq, putS, intL, Sl.d, SR.of]
  have mx := max_ints hne
  have sz : fs.length < 16777216 := by omega
  unfold out25
  rw [x_exs1, r1]
  simp only [SR.then]
  rw [x_exs1, x_for, rng1_ev (n := (l : Int) + 1) (E1 := [.val (prD s), .val (trafD t), .own (intL fs), .val (.int l), .own (intL [(l : Int)]), s5, s6]) (by simp [ev, opd, bopS, vI, Sl.d]) (by omega) (by omega)]
  simp only [SR.of, e, SR.then]
  simp [exs, ex, ev, opds, opd, slotAt, isOwnL, intL, mx, updS, appD, sizeLine_eq, sz, vI, Sl.d, SR.of, SR.then]
theorem told_passed_ok (hs : Srv s) (h0 : 0 < s.1) (ht : Traf t) : ∃ fs : List Int, fs.length = t.length ∧ (∀ k x, fs[k]? = some x → Mx (EndP s t k (k + 1)) x) ∧ F25 [.val (prD s), .val (trafD t)] = .ok (.own (intL fs)) [.val (prD s), .val (trafD t)] := by
  have hlen := ht.len
  have il := forI_ind (bt := bindT (.nm 3)) (b := exs P25 CC out25) (fun i E => ∃ fs s3 s4 s5 s6, fs.length = i ∧ (∀ k x, fs[k]? = some x → Mx (EndP s t k (k + 1)) x) ∧ E = [.val (prD s), .val (trafD t), .own (intL fs), s3, s4, s5, s6])
    (fun R => ∃ fs s3 s4 s5 s6, fs.length = t.length ∧ (∀ k x, fs[k]? = some x → Mx (EndP s t k (k + 1)) x) ∧ R = .nx [.val (prD s), .val (trafD t), .own (intL fs), s3, s4, s5, s6]) (rngD 0 (t.length : Int))
    (fun i E d hd ⟨fs, s3, s4, s5, s6, hf, hm, eE⟩ => by
      subst eE
      obtain ⟨rfl, hi⟩ := rng2_get hd
      refine ⟨[.val (prD s), .val (trafD t), .own (intL fs), .val (.int i), s4, s5, s6], by simp [bindT], ?_⟩
      obtain ⟨m, es, s5', s6', hb, e⟩ := out25_ok (fs := fs) (s4 := s4) (s5 := s5) (s6 := s6) hs h0 ht (by omega) (show i < t.length by omega)
      rw [e]
      refine ⟨_, _, _, _, _, by simp [hf], fun k x hk => ?_, rfl⟩
      rcases Nat.lt_or_ge k fs.length with z | z
      · rw [List.getElem?_append_left z] at hk; exact hm k x hk
      · rw [List.getElem?_append_right z] at hk
        have : k = fs.length := by
          rcases Nat.lt_or_ge (k - fs.length) 1 with y | y
          · omega
          · rw [List.getElem?_eq_none (by simpa using y)] at hk; cases hk
        subst this
        simp at hk; subst hk
        rw [hf]; exact hb)
    (fun E ⟨fs, s3, s4, s5, s6, hf, hm, eE⟩ => by
      subst eE
      have e : (rngD 0 (t.length : Int)).length = t.length := by rw [rng_len2]; omega
      rw [e] at hf
      exact ⟨fs, s3, s4, s5, s6, hf, hm, rfl⟩)
    [.val (prD s), .val (trafD t), .own (intL []), .no, .no, .no, .no] ⟨[], .no, .no, .no, .no, rfl, fun k x h => by simp at h, rfl⟩
  obtain ⟨fs, s3, s4, s5, s6, hf, hm, e⟩ := il
  refine ⟨fs, hf, hm, ?_⟩
  have r0 : ex P25 CC (.set 2 (.lst [])) [.val (prD s), .val (trafD t), .no, .no, .no, .no, .no] = .nx [.val (prD s), .val (trafD t), .own (intL []), .no, .no, .no, .no] := by
    simp [ex, ev, evD, putS, intL, sizeLine_eq, SR.of]
  unfold F25 fnS
  rw [b25]
  show (match exs P25 CC _ [.val (prD s), .val (trafD t), .no, .no, .no, .no, .no] with | .rt s E => R.ok s ((wipeE E []).take 2) | .nx E => .ok (.val .non) ((wipeE E []).take 2) | .exc c x E => .exc c x ((wipeE E []).take 2) | _ => .bad) = _
  rw [x_exs1, r0]
  simp only [SR.then]
  rw [x_exs1, x_for, rng1_ev (n := (t.length : Int)) (E1 := [.val (prD s), .val (trafD t), .own (intL []), .no, .no, .no, .no]) (by simp [ev, opds, opd, biS, lenD, trafD, vI, Sl.d]) (by omega) (by omega)]
  simp only [SR.of, e, SR.then]
  simp [exs, ex, ev, popS, SR.of, SR.then, wipeE]
def lc26 : E := .lc (.bop .Sub (.var 3) (.var 2)) (.tup [(.nm 2), (.nm 3)]) (.enum (.call 25 [(.var 0), (.var 1)])) [(.cmp .Gt (.idx (.var 1) (.var 2)) (.int 0))] [2, 3]
def okB (t : List Int) (x : Int × Nat) : Bool := decide (0 < t.getD x.2 0)
theorem lateness_ok (hs : Srv s) (ht : Traf t) : ∃ b, (s.1 ≠ 0 → Mx (PairP (lateV s t) (okL t) t.length) b) ∧ F26 [.val (prD s), .val (trafD t)] = .ok (.val (optD (lateN s t b))) [.val (prD s), .val (trafD t)] := by
  have hlen := ht.len
  have r0 := hs.r0
  have q11 : P26 11 = F11 := rfl
  have q24 : P26 24 = F24 := rfl
  have q25 : P26 25 = F25 := rfl
  have e11 := look_server_ok hs
  have e24 := look_traffic_ok ht
  have b26 : B26 = [.ex (.call 11 [(.var 0)]), .ex (.call 24 [(.var 1)]), .ite (.cmp .Eq (.idx (.var 0) (.int 0)) (.int 0)) [.ret (.ite (.cmp .Gt (.bi .sum [(.var 1)]) (.int 0)) .non (.int 0))] [], .ret (.bi .max [(.lst [(.int 0), (.star lc26)])])] := rfl
  have w1 : ex P26 CC (.ex (.call 11 [(.var 0)])) [.val (prD s), .val (trafD t), .no, .no] = .nx [.val (prD s), .val (trafD t), .no, .no] := by
    simp [ex, ev, args, callS, evC, popS, q11, e11, putBack, SR.of]
  have w2 : ex P26 CC (.ex (.call 24 [(.var 1)])) [.val (prD s), .val (trafD t), .no, .no] = .nx [.val (prD s), .val (trafD t), .no, .no] := by
    simp [ex, ev, args, callS, evC, popS, q24, e24, putBack, SR.of]
  have z0 := zero_ev P26 (s := s) (j := 0) (E := [.val (prD s), .val (trafD t), .no, .no]) rfl
  have su := sum_all P26 (t := t) (a := 1) (E := [.val (prD s), .val (trafD t), .no, .no]) rfl
  have c0 : evT P26 CC (.cmp .Eq (.idx (.var 0) (.int 0)) (.int 0)) [.val (prD s), .val (trafD t), .no, .no] = .ok (s.1 == 0) [.val (prD s), .val (trafD t), .no, .no] := by
    rw [evT_cmpK, s_bind, opd_cmp, s_evA2, z0]
    simp [vB, Sl.d, truthD]
  unfold F26 fnS lateN
  rw [b26]
  by_cases hz : s.1 = 0
  · refine ⟨0, fun h => absurd hz h, ?_⟩
    show (match exs P26 CC _ [.val (prD s), .val (trafD t), .no, .no] with | .rt s E => R.ok s ((wipeE E []).take 2) | .nx E => .ok (.val .non) ((wipeE E []).take 2) | .exc c x E => .exc c x ((wipeE E []).take 2) | _ => .bad) = _
    rw [x_exs1, w1]
    simp only [SR.then]
    rw [x_exs1, w2]
    simp only [SR.then]
    rw [x_exs1, x_ite, c0, if_pos hz]
    have e : ex P26 CC (.ret (.ite (.cmp .Gt (.bi .sum [(.var 1)]) (.int 0)) .non (.int 0))) [.val (prD s), .val (trafD t), .no, .no] = .rt (.val (if 0 < t.sum then .non else .int 0)) [.val (prD s), .val (trafD t), .no, .no] := by
      rw [x_ret]
      have cg : evT P26 CC (.cmp .Gt (.bi .sum [(.var 1)]) (.int 0)) [.val (prD s), .val (trafD t), .no, .no] = .ok (decide (0 < t.sum)) [.val (prD s), .val (trafD t), .no, .no] := by
        rw [evT_cmpK, s_bind, opd_cmp, s_evA2, ev_cmp, opd_bi, s_bind, s_evA2, su]
        simp [ev, opd, cmpS, truthD, vI, vB, Sl.d]
      by_cases q : 0 < t.sum
      · simp only [ev, s_bind, cg]
        simp [q, SR.of]
      · simp only [ev, s_bind, cg]
        simp [q, vI, SR.of]
    simp only [SR.of, hz, beq_self_eq_true, if_true, SR.then]
    rw [x_exs1, e]
    by_cases q : 0 < t.sum <;> simp [q, SR.then, wipeE, optD]
  · obtain ⟨fs, hf, hm, e25⟩ := told_passed_ok hs (by omega) ht
    have ei : evI P26 CC (.enum (.call 25 [(.var 0), (.var 1)])) [.val (prD s), .val (trafD t), .no, .no] = .ok (fs.zipIdx.map fun x => D.tup [.int x.2, .int x.1]) [.val (prD s), .val (trafD t), .no, .no] := by
      have ee : enumD (fs.map D.int) = fs.zipIdx.map fun x => D.tup [.int x.2, .int x.1] := by
        unfold enumD
        rw [List.zipIdx_map, List.map_map]
        rfl
      simp [evI, evC, ev, args, callS, popS, q25, e25, putBack, intL, itemsD, Sl.d]
      exact ee
    have lc : ev P26 CC lc26 [.val (prD s), .val (trafD t), .no, .no] = .ok (.own (.lst ((fs.zipIdx.filter (okB t)).map fun x => D.int (x.1 - (x.2 : Int))))) [.val (prD s), .val (trafD t), .no, .no] := by
      unfold lc26
      refine lc_flt fs.zipIdx (fun x => D.tup [.int x.2, .int x.1]) (fun x => D.int (x.1 - (x.2 : Int))) (okB t) [.val (prD s), .val (trafD t), .no, .no] ei (by simp [notOwn]) (by simp [wipeE]) (by simp [wipeE]) (by simp [backE]) (by simp; omega) fun x hx => ?_
      obtain ⟨v, k⟩ := x
      have hk := List.mem_zipIdx_iff_getElem?.mp hx
      have hkl : k < t.length := by
        rcases Nat.lt_or_ge k fs.length with z | z
        · omega
        · have hk : fs[k]? = some v := hk
          rw [List.getElem?_eq_none z] at hk; cases hk
      have ai : atI (t.map D.int) (k : Int) = some (.int t[k]) := by
        rw [atI_nat (by simpa using hkl)]; simp
      have gd := getD_at hkl
      refine ⟨[.val (prD s), .val (trafD t), .val (.int k), .val (.int v)], [.val (prD s), .val (trafD t), .val (.int k), .val (.int v)], by simp [bindT, bindTs], ?_, fun _ => ⟨[.val (prD s), .val (trafD t), .val (.int k), .val (.int v)], vI (v - (k : Int)), by simp [ev, opd, bopS, vI, Sl.d], rfl, by simp [wipeE]⟩, fun _ => by simp [wipeE]⟩
      unfold okB
      rw [gd]
      by_cases q : 0 < t[k] <;> simp [evTs, lcI.allT, evT, ev, opd, trafD, ixS, ai, cmpS, truthD, q, vI, vB, Sl.d]
    have ll : ((fs.zipIdx.filter (okB t)).map fun x => D.int (x.1 - (x.2 : Int))) = ((fs.zipIdx.filter (okB t)).map fun x => x.1 - (x.2 : Int)).map D.int := by rw [List.map_map]; rfl
    have fl : (fs.zipIdx.filter (okB t)).length ≤ 500 := by
      have := List.length_filter_le (okB t) fs.zipIdx
      simp at this; omega
    have mx := max0_ev (Φ := P26) (e := lc26) (l := (fs.zipIdx.filter (okB t)).map fun x => x.1 - (x.2 : Int)) (E := [.val (prD s), .val (trafD t), .no, .no]) (by rw [lc, ll]) (by simp; omega)
    refine ⟨maxL (0 :: (fs.zipIdx.filter (okB t)).map fun x => x.1 - (x.2 : Int)), fun _ => ?_, ?_⟩
    rotate_left
    · show (match exs P26 CC _ [.val (prD s), .val (trafD t), .no, .no] with | .rt s E => R.ok s ((wipeE E []).take 2) | .nx E => .ok (.val .non) ((wipeE E []).take 2) | .exc c x E => .exc c x ((wipeE E []).take 2) | _ => .bad) = _
      rw [x_exs1, w1]
      simp only [SR.then]
      rw [x_exs1, w2]
      simp only [SR.then]
      rw [x_exs1, x_ite, c0, if_neg hz]
      simp only [SR.of, show (s.1 == 0) = false by simpa using hz, Bool.false_eq_true, if_false, x_exs0, SR.then]
      rw [x_exs1, x_ret, mx]
      simp [SR.of, SR.then, wipeE, vI, optD]
    · obtain ⟨q1, q2⟩ := maxL_mx (l := 0 :: (fs.zipIdx.filter (okB t)).map fun x => x.1 - (x.2 : Int)) (by simp)
      refine ⟨?_, fun x hx => ?_⟩
      · rcases List.mem_cons.mp q1 with h | h
        · exact .inl h
        · obtain ⟨⟨v, k⟩, hv, e⟩ := List.mem_map.mp h
          obtain ⟨hv1, hv2⟩ := List.mem_filter.mp hv
          have hk : fs[k]? = some v := List.mem_zipIdx_iff_getElem?.mp hv1
          have hkl : k < t.length := by
            rcases Nat.lt_or_ge k fs.length with z | z
            · omega
            · rw [List.getElem?_eq_none z] at hk; cases hk
          have e' : v - (k : Int) = maxL (0 :: (fs.zipIdx.filter (okB t)).map fun x => x.1 - (x.2 : Int)) := e
          rw [← e']
          rcases (hm k v hk).1 with z | ⟨i, hi, _, z⟩
          · exact .inl (by omega)
          · exact .inr ⟨i, k, by omega, hkl, (of_decide_eq_true hv2 : 0 < t.getD k 0), by omega⟩
      · rcases hx with rfl | ⟨i, l, hil, hl, hk, rfl⟩
        · exact q2 0 List.mem_cons_self
        · have hk2 : fs[l]? = some (fs[l]'(by omega)) := List.getElem?_eq_getElem (by omega)
          have u := (hm l _ hk2).2 (l + lateV s t i l) (.inr ⟨i, by omega, sum_pos ht.small hil hl hk, rfl⟩)
          have mem : fs[l]'(by omega) - (l : Int) ∈ 0 :: (fs.zipIdx.filter (okB t)).map fun x => x.1 - (x.2 : Int) :=
            List.mem_cons_of_mem _ (List.mem_map.mpr ⟨(fs[l]'(by omega), l), List.mem_filter.mpr ⟨List.mem_zipIdx_iff_getElem?.mpr hk2, (decide_eq_true (show 0 < t.getD l 0 from hk) : okB t (fs[l], l) = true)⟩, rfl⟩)
          have := q2 _ mem
          omega
end
end Lw
end

section
set_option Elab.async false
set_option linter.all false
set_option maxRecDepth 100000
set_option maxHeartbeats 1000000
/-! J43: k84, values of any kind -/
namespace Lw
open PySem L2
mutual
def cleanB : D → Bool
  | .tup xs => cleanBs xs
  | .lst xs => cleanBs xs
  | .str z => PyData.strOk z
  | .ty _ => false
  | .scr _ => false
  | .dt _ _ => false
  | _ => true
def cleanBs : List D → Bool
  | [] => true
  | d :: r => cleanB d && cleanBs r
end
theorem cleans_iff : ∀ {xs : List D}, cleanBs xs = true ↔ ∀ d ∈ xs, cleanB d = true
  | [] => by simp [cleanBs]
  | d :: r => by simp [cleanBs, cleans_iff (xs := r)]
theorem clean_ty {d : D} (h : cleanB d = true) : (tyD d).isSome = true := by
  cases d <;> first | rfl | (exact absurd h (by simp [cleanB]))
theorem clean_tup {xs : List D} (h : cleanB (.tup xs) = true) : ∀ d ∈ xs, cleanB d = true := cleans_iff.mp (by simpa [cleanB] using h)
theorem clean_of {xs : List D} (h : ∀ d ∈ xs, cleanB d = true) : cleanB (.tup xs) = true := by simpa [cleanB] using cleans_iff.mpr h
/-! ### what the two functions say -/
noncomputable def latB (s : Int × Int) (t : List Int) : Int := open Classical in if h : ∃ b, Mx (PairP (lateV s t) (okL t) t.length) b then h.choose else 0
theorem latB_eq {s : Int × Int} {t : List Int} {b : Int} (h : Mx (PairP (lateV s t) (okL t) t.length) b) : latB s t = b := by
  have ex : ∃ b, Mx (PairP (lateV s t) (okL t) t.length) b := ⟨b, h⟩
  unfold latB
  rw [dif_pos ex]
  exact ex.choose_spec.same h
/-- so late is the traffic -/
noncomputable def lateT (s : Int × Int) (t : List Int) : Option Int := lateN s t (latB s t)
theorem lateN_eq {s : Int × Int} {t : List Int} {b : Int} (h : s.1 ≠ 0 → Mx (PairP (lateV s t) (okL t) t.length) b) : lateN s t b = lateT s t := by
  unfold lateT lateN
  by_cases hz : s.1 = 0
  · rw [if_pos hz, if_pos hz]
  · rw [if_neg hz, if_neg hz, latB_eq (h hz)]
theorem late_law {s : Int × Int} {t : List Int} (hs : Srv s) (ht : Traf t) : F19 [.val (prD s), .val (trafD t)] = .ok (.val (optD (lateT s t))) [.val (prD s), .val (trafD t)] := by
  obtain ⟨b, hb, e⟩ := law_late_ok hs ht
  rw [e, lateN_eq hb]
theorem late_own {s : Int × Int} {t : List Int} (hs : Srv s) (ht : Traf t) : F26 [.val (prD s), .val (trafD t)] = .ok (.val (optD (lateT s t))) [.val (prD s), .val (trafD t)] := by
  obtain ⟨b, hb, e⟩ := lateness_ok hs ht
  rw [e, lateN_eq hb]
noncomputable def heldT (s : Int × Int) (t : List Int) : Int := open Classical in if h : ∃ b, Mx (PairP (heldV s t) All t.length) b then h.choose else 0
theorem heldT_mx {s : Int × Int} {t : List Int} {b : Int} (h : Mx (PairP (heldV s t) All t.length) b) : heldT s t = b := by
  have ex : ∃ b, Mx (PairP (heldV s t) All t.length) b := ⟨b, h⟩
  unfold heldT
  rw [dif_pos ex]
  exact ex.choose_spec.same h
theorem held_own {s : Int × Int} {t : List Int} (hs : Srv s) (ht : Traf t) : F28 [.val (prD s), .val (trafD t)] = .ok (vI (heldT s t)) [.val (prD s), .val (trafD t)] := by
  obtain ⟨b, hb, e⟩ := held_ok hs ht
  rw [e, heldT_mx hb]
theorem held_law {s : Int × Int} {t : List Int} (hs : Srv s) (ht : Traf t) : F29 [.val (prD s), .val (trafD t)] = .ok (vI (heldT s t)) [.val (prD s), .val (trafD t)] := by
  obtain ⟨b, hb, e⟩ := law_held_ok hs ht
  rw [e, heldT_mx hb]
theorem heldT_is {s : Int × Int} {t : List Int} (hs : Srv s) (ht : Traf t) : Mx (PairP (heldV s t) All t.length) (heldT s t) := by
  obtain ⟨b, hb, e⟩ := law_held_ok hs ht
  rw [heldT_mx hb]; exact hb
/-! ### traffic of any kind -/
def allIn (ws : List D) : Bool := ws.all fun d => intIn d 0 1000
def trafB : D → Bool
  | .tup ws => decide (ws.length ≤ 500) && allIn ws
  | _ => false
def intsD (ws : List D) : List Int := ws.map fun d => match d with | .int i => i | _ => 0
theorem allIn_traf {ws : List D} (h : allIn ws = true) : D.tup ws = trafD (intsD ws) ∧ ∀ x ∈ intsD ws, 0 ≤ x ∧ x ≤ 1000 := by
  have hm := List.all_eq_true.mp h
  have e : ws = (intsD ws).map D.int := by
    unfold intsD
    rw [List.map_map]
    conv => lhs; rw [← List.map_id ws]
    refine List.map_congr_left fun d hd => ?_
    have := hm d hd
    cases d with
    | int i => rfl
    | _ => cases this
  refine ⟨by unfold trafD; rw [← e], fun x hx => ?_⟩
  obtain ⟨d, hd, rfl⟩ := List.mem_map.mp hx
  have := hm d hd
  cases d with
  | int i => simp only [intIn, Bool.and_eq_true, decide_eq_true_eq] at this; exact this
  | _ => cases this
theorem trafB_traf {w : D} (h : trafB w = true) : ∃ t, Traf t ∧ w = trafD t := by
  cases w with
  | tup ws =>
    simp only [trafB, Bool.and_eq_true, decide_eq_true_eq] at h
    obtain ⟨e, q⟩ := allIn_traf h.2
    exact ⟨intsD ws, ⟨by simp [intsD]; exact h.1, q⟩, e⟩
  | _ => cases h
theorem traf_trafB {t : List Int} (h : Traf t) : trafB (trafD t) = true := by
  unfold trafD
  simp only [trafB, Bool.and_eq_true, decide_eq_true_eq, List.length_map]
  refine ⟨h.len, List.all_eq_true.mpr fun d hd => ?_⟩
  obtain ⟨x, hx, rfl⟩ := List.mem_map.mp hd
  have := h.small x hx
  simp [intIn, this.1, this.2]
/-- all([is_int(one, 0, 1000) for one in ws]) -/
theorem all_in (Φ : Nat → M Sl) {k i : Nat} {it x : E} {ws : List D} {E E1 : SE} (W : SE) (hk : ∀ d : D, (tyD d).isSome = true → Φ k [.val d, .val (.int 0), .val (.int 1000)] = .ok (.val (.bl (intIn d 0 1000))) [.val d, .val (.int 0), .val (.int 1000)])
    (hx : ∀ E, ev Φ CC x E = .ok (.val (.int 1000)) E) (hax : ∀ r, args Φ CC (x :: r) = .ex (ev Φ CC x) :: args Φ CC r)
    (hi : evI Φ CC it E = .ok ws E1) (hn : notOwn E1 [i] = true) (hW1 : wipeE E1 [i] = W) (hW : wipeE W [i] = W) (hB : backE E1 W [i] = E1) (hl : ws.length ≤ 1000000) (hc : ∀ d ∈ ws, cleanB d = true)
    (hiW : i < W.length) :
    ev Φ CC (.bi .all [(.lc (.call k [(.var i), (.int 0), x]) (.nm i) it [] [i])]) E = .ok (vB (allIn ws)) E1 := by
  have lc := lc_all (Φ := Φ) (C := CC) (elt := .call k [(.var i), (.int 0), x]) (it := it) (tg := .nm i) (own := [i]) ws id (fun d => D.bl (intIn d 0 1000)) (E := E) (E1 := E1) W (by rw [List.map_id]; exact hi) hn hW1 hW hB hl (fun d hd => by
    have e := hk d (clean_ty (hc d hd))
    refine ⟨W.set i (.val d), W.set i (.val d), .val (.bl (intIn d 0 1000)), by simp [bindT, hiW], ?_, rfl, ?_⟩
    · have a0 : args Φ CC [.var i, .int 0, x] = [.slot i, .ex (ev Φ CC (.int 0)), .ex (ev Φ CC x)] := by
        rw [args, args, hax, args] <;> (intros; rename_i z; cases z)
      rw [ev]
      unfold callS
      rw [a0]
      simp [evC, slotAt, popS, hiW, ev, hx, vI, e, putBack]
    · have hW' : (W.set i .no) = W := by simpa [wipeE] using hW
      simp [wipeE]; exact hW')
  have hb := blsOf_map (ws.map fun d => intIn d 0 1000)
  rw [List.map_map] at hb
  have e2 : blsOf (ws.map fun d => D.bl (intIn d 0 1000)) = some (ws.map fun d => intIn d 0 1000) := hb
  rw [ev_biK, opds1, opd_lc, s_bind, s_evA2, lc]
  simp [opds, Sl.d, biS, e2, vB, allIn, List.all_map]
theorem is_traffic_any {w : D} (h : cleanB w = true) (hl : ∀ ws, w = .tup ws → ws.length ≤ 1000000) : F23 [.val w] = .ok (vB (trafB w)) [.val w] := by
  have q7 : P23 7 = F7 := rfl
  have eA : ∀ a b : E, ev P23 CC (.andV a b) = M.bind (ev P23 CC a) fun s => match s with | .val (.bl true) => ev P23 CC b | .val (.bl false) => M.pure (vB false) | _ => M.bad := fun a b => by rw [ev] <;> rfl
  have b23 : B23 = [.ret (.andV (.bi .isinstance [(.var 0), (.tyc "tuple")]) (.andV (.cmp .LtE (.bi .len [(.var 0)]) (.cst 7)) (.bi .all [(.lc (.call 7 [(.var 1), (.int 0), (.cst 6)]) (.nm 1) (.fz 0) [] [1])])))] := rfl
  by_cases ht : ∃ ws, w = .tup ws
  · obtain ⟨ws, rfl⟩ := ht
    have hws := hl ws rfl
    have al := all_in P23 (k := 7) (i := 1) (it := .fz 0) (x := .cst 6) (ws := ws) (E := [.val (.tup ws), .no]) (E1 := [.val (.tup ws), .no]) [.val (.tup ws), .no] (fun d hd => is_int_any P7 hd 0 1000) (fun E => by simp [ev, CC])
      (fun r => by rw [args] <;> (intros; rename_i z; cases z)) (by simp [evI, ev, fzS, Sl.d, itemsD]) (by simp [notOwn]) (by simp [wipeE]) (by simp [wipeE]) (by simp [backE]) hws (clean_tup h) (by simp)
    have c1 : ev P23 CC (.bi .isinstance [(.var 0), (.tyc "tuple")]) [.val (.tup ws), .no] = .ok (vB true) [.val (.tup ws), .no] := by
      simp [ev, opds, opd, biS, isiT, Sl.d]
    have c2 : ev P23 CC (.cmp .LtE (.bi .len [(.var 0)]) (.cst 7)) [.val (.tup ws), .no] = .ok (vB (decide ((ws.length : Int) ≤ 500))) [.val (.tup ws), .no] := by
      simp [ev, opds, opd, biS, lenD, cmpS, CC, vI, Sl.d]
    unfold F23 fnS
    rw [b23]
    show (match exs P23 CC _ [.val (.tup ws), .no] with | .rt s E => R.ok s ((wipeE E []).take 1) | .nx E => .ok (.val .non) ((wipeE E []).take 1) | .exc c x E => .exc c x ((wipeE E []).take 1) | _ => .bad) = _
    rw [x_exs1, x_ret, eA, s_bind, c1]
    simp only [s_ok, vB]
    rw [eA, s_bind, c2]
    by_cases q : ws.length ≤ 500
    · have q' : decide ((ws.length : Int) ≤ 500) = true := decide_eq_true (by omega)
      simp only [s_ok, vB, q']
      rw [al]
      simp [SR.of, SR.then, wipeE, vB, trafB, q]
    · have q' : decide ((ws.length : Int) ≤ 500) = false := decide_eq_false (by omega)
      simp [q', SR.of, SR.then, wipeE, vB, trafB, q]
  · have nt := not_tup (fun xs e => ht ⟨xs, e⟩) (clean_ty h)
    have tb : trafB w = false := by
      cases w with
      | tup ws => exact absurd ⟨ws, rfl⟩ ht
      | _ => rfl
    rw [tb]
    unfold F23 B23
    simp [fnS, exs, ex, ev, opds, opd, biS, nt, vB, Sl.d, wipeE, SR.of, SR.then]
end Lw
end

section
set_option Elab.async false
set_option linter.all false
set_option maxRecDepth 100000
set_option maxHeartbeats 2000000
/-! J44: k84, shows_late_most -/
namespace Lw
open PySem L2
def wInts : D → List Int
  | .tup ws => intsD ws
  | _ => []
theorem wInts_traf (t : List Int) : wInts (trafD t) = t := by
  show (t.map D.int).map _ = t
  rw [List.map_map]
  exact List.map_id t
def badB : D → Bool
  | .tup [.str _] => false
  | .tup [.str _, _, _] => false
  | _ => true
noncomputable def due3 (c : Cv) (s : Int × Int) (z : Str) (y w : D) : Option Int → Bool
  | none => false
  | some m => decide (z = ("late" : Str)) && (intIn y m m && (trafB w && ((hits c (wInts w)).isEmpty && (m == 0 || lateT s (wInts w) == some m))))
noncomputable def dueV (c : Cv) (s : Int × Int) : D → Bool
  | .tup [.str z] => decide (z = ("never" : Str)) && (lateO c s).isNone
  | .tup [.str z, y, w] => due3 c s z y w (lateO c s)
  | _ => false
theorem due_bad {c : Cv} {s : Int × Int} {v : D} (h : badB v = true) : dueV c s v = false := by
  unfold dueV
  split
  · cases h
  · cases h
  · rfl
theorem bad_cases {v : D} (h : badB v = false) : (∃ z, v = .tup [.str z]) ∨ ∃ z y w, v = .tup [.str z, y, w] := by
  unfold badB at h
  split at h
  · exact .inl ⟨_, rfl⟩
  · exact .inr ⟨_, _, _, rfl⟩
  · cases h
def tstE (i : Nat) (e3 : E) : E := .orV (.notV (.bi .isinstance [.var i, .tyc "tuple"])) (.orV (.cmp .NotIn (.bi .len [.var i]) (.tup [.int 1, e3])) (.notV (.bi .isinstance [.idx (.var i) (.int 0), .tyc "str"])))
theorem tst_ok (Φ : Nat → M Sl) {i : Nat} {e3 : E} {v : D} {E : SE} (hi : E[i]? = some (.val v)) (h3 : e3 = .cst 8 ∨ e3 = .int 3) (hc : cleanB v = true) : evT Φ CC (tstE i e3) E = .ok (badB v) E := by
  have c8 : CC 8 = .int 3 := rfl
  by_cases ht : ∃ xs, v = .tup xs
  · obtain ⟨xs, rfl⟩ := ht
    by_cases h1 : xs.length = 1
    · obtain ⟨x, rfl⟩ := List.length_eq_one_iff.mp h1
      have a0 : atI [x] 0 = some x := rfl
      have cx := clean_ty (clean_tup hc x (by simp))
      by_cases hs : ∃ z, x = .str z
      · obtain ⟨z, rfl⟩ := hs
        rcases h3 with rfl | rfl <;> (unfold tstE; simp [evT, ev, evD, opds, opd, slotAt, hi, biS, isiT, isiStr, lenD, c8, sizeLine_eq, in13_1, ixS, a0, truthD, vI, vB, Sl.d, badB])
      · have ns := not_strD (v := x) (fun z e => hs ⟨z, e⟩) cx
        have bb : badB (.tup [x]) = true := by
          cases x with
          | str z => exact absurd ⟨z, rfl⟩ hs
          | _ => rfl
        rw [bb]
        rcases h3 with rfl | rfl <;> (unfold tstE; simp [evT, ev, evD, opds, opd, slotAt, hi, biS, isiT, ns, lenD, c8, sizeLine_eq, in13_1, ixS, a0, truthD, vI, vB, Sl.d])
    · by_cases h5 : xs.length = 3
      · obtain ⟨x, y, w, rfl⟩ := len3 h5
        have a0 : atI [x, y, w] 0 = some x := rfl
        have cx := clean_ty (clean_tup hc x (by simp))
        by_cases hs : ∃ z, x = .str z
        · obtain ⟨z, rfl⟩ := hs
          rcases h3 with rfl | rfl <;> (unfold tstE; simp [evT, ev, evD, opds, opd, slotAt, hi, biS, isiT, isiStr, lenD, c8, sizeLine_eq, in13_3, ixS, a0, truthD, vI, vB, Sl.d, badB])
        · have ns := not_strD (v := x) (fun z e => hs ⟨z, e⟩) cx
          have bb : badB (.tup [x, y, w]) = true := by
            cases x with
            | str z => exact absurd ⟨z, rfl⟩ hs
            | _ => rfl
          rw [bb]
          rcases h3 with rfl | rfl <;> (unfold tstE; simp [evT, ev, evD, opds, opd, slotAt, hi, biS, isiT, ns, lenD, c8, sizeLine_eq, in13_3, ixS, a0, truthD, vI, vB, Sl.d])
      · have bb : badB (.tup xs) = true := by
          match xs, h1, h5 with
          | [], _, _ => rfl
          | [_], h1, _ => exact absurd rfl h1
          | [a, _], _, _ => cases a <;> rfl
          | [_, _, _], _, h5 => exact absurd rfl h5
          | a :: _ :: _ :: _ :: _, _, _ => cases a <;> rfl
        have n13 := notin13 (n := (xs.length : Int)) (by omega) (by omega)
        rw [bb]
        rcases h3 with rfl | rfl <;> (unfold tstE; simp [evT, ev, evD, opds, opd, slotAt, hi, biS, isiT, lenD, c8, sizeLine_eq, n13, truthD, vI, vB, Sl.d])
  · have nt := not_tup (fun xs e => ht ⟨xs, e⟩) (clean_ty hc)
    have bb : badB v = true := by
      cases v with
      | tup ws => exact absurd ⟨ws, rfl⟩ ht
      | _ => rfl
    rw [bb]
    unfold tstE
    simp [evT, ev, opds, opd, slotAt, hi, biS, nt, truthD, vB, Sl.d]
theorem isNon_opt (o : Option Int) : isNonD (optD o) = o.isNone := by cases o <;> rfl
theorem strOk_late : PyData.strOk ("late" : Str) = true := by decide +kernel
theorem strOk_never : PyData.strOk ("never" : Str) = true := by decide +kernel
theorem head_non (h : Cv) : isNonD (headD h) = h.isEmpty := by cases h <;> rfl
theorem intIn_self {y : D} {m : Int} (h : intIn y m m = true) : y = .int m := by
  cases y with
  | int v => simp only [intIn, Bool.and_eq_true, decide_eq_true_eq] at h; congr 1; omega
  | _ => cases h
def c40 : E := .orV (.cmp .NotEq (.idx (.var 2) (.int 0)) (.cst 5)) (.orV (.cmp .Is (.var 3) .non) (.orV (.notV (.call 7 [(.idx (.var 2) (.int 1)), (.var 3), (.var 3)])) (.notV (.call 23 [(.idx (.var 2) (.int 2))]))))
def e40 : E := .andV (.cmp .Is (.call 39 [(.var 0), (.idx (.var 2) (.int 2))]) .non) (.orV (.cmp .Eq (.var 3) (.int 0)) (.cmp .Eq (.call 26 [(.var 1), (.idx (.var 2) (.int 2))]) (.var 3)))
def l40 : S := .ite (.cmp .Eq (.bi .len [(.var 2)]) (.int 1)) [.ret (.andV (.cmp .Eq (.idx (.var 2) (.int 0)) (.cst 4)) (.cmp .Is (.var 3) .non))] []
theorem b40 : B40 = [.ex (.call 9 [(.var 0)]), .ex (.call 11 [(.var 1)]), .set 3 (.call 15 [(.var 0), (.var 1)]), .ite (tstE 2 (.cst 8)) [.ret (.bl false)] [], l40, .ite c40 [.ret (.bl false)] [], .ret e40] := rfl
section
variable {c : Cv} {s : Int × Int}
theorem c40_ok {z : Str} {y w : D} (hz : PyData.strOk z = true) (hy : cleanB y = true) (hw : cleanB w = true) (hl : ∀ ws, w = .tup ws → ws.length ≤ 1000000) :
    evT P40 CC c40 [.val (curveD c), .val (prD s), .val (.tup [.str z, y, w]), .val (optD (lateO c s))] = .ok (!(match lateO c s with | none => false | some m => decide (z = ("late" : Str)) && (intIn y m m && trafB w))) [.val (curveD c), .val (prD s), .val (.tup [.str z, y, w]), .val (optD (lateO c s))] := by
  have q7 : P40 7 = F7 := rfl
  have q23 : P40 23 = F23 := rfl
  have c5 : CC 5 = .str "late" := rfl
  have a0 : atI [D.str z, y, w] 0 = some (.str z) := rfl
  have a1 : atI [D.str z, y, w] 1 = some y := rfl
  have a2 : atI [D.str z, y, w] 2 = some w := rfl
  have es := eqD_str hz strOk_late
  have e23 := is_traffic_any hw hl
  unfold c40
  by_cases hq : z = ("late" : Str)
  · have eb : (z == ("late" : Str)) = true := by simpa using hq
    rw [eb] at es
    have hd : decide (z = ("late" : Str)) = true := decide_eq_true hq
    rw [hd]
    cases e : lateO c s with
    | none => simp [evT, ev, opd, slotAt, ixS, a0, c5, cmpS, es, isNonD, optD, truthD, vB, vI, Sl.d]
    | some m =>
      have e7 := is_int_any P7 (clean_ty hy) m m
      have e7' : F7 [.val y, .val (.int m), .val (.int m)] = .ok (vB (intIn y m m)) [.val y, .val (.int m), .val (.int m)] := e7
      by_cases h1 : intIn y m m = true
      · by_cases h2 : trafB w = true
        · simp [evT, ev, opd, args, callS, evC, popS, slotAt, ixS, a0, a1, a2, c5, q7, q23, e7', e23, cmpS, es, isNonD, optD, truthD, putBack, putBack_ex, vB, vI, Sl.d, h1, h2]
        · simp [evT, ev, opd, args, callS, evC, popS, slotAt, ixS, a0, a1, a2, c5, q7, q23, e7', e23, cmpS, es, isNonD, optD, truthD, putBack, putBack_ex, vB, vI, Sl.d, h1, h2]
      · simp [evT, ev, opd, args, callS, evC, popS, slotAt, ixS, a0, a1, a2, c5, q7, q23, e7', e23, cmpS, es, isNonD, optD, truthD, putBack, putBack_ex, vB, vI, Sl.d, h1]
  · have eb : (z == ("late" : Str)) = false := by simpa using hq
    rw [eb] at es
    have hd : decide (z = ("late" : Str)) = false := decide_eq_false hq
    rw [hd]
    cases e : lateO c s with
    | none => simp [evT, ev, opd, slotAt, ixS, a0, c5, cmpS, es, isNonD, optD, truthD, vB, vI, Sl.d]
    | some m => simp [evT, ev, opd, slotAt, ixS, a0, c5, cmpS, es, isNonD, optD, truthD, vB, vI, Sl.d]
theorem late_ne (hc : Drawn c) (hs : Srv s) {m : Int} (e : lateO c s = some m) (hm : m ≠ 0) : s.1 ≠ 0 := by
  have := late_top hc e hm; omega
theorem eq_late {t : List Int} {m : Int} (h : s.1 ≠ 0) : eqD (optD (lateT s t)) (.int m) = some (lateT s t == some m) := by
  unfold lateT lateN
  rw [if_neg h]
  simp [optD, eqD_int]
theorem e40_ok {z : Str} {t : List Int} {m : Int} {y : D} (hc : Drawn c) (hs : Srv s) (ht : Traf t) (e : lateO c s = some m) :
    ev P40 CC e40 [.val (curveD c), .val (prD s), .val (.tup [.str z, y, trafD t]), .val (.int m)] = .ok (vB ((hits c t).isEmpty && (m == 0 || lateT s t == some m))) [.val (curveD c), .val (prD s), .val (.tup [.str z, y, trafD t]), .val (.int m)] := by
  have q39 : P40 39 = F39 := rfl
  have q26 : P40 26 = F26 := rfl
  have a2 : atI [D.str z, y, trafD t] 2 = some (trafD t) := rfl
  have e39 := too_much_ok (c := c) (t := t) hc.curve ht.len
  have e26 := late_own hs ht
  have hn := head_non (hits c t)
  unfold e40
  cases hh : (hits c t).isEmpty with
  | false =>
    rw [hh] at hn
    simp [ev, opd, args, callS, evC, popS, slotAt, ixS, a2, q39, e39, hn, cmpS, putBack, putBack_ex, vB, vI, Sl.d]
  | true =>
    rw [hh] at hn
    by_cases hm : m = 0
    · subst hm
      simp [ev, opd, args, callS, evC, popS, slotAt, ixS, a2, q39, e39, hn, cmpS, eqD_int, putBack, putBack_ex, vB, vI, Sl.d]
    · have el := eq_late (s := s) (t := t) (m := m) (late_ne hc hs e hm)
      have hm' : (m == 0) = false := by simpa using hm
      simp [ev, opd, args, callS, evC, popS, slotAt, ixS, a2, q39, q26, e39, e26, hn, hm', cmpS, eqD_int, el, putBack, putBack_ex, vB, vI, Sl.d]
theorem shows_ok {v : D} (hc : Drawn c) (hs : Srv s) (hv : cleanB v = true) (hl : ∀ x ws, v = .tup x → ∀ y ∈ x, y = .tup ws → ws.length ≤ 1000000) :
    F40 [.val (curveD c), .val (prD s), .val v] = .ok (vB (dueV c s v)) [.val (curveD c), .val (prD s), .val v] := by
  have q9 : P40 9 = F9 := rfl
  have q11 : P40 11 = F11 := rfl
  have q15 : P40 15 = F15 := rfl
  have e9 := look_curve_ok hc.curve
  have e11 := look_server_ok hs
  have e15 := told_late_ok hc hs
  have r1 : ex P40 CC (.ex (.call 9 [(.var 0)])) [.val (curveD c), .val (prD s), .val v, .no] = .nx [.val (curveD c), .val (prD s), .val v, .no] := by
    simp [ex, ev, args, callS, evC, popS, q9, e9, putBack, SR.of]
  have r2 : ex P40 CC (.ex (.call 11 [(.var 1)])) [.val (curveD c), .val (prD s), .val v, .no] = .nx [.val (curveD c), .val (prD s), .val v, .no] := by
    simp [ex, ev, args, callS, evC, popS, q11, e11, putBack, SR.of]
  have r3 : ex P40 CC (.set 3 (.call 15 [(.var 0), (.var 1)])) [.val (curveD c), .val (prD s), .val v, .no] = .nx [.val (curveD c), .val (prD s), .val v, .val (optD (lateO c s))] := by
    simp [ex, ev, args, callS, evC, popS, q15, e15, putBack, putS, SR.of]
  have tt := tst_ok P40 (i := 2) (e3 := .cst 8) (v := v) (E := [.val (curveD c), .val (prD s), .val v, .val (optD (lateO c s))]) rfl (.inl rfl) hv
  unfold F40 fnS
  rw [b40]
  show (match exs P40 CC _ [.val (curveD c), .val (prD s), .val v, .no] with | .rt s E => R.ok s ((wipeE E []).take 3) | .nx E => .ok (.val .non) ((wipeE E []).take 3) | .exc c x E => .exc c x ((wipeE E []).take 3) | _ => .bad) = _
  rw [x_exs1, r1]
  simp only [SR.then]
  rw [x_exs1, r2]
  simp only [SR.then]
  rw [x_exs1, r3]
  simp only [SR.then]
  rw [x_exs1, x_ite, tt]
  cases hb : badB v with
  | true =>
    rw [due_bad hb]
    simp [SR.of, SR.then, exs, ex, ev, wipeE, vB]
  | false =>
    simp only [SR.of, Bool.false_eq_true, if_false, x_exs0, SR.then]
    rcases bad_cases hb with ⟨z, rfl⟩ | ⟨z, y, w, rfl⟩
    · have hz : PyData.strOk z = true := by simpa [cleanB] using clean_tup hv (.str z) (by simp)
      have a0 : atI [D.str z] 0 = some (.str z) := rfl
      have es := eqD_str hz strOk_never
      have c4 : CC 4 = .str "never" := rfl
      have dv : dueV c s (.tup [.str z]) = (decide (z = ("never" : Str)) && (lateO c s).isNone) := by unfold dueV; rfl
      unfold l40
      rw [dv]
      by_cases hq : z = ("never" : Str)
      · have eb : (z == ("never" : Str)) = true := by simpa using hq
        rw [eb] at es
        rw [decide_eq_true hq]
        simp [exs, ex, ev, evT, opds, opd, slotAt, biS, lenD, ixS, a0, c4, cmpS, eqD_int, es, isNon_opt, truthD, vB, vI, Sl.d, wipeE, SR.of, SR.then]
      · have eb : (z == ("never" : Str)) = false := by simpa using hq
        rw [eb] at es
        rw [decide_eq_false hq]
        simp [exs, ex, ev, evT, opds, opd, slotAt, biS, lenD, ixS, a0, c4, cmpS, eqD_int, es, isNon_opt, truthD, vB, vI, Sl.d, wipeE, SR.of, SR.then]
    · have hz : PyData.strOk z = true := by simpa [cleanB] using clean_tup hv (.str z) (by simp)
      have hy := clean_tup hv y (by simp)
      have hw := clean_tup hv w (by simp)
      have rl : ex P40 CC l40 [.val (curveD c), .val (prD s), .val (.tup [.str z, y, w]), .val (optD (lateO c s))] = .nx [.val (curveD c), .val (prD s), .val (.tup [.str z, y, w]), .val (optD (lateO c s))] := by
        unfold l40
        simp [exs, ex, ev, evT, opds, opd, slotAt, biS, lenD, cmpS, eqD_int, truthD, vB, vI, Sl.d, SR.of]
      have cc := c40_ok (c := c) (s := s) (z := z) (y := y) (w := w) hz hy hw (fun ws e => hl _ ws rfl w (by simp) e)
      rw [x_exs1, rl]
      simp only [SR.then]
      rw [x_exs1, x_ite, cc]
      unfold dueV due3
      cases e : lateO c s with
      | none => simp [SR.of, SR.then, exs, ex, ev, wipeE, vB]
      | some m =>
        dsimp only
        by_cases hk : (decide (z = ("late" : Str)) && (intIn y m m && trafB w)) = true
        · rw [hk]
          simp only [Bool.and_eq_true, decide_eq_true_eq] at hk
          obtain ⟨h1, h2, h3⟩ := hk
          obtain ⟨t, ht, rfl⟩ := trafB_traf h3
          have ee := e40_ok (z := z) (y := y) hc hs ht e
          simp only [optD, SR.of, Bool.not_true, Bool.false_eq_true, if_false, x_exs0, SR.then]
          rw [x_exs1, x_ret, ee, wInts_traf]
          simp [SR.of, SR.then, wipeE, vB, h1, h2, h3]
        · have hk' : (decide (z = ("late" : Str)) && (intIn y m m && trafB w)) = false := by simpa using hk
          have hd : (decide (z = ("late" : Str)) && (intIn y m m && (trafB w && ((hits c (wInts w)).isEmpty && (m == 0 || lateT s (wInts w) == some m))))) = false := by
            revert hk'
            cases decide (z = ("late" : Str)) <;> cases intIn y m m <;> cases trafB w <;> simp
          rw [hk', hd]
          simp [SR.of, SR.then, exs, ex, ev, wipeE, vB]
end
end Lw
end

section
set_option Elab.async false
set_option linter.all false
set_option maxRecDepth 100000
set_option maxHeartbeats 2000000
/-! J45: k84, _law_is_due -/
namespace Lw
open PySem L2
def isTupB : D → Bool
  | .tup _ => true
  | _ => false
theorem isi_tupB {w : D} (h : cleanB w = true) : isiD w "tuple" = some (isTupB w) := by
  by_cases ht : ∃ ws, w = .tup ws
  · obtain ⟨ws, rfl⟩ := ht; exact isiT ws
  · rw [not_tup (fun xs e => ht ⟨xs, e⟩) (clean_ty h)]
    cases w with
    | tup ws => exact absurd ⟨ws, rfl⟩ ht
    | _ => rfl
def c22 : E := .orV (.cmp .NotEq (.idx (.var 3) (.int 0)) (.str "late")) (.orV (.cmp .Is (.var 2) .non) (.orV (.notV (.call 20 [(.idx (.var 3) (.int 1)), (.var 2), (.var 2)])) (.notV (.bi .isinstance [(.idx (.var 3) (.int 2)), (.tyc "tuple")]))))
def all22 : E := .bi .all [(.lc (.call 20 [(.var 4), (.int 0), (.int 1000)]) (.nm 4) (.idx (.var 3) (.int 2)) [] [4])]
def d22 : E := .orV (.cmp .Gt (.bi .len [(.idx (.var 3) (.int 2))]) (.int 500)) (.notV all22)
def e22 : E := .andV (.cmp .Eq (.call 21 [(.var 0), (.idx (.var 3) (.int 2))]) (.lst [])) (.orV (.cmp .Eq (.var 2) (.int 0)) (.cmp .Eq (.call 19 [(.var 1), (.idx (.var 3) (.int 2))]) (.var 2)))
def l22 : S := .ite (.cmp .Eq (.bi .len [(.var 3)]) (.int 1)) [.ret (.andV (.cmp .Eq (.idx (.var 3) (.int 0)) (.str "never")) (.cmp .Is (.var 2) .non))] []
theorem b22 : B22 = [.ite (tstE 3 (.int 3)) [.ret (.bl false)] [], l22, .ite c22 [.ret (.bl false)] [], .ite d22 [.ret (.bl false)] [], .ret e22] := rfl
section
variable {c : Cv} {s : Int × Int}
theorem c22_ok {z : Str} {y w : D} (hz : PyData.strOk z = true) (hy : cleanB y = true) (hw : cleanB w = true) :
    evT P22 CC c22 [.val (curveD c), .val (prD s), .val (optD (lateO c s)), .val (.tup [.str z, y, w]), .no] = .ok (!(match lateO c s with | none => false | some m => decide (z = ("late" : Str)) && (intIn y m m && isTupB w))) [.val (curveD c), .val (prD s), .val (optD (lateO c s)), .val (.tup [.str z, y, w]), .no] := by
  have q20 : P22 20 = F20 := rfl
  have a0 : atI [D.str z, y, w] 0 = some (.str z) := rfl
  have a1 : atI [D.str z, y, w] 1 = some y := rfl
  have a2 : atI [D.str z, y, w] 2 = some w := rfl
  have es := eqD_str hz strOk_late
  have it := isi_tupB hw
  unfold c22
  by_cases hq : z = ("late" : Str)
  · have eb : (z == ("late" : Str)) = true := by simpa using hq
    rw [eb] at es
    have hd : decide (z = ("late" : Str)) = true := decide_eq_true hq
    rw [hd]
    cases e : lateO c s with
    | none => simp [evT, ev, opd, slotAt, ixS, a0, cmpS, es, isNonD, optD, truthD, vB, vI, Sl.d]
    | some m =>
      have e7 : F20 [.val y, .val (.int m), .val (.int m)] = .ok (vB (intIn y m m)) [.val y, .val (.int m), .val (.int m)] := is_int_any P20 (clean_ty hy) m m
      by_cases h1 : intIn y m m = true
      · by_cases h2 : isTupB w = true
        · simp [evT, ev, opds, opd, args, callS, evC, popS, slotAt, ixS, a0, a1, a2, q20, e7, biS, it, cmpS, es, isNonD, optD, truthD, putBack, putBack_ex, vB, vI, Sl.d, h1, h2]
        · simp [evT, ev, opds, opd, args, callS, evC, popS, slotAt, ixS, a0, a1, a2, q20, e7, biS, it, cmpS, es, isNonD, optD, truthD, putBack, putBack_ex, vB, vI, Sl.d, h1, h2]
      · simp [evT, ev, opds, opd, args, callS, evC, popS, slotAt, ixS, a0, a1, a2, q20, e7, cmpS, es, isNonD, optD, truthD, putBack, putBack_ex, vB, vI, Sl.d, h1]
  · have eb : (z == ("late" : Str)) = false := by simpa using hq
    rw [eb] at es
    have hd : decide (z = ("late" : Str)) = false := decide_eq_false hq
    rw [hd]
    cases e : lateO c s with
    | none => simp [evT, ev, opd, slotAt, ixS, a0, cmpS, es, isNonD, optD, truthD, vB, vI, Sl.d]
    | some m => simp [evT, ev, opd, slotAt, ixS, a0, cmpS, es, isNonD, optD, truthD, vB, vI, Sl.d]
theorem d22_ok {z : Str} {y : D} {ws : List D} {m : Int} (hc : ∀ d ∈ ws, cleanB d = true) (hl : ws.length ≤ 1000000) :
    evT P22 CC d22 [.val (curveD c), .val (prD s), .val (.int m), .val (.tup [.str z, y, .tup ws]), .no] = .ok (!trafB (.tup ws)) [.val (curveD c), .val (prD s), .val (.int m), .val (.tup [.str z, y, .tup ws]), .no] := by
  have q20 : P22 20 = F20 := rfl
  have a2 : atI [D.str z, y, .tup ws] 2 = some (.tup ws) := rfl
  have al := all_in P22 (k := 20) (i := 4) (it := .idx (.var 3) (.int 2)) (x := .int 1000) (ws := ws) (E := [.val (curveD c), .val (prD s), .val (.int m), .val (.tup [.str z, y, .tup ws]), .no]) (E1 := [.val (curveD c), .val (prD s), .val (.int m), .val (.tup [.str z, y, .tup ws]), .no]) [.val (curveD c), .val (prD s), .val (.int m), .val (.tup [.str z, y, .tup ws]), .no]
    (fun d hd => is_int_any P20 hd 0 1000) (fun E => by simp [ev, vI]) (fun r => by rw [args] <;> (intros; rename_i z; cases z))
    (by simp [evI, ev, opd, slotAt, ixS, a2, vI, Sl.d, itemsD]) (by simp [notOwn]) (by simp [wipeE]) (by simp [wipeE]) (by simp [backE]) hl hc (by simp)
  have c1 : evT P22 CC (.cmp .Gt (.bi .len [(.idx (.var 3) (.int 2))]) (.int 500)) [.val (curveD c), .val (prD s), .val (.int m), .val (.tup [.str z, y, .tup ws]), .no] = .ok (decide ((500 : Int) < ws.length)) [.val (curveD c), .val (prD s), .val (.int m), .val (.tup [.str z, y, .tup ws]), .no] := by
    simp [evT, ev, opds, opd, slotAt, ixS, a2, biS, lenD, cmpS, truthD, vB, vI, Sl.d]
  have c2 : evT P22 CC all22 [.val (curveD c), .val (prD s), .val (.int m), .val (.tup [.str z, y, .tup ws]), .no] = .ok (allIn ws) [.val (curveD c), .val (prD s), .val (.int m), .val (.tup [.str z, y, .tup ws]), .no] := by
    unfold all22
    have e : ∀ (b : Bi) (as : List E), evT P22 CC (.bi b as) = M.bind (evA [opd P22 CC (.bi b as)]) fun ds => M.opt (match ds with | [d] => truthD d | _ => none) := fun b as => by rw [evT] <;> first | rfl | (intros; rename_i z; cases z)
    rw [e, s_bind, opd_bi, s_evA2, al]
    simp [vB, Sl.d, truthD]
  unfold d22
  rw [evT_or, s_bind, c1]
  by_cases q : ws.length ≤ 500
  · have q1 : decide ((500 : Int) < ws.length) = false := decide_eq_false (by omega)
    rw [q1]
    simp only [s_ok, Bool.false_eq_true, if_false]
    rw [evT_not, s_bind, c2]
    simp [trafB, q]
  · have q1 : decide ((500 : Int) < ws.length) = true := decide_eq_true (by omega)
    rw [q1]
    simp [trafB, q]
theorem e22_ok {z : Str} {t : List Int} {m : Int} {y : D} (hc : Drawn c) (hs : Srv s) (ht : Traf t) (e : lateO c s = some m) :
    ev P22 CC e22 [.val (curveD c), .val (prD s), .val (.int m), .val (.tup [.str z, y, trafD t]), .no] = .ok (vB ((hits c t).isEmpty && (m == 0 || lateT s t == some m))) [.val (curveD c), .val (prD s), .val (.int m), .val (.tup [.str z, y, trafD t]), .no] := by
  have q21 : P22 21 = F21 := rfl
  have q19 : P22 19 = F19 := rfl
  have a2 : atI [D.str z, y, trafD t] 2 = some (trafD t) := rfl
  have e21 := law_too_much_ok (c := c) (t := t) hc.curve.cv0 ht.len
  have e19 := late_law hs ht
  have hn := eq_prs_nil (hits c t)
  unfold e22
  cases hh : (hits c t).isEmpty with
  | false =>
    rw [hh] at hn
    simp [ev, evD, opd, args, callS, evC, popS, slotAt, ixS, a2, q21, e21, hn, cmpS, sizeLine_eq, putBack, putBack_ex, vB, vI, Sl.d]
  | true =>
    rw [hh] at hn
    by_cases hm : m = 0
    · subst hm
      simp [ev, evD, opd, args, callS, evC, popS, slotAt, ixS, a2, q21, e21, hn, cmpS, eqD_int, sizeLine_eq, putBack, putBack_ex, vB, vI, Sl.d]
    · have el := eq_late (s := s) (t := t) (m := m) (late_ne hc hs e hm)
      have hm' : (m == 0) = false := by simpa using hm
      simp [ev, evD, opd, args, callS, evC, popS, slotAt, ixS, a2, q21, q19, e21, e19, hn, hm', cmpS, eqD_int, el, sizeLine_eq, putBack, putBack_ex, vB, vI, Sl.d]
theorem is_due_ok {v : D} (hc : Drawn c) (hs : Srv s) (hv : cleanB v = true) (hl : ∀ x ws, v = .tup x → ∀ y ∈ x, y = .tup ws → ws.length ≤ 1000000) :
    F22 [.val (curveD c), .val (prD s), .val (optD (lateO c s)), .val v] = .ok (vB (dueV c s v)) [.val (curveD c), .val (prD s), .val (optD (lateO c s)), .val v] := by
  have tt := tst_ok P22 (i := 3) (e3 := .int 3) (v := v) (E := [.val (curveD c), .val (prD s), .val (optD (lateO c s)), .val v, .no]) rfl (.inr rfl) hv
  unfold F22 fnS
  rw [b22]
  show (match exs P22 CC _ [.val (curveD c), .val (prD s), .val (optD (lateO c s)), .val v, .no] with | .rt s E => R.ok s ((wipeE E []).take 4) | .nx E => .ok (.val .non) ((wipeE E []).take 4) | .exc c x E => .exc c x ((wipeE E []).take 4) | _ => .bad) = _
  rw [x_exs1, x_ite, tt]
  cases hb : badB v with
  | true =>
    rw [due_bad hb]
    simp [SR.of, SR.then, exs, ex, ev, wipeE, vB]
  | false =>
    simp only [SR.of, Bool.false_eq_true, if_false, x_exs0, SR.then]
    rcases bad_cases hb with ⟨z, rfl⟩ | ⟨z, y, w, rfl⟩
    · have hz : PyData.strOk z = true := by simpa [cleanB] using clean_tup hv (.str z) (by simp)
      have a0 : atI [D.str z] 0 = some (.str z) := rfl
      have es := eqD_str hz strOk_never
      have dv : dueV c s (.tup [.str z]) = (decide (z = ("never" : Str)) && (lateO c s).isNone) := by unfold dueV; rfl
      unfold l22
      rw [dv]
      by_cases hq : z = ("never" : Str)
      · have eb : (z == ("never" : Str)) = true := by simpa using hq
        rw [eb] at es
        rw [decide_eq_true hq]
        simp [exs, ex, ev, evT, opds, opd, slotAt, biS, lenD, ixS, a0, cmpS, eqD_int, es, isNon_opt, truthD, vB, vI, Sl.d, wipeE, SR.of, SR.then]
      · have eb : (z == ("never" : Str)) = false := by simpa using hq
        rw [eb] at es
        rw [decide_eq_false hq]
        simp [exs, ex, ev, evT, opds, opd, slotAt, biS, lenD, ixS, a0, cmpS, eqD_int, es, isNon_opt, truthD, vB, vI, Sl.d, wipeE, SR.of, SR.then]
    · have hz : PyData.strOk z = true := by simpa [cleanB] using clean_tup hv (.str z) (by simp)
      have hy := clean_tup hv y (by simp)
      have hw := clean_tup hv w (by simp)
      have rl : ex P22 CC l22 [.val (curveD c), .val (prD s), .val (optD (lateO c s)), .val (.tup [.str z, y, w]), .no] = .nx [.val (curveD c), .val (prD s), .val (optD (lateO c s)), .val (.tup [.str z, y, w]), .no] := by
        unfold l22
        simp [exs, ex, ev, evT, opds, opd, slotAt, biS, lenD, cmpS, eqD_int, truthD, vB, vI, Sl.d, SR.of]
      have cc := c22_ok (c := c) (s := s) (z := z) (y := y) (w := w) hz hy hw
      rw [x_exs1, rl]
      simp only [SR.then]
      rw [x_exs1, x_ite, cc]
      unfold dueV due3
      cases e : lateO c s with
      | none => simp [SR.of, SR.then, exs, ex, ev, wipeE, vB, optD]
      | some m =>
        dsimp only
        by_cases hk : (decide (z = ("late" : Str)) && (intIn y m m && isTupB w)) = true
        · rw [hk]
          simp only [Bool.and_eq_true, decide_eq_true_eq] at hk
          obtain ⟨h1, h2, h3⟩ := hk
          obtain ⟨ws, rfl⟩ : ∃ ws, w = .tup ws := by
            cases w with
            | tup ws => exact ⟨ws, rfl⟩
            | _ => cases h3
          have dd := d22_ok (c := c) (s := s) (z := z) (y := y) (ws := ws) (m := m) (clean_tup hw) (hl _ ws rfl (.tup ws) (by simp) rfl)
          simp only [optD, SR.of, Bool.not_true, Bool.false_eq_true, if_false, x_exs0, SR.then]
          rw [x_exs1, x_ite, dd]
          cases h4 : trafB (.tup ws) with
          | false => simp [SR.of, SR.then, exs, ex, ev, wipeE, vB]
          | true =>
            obtain ⟨t, ht, et⟩ := trafB_traf h4
            rw [et]
            have ee := e22_ok (z := z) (y := y) hc hs ht e
            simp only [SR.of, Bool.not_true, Bool.false_eq_true, if_false, x_exs0, SR.then]
            rw [x_exs1, x_ret, ee, wInts_traf]
            simp [SR.of, SR.then, wipeE, vB, h1, h2]
        · have hk' : (decide (z = ("late" : Str)) && (intIn y m m && isTupB w)) = false := by simpa using hk
          have hd : (decide (z = ("late" : Str)) && (intIn y m m && (trafB w && ((hits c (wInts w)).isEmpty && (m == 0 || lateT s (wInts w) == some m))))) = false := by
            have hw : isTupB w = false → trafB w = false := by
              intro q
              cases w with
              | tup ws => cases q
              | _ => rfl
            revert hk' hw
            cases decide (z = ("late" : Str)) <;> cases intIn y m m <;> cases isTupB w <;> cases trafB w <;> simp
          rw [hk', hd]
          simp [SR.of, SR.then, exs, ex, ev, wipeE, vB, optD]
end
end Lw
end

section
set_option Elab.async false
set_option linter.all false
set_option maxRecDepth 100000
set_option maxHeartbeats 2000000
/-! J46: k84, what is told is due; no traffic that fits is later, or held more -/
namespace Lw
open PySem L2
section
variable {c : Cv} {s : Int × Int}
theorem late_max (hc : Drawn c) {m : Int} (e : lateO c s = some m) (h1 : letZ c 1 ≠ 0) : s.1 ≠ 0 ∧ (lastP c).2 ≤ s.1 ∧ 0 ≤ m ∧ ∀ x, Tick c x → lateZ s (letZ c x) x ≤ m := by
  unfold lateO at e
  rw [if_neg h1] at e
  split at e
  · cases e
  · rename_i q
    cases e
    obtain ⟨_, q2⟩ := maxL_mx (l := lbs c s) (by simp [lbs])
    refine ⟨fun z => q (.inl z), ?_, q2 0 List.mem_cons_self, fun x hx => q2 _ (List.mem_cons_of_mem _ (List.mem_map.mpr ⟨x, (ticks_iff hc.2.2.2.1).mpr hx, rfl⟩))⟩
    have : ¬ s.1 < (lastP c).2 := fun z => q (.inr z)
    omega
theorem late_all (hc : Drawn c) (hs : Srv s) {m : Int} (e : lateO c s = some m) (h1 : letZ c 1 ≠ 0) {t : Int} (ht : 1 ≤ t) : lateZ s (letZ c t) t ≤ m := by
  obtain ⟨q1, q2, q3, q4⟩ := late_max hc e h1
  have r0 := hs.r0
  obtain ⟨x, hx, h⟩ := late_peak hc (by omega) q2 ht
  have := q4 x hx
  omega
theorem sum_nonneg : ∀ t : List Int, (∀ x ∈ t, 0 ≤ x) → 0 ≤ t.sum
  | [], _ => by simp
  | a :: r, h => by
    have h1 := h a List.mem_cons_self
    have h2 := sum_nonneg r fun x hx => h x (List.mem_cons_of_mem _ hx)
    simp only [List.sum_cons]; omega
theorem sumZ_whole (t : List Int) : sumZ t 0 t.length = t.sum := by simp [sumZ]
/-- no traffic that fits is later -/
theorem late_le (hc : Drawn c) (hs : Srv s) {t : List Int} (ht : Traf t) (hf : hits c t = []) {m : Int} (e : lateO c s = some m) : ∃ n, lateT s t = some n ∧ n ≤ m := by
  have r0 := hs.r0
  rw [hits_nil] at hf
  by_cases h1 : letZ c 1 = 0
  · have em : m = 0 := by
      unfold lateO at e
      rw [if_pos h1] at e
      cases e; rfl
    obtain ⟨_, zero⟩ := letZ_none hc.curve h1
    have none : ∀ l, l < t.length → ¬ okL t l := fun l hl hk => by
      have := hf l 0 (by omega)
      rw [zero] at this
      have e2 := sumZ_succ (t := t) (s := l) (m := 0) (by omega)
      have e3 : sumZ t l 0 = 0 := by simp [sumZ]
      unfold okL at hk
      rw [getD_at hl] at hk
      have e4 : t[l + 0]'(by omega) = t[l] := by simp
      omega
    have s0 : ¬ 0 < t.sum := by
      cases t with
      | nil => simp
      | cons a r =>
        have := hf 0 r.length (by simp)
        rw [zero, show r.length + 1 = (a :: r).length from rfl, sumZ_whole] at this
        omega
    unfold lateT lateN
    by_cases hz : s.1 = 0
    · rw [if_pos hz, if_neg s0]
      exact ⟨0, rfl, by omega⟩
    · rw [if_neg hz]
      have hb : latB s t = 0 := latB_eq ⟨.inl rfl, fun x hx => by
        rcases hx with rfl | ⟨i, l, _, hl, hk, _⟩
        · omega
        · exact absurd hk (none l hl)⟩
      exact ⟨_, rfl, by omega⟩
  · obtain ⟨q1, q2, q3, q4⟩ := late_max hc e h1
    obtain ⟨b, hb, _⟩ := law_late_ok hs ht
    have hb := hb q1
    unfold lateT lateN
    rw [if_neg q1, latB_eq hb]
    refine ⟨b, rfl, ?_⟩
    rcases hb.1 with rfl | ⟨i, l, hil, hl, _, rfl⟩
    · exact q3
    · have h2 := hf i (l - i) (by omega)
      have h3 := late_all hc hs e h1 (t := 1 + ((l - i : Nat) : Int)) (by omega)
      have h4 := lateZ_mono (s := s) (t := 1 + ((l - i : Nat) : Int)) (by omega) h2
      unfold lateV
      rw [show (l : Int) - (i : Int) + 1 = 1 + ((l - i : Nat) : Int) by omega]
      omega
/-- .. or held more -/
theorem held_le (hc : Drawn c) (hs : Srv s) {t : List Int} (ht : Traf t) (hf : hits c t = []) {M : Int} (e : heldO c s = some M) : heldT s t ≤ M := by
  rw [hits_nil] at hf
  unfold heldO at e
  split at e
  · cases e
  · rename_i q
    cases e
    have hl : (lastP c).2 ≤ s.1 := by omega
    have r0 := hs.r0
    have l0 := hs.l0
    obtain ⟨_, q2⟩ := maxL_mx (l := heldL c s) (by simp [heldL])
    have top : ∀ x, (Tick c x ∨ x = s.2 + 1) → letZ c x - servZ s (x - 1) ≤ maxL (heldL c s) := fun x hx => by
      refine q2 _ (List.mem_map.mpr ⟨x, ?_, rfl⟩)
      rcases hx with hx | rfl
      · exact List.mem_append_left _ ((ticks_iff hc.2.2.2.1).mpr hx)
      · simp
    have at1 := top 1 (.inl (.inl rfl))
    have e1 : servZ s (1 - 1) = 0 := by unfold servZ; rw [if_neg (by omega), Int.mul_zero]
    have p1 := letZ_pos hc.curve (a := 1)
    rcases (heldT_is hs ht).1 with h | ⟨i, l, hil, hll, _, h⟩
    · rw [h]; omega
    · rw [h]
      have h2 := hf i (l - i) (by omega)
      obtain ⟨x, hx, h3⟩ := held_peak hc hs hl (t := 1 + ((l - i : Nat) : Int)) (by omega)
      have h4 := top x hx
      unfold heldV
      rw [show (l : Int) - (i : Int) = 1 + ((l - i : Nat) : Int) - 1 by omega]
      omega
theorem traf_nil : Traf [] := ⟨by simp, by simp⟩
theorem told_due (hc : Drawn c) (hs : Srv s) : dueV c s (toldD c s) = true := by
  unfold toldD
  cases e : lateO c s with
  | none =>
    show dueV c s (.tup [.str "never"]) = true
    unfold dueV
    simp [e]
  | some m =>
    dsimp only
    by_cases hm : m = 0
    · subst hm
      rw [if_pos rfl]
      unfold dueV due3
      rw [e]
      have h1 : trafB (.tup []) = true := by simp [trafB, allIn]
      have h2 : hits c (wInts (.tup [])) = [] := by simp [wInts, intsD, hits, hitsTo]
      simp [intIn, h1, h2]
    · rw [if_neg hm]
      have h1 : letZ c 1 ≠ 0 := fun z => by
        unfold lateO at e
        rw [if_pos z] at e
        cases e; exact hm rfl
      obtain ⟨q1, q2, q3, q4⟩ := late_max hc e h1
      obtain ⟨r, e1, e2, e3⟩ := late_first hc e hm
      generalize lateW c s m = w at e1 e2 e3 ⊢
      have b1 := e2.pos
      have b2 := e2.le hc
      have tf := full_traf hc.curve (n := w) (by omega)
      have ft := full_fits hc.curve w
      have lt : lateT s (fullN c w) = some m := by
        unfold lateT lateN
        rw [if_neg q1]
        congr 1
        refine latB_eq ⟨.inr ⟨0, w - 1, by omega, by rw [full_len]; omega, ?_, ?_⟩, fun x hx => ?_⟩
        · unfold okL
          rw [getD_at (by rw [full_len]; omega), full_get (by omega)]
          have ew : ((w - 1 : Nat) : Int) + 1 = (w : Int) := by omega
          rw [ew]
          rcases Nat.eq_or_lt_of_le (show 1 ≤ w by omega) with z | z
          · subst z
            have e0 : letZ c ((1 - 1 : Nat) : Int) = 0 := letZ_zero c
            have p := letZ_pos hc.curve (a := 1)
            rw [e0]
            show 0 < letZ c 1 - 0
            omega
          · have mono := letZ_mono hc.curve (a := ((w - 1 : Nat) : Int)) (b := (w : Int)) (by omega) (by omega)
            have la := late_all hc hs e h1 (t := ((w - 1 : Nat) : Int)) (by omega)
            rcases Int.lt_or_le (letZ c ((w - 1 : Nat) : Int)) (letZ c (w : Int)) with y | y
            · omega
            · have eq : letZ c ((w - 1 : Nat) : Int) = letZ c (w : Int) := by omega
              rw [eq] at la
              unfold lateZ at la e3
              omega
        · unfold lateV
          rw [full_sum (w - 1 - 0 + 1) (by omega)]
          have e0 : letZ c ((0 : Nat) : Int) = 0 := letZ_zero c
          rw [e0, ← e3]
          have ew : ((0 : Nat) : Int) + ((w - 1 - 0 + 1 : Nat) : Int) = (w : Int) := by omega
          have ew2 : ((w - 1 : Nat) : Int) - ((0 : Nat) : Int) + 1 = (w : Int) := by omega
          rw [ew, ew2, Int.sub_zero]
        · rcases hx with rfl | ⟨i, l, hil, hl, _, rfl⟩
          · exact q3
          · rw [hits_nil] at ft
            have h2 := ft i (l - i) (by omega)
            have h3 := late_all hc hs e h1 (t := 1 + ((l - i : Nat) : Int)) (by omega)
            have r0 := hs.r0
            have h4 := lateZ_mono (s := s) (t := 1 + ((l - i : Nat) : Int)) (by omega) h2
            unfold lateV
            rw [show (l : Int) - (i : Int) + 1 = 1 + ((l - i : Nat) : Int) by omega]
            omega
      unfold dueV due3
      rw [e]
      simp [intIn, traf_trafB tf, wInts_traf, ft, lt]
end
end Lw
end

section
set_option Elab.async false
set_option linter.all false
set_option maxRecDepth 100000
set_option maxHeartbeats 2000000
/-! J47: k84, _law_fitting_drawn -/
namespace Lw
open PySem L2
structure Fit (c : Cv) (t : List Int) : Prop where
  fits : hits c t = []
  small : ∀ x ∈ t, 0 ≤ x ∧ x ≤ 500
def restL (c : Cv) (t : List Int) : List Int := (List.range (t.length + 1)).map fun (j : Nat) => letZ c (1 + (j : Int)) - sumZ t (t.length - j) j
def minR (c : Cv) (t : List Int) : Int := minL (restL c t)
theorem minR_le {c : Cv} {t : List Int} {j : Nat} (h : j ≤ t.length) : minR c t ≤ letZ c (1 + (j : Int)) - sumZ t (t.length - j) j := by
  have ne : restL c t ≠ [] := by simp [restL]
  unfold minR
  have mem : letZ c (1 + (j : Int)) - sumZ t (t.length - j) j ∈ restL c t := List.mem_map.mpr ⟨j, List.mem_range.mpr (by omega), rfl⟩
  cases e : restL c t with
  | nil => exact absurd e ne
  | cons a r => rw [e] at mem; exact (minL_mem a r).2 _ mem
theorem minR_mem {c : Cv} {t : List Int} : ∃ j : Nat, j ≤ t.length ∧ minR c t = letZ c (1 + (j : Int)) - sumZ t (t.length - j) j := by
  have ne : restL c t ≠ [] := by simp [restL]
  unfold minR
  cases e : restL c t with
  | nil => exact absurd e ne
  | cons a r =>
    have h := (minL_mem a r).1
    rw [← e] at h ⊢
    obtain ⟨j, hj, ej⟩ := List.mem_map.mp h
    exact ⟨j, by have := List.mem_range.mp hj; omega, ej.symm⟩
theorem sumZ_zero (t : List Int) (i : Nat) : sumZ t i 0 = 0 := by simp [sumZ]
theorem minR_bound {c : Cv} {t : List Int} (hc : Curve c) (h : Fit c t) : 0 ≤ minR c t ∧ minR c t ≤ 500 := by
  constructor
  · obtain ⟨j, hj, e⟩ := minR_mem (c := c) (t := t)
    rw [e]
    cases j with
    | zero => rw [sumZ_zero]; have := letZ_pos hc (a := 1 + ((0 : Nat) : Int)); omega
    | succ k =>
      have f := (hits_nil (c := c) (t := t)).mp h.fits (t.length - (k + 1)) k (by omega)
      have m := letZ_mono hc (a := 1 + (k : Int)) (b := 1 + ((k + 1 : Nat) : Int)) (by omega) (by omega)
      omega
  · have := minR_le (c := c) (t := t) (j := 0) (by omega)
    rw [sumZ_zero] at this
    have := letZ_one hc
    have e : letZ c (1 + ((0 : Nat) : Int)) = letZ c 1 := by simp
    omega
theorem Fit.app {c : Cv} {t : List Int} {x : Int} (h : Fit c t) (h0 : 0 ≤ x) (h1 : x ≤ minR c t) (h5 : x ≤ 500) : Fit c (t ++ [x]) := by
  refine ⟨hits_nil.mpr fun i j hij => ?_, fun y hy => ?_⟩
  · rw [List.length_append] at hij
    simp only [List.length_cons, List.length_nil] at hij
    rcases Nat.lt_or_ge (i + j) t.length with z | z
    · have e : sumZ (t ++ [x]) i (j + 1) = sumZ t i (j + 1) := by
        unfold sumZ
        rw [List.drop_append_of_le_length (by omega), List.take_append_of_le_length (by rw [List.length_drop]; omega)]
      rw [e]
      exact hits_nil.mp h.fits i j z
    · have ei : i = t.length - j := by omega
      have e1 := sumZ_succ (t := t ++ [x]) (s := i) (m := j) (by simp; omega)
      have e2 : (t ++ [x])[i + j]'(by simp; omega) = x := by
        rw [List.getElem_append_right (by omega)]; simp
      have e3 : sumZ (t ++ [x]) i j = sumZ t i j := by
        unfold sumZ
        rw [List.drop_append_of_le_length (by omega), List.take_append_of_le_length (by rw [List.length_drop]; omega)]
      rw [e1, e2, e3]
      have := minR_le (c := c) (t := t) (j := j) (by omega)
      rw [← ei] at this
      omega
  · rcases List.mem_append.mp hy with hy | hy
    · exact h.small y hy
    · simp at hy; subst hy; exact ⟨h0, h5⟩
theorem Fit.traf {c : Cv} {t : List Int} (h : Fit c t) (hl : t.length ≤ 500) : Traf t := ⟨hl, fun x hx => by have := h.small x hx; omega⟩
def el18 : E := .bop .Sub (.call 4 [(.var 1), (.var 6)]) (.bi .sum [(.slc (.var 3) (.bop .Sub (.bop .Add (.bi .len [(.var 3)]) (.int 1)) (.var 6)) .non)])
def s18 : S := .set 5 (.lc el18 (.nm 6) (.rng2 (.int 1) (.bop .Add (.bi .len [(.var 3)]) (.int 2))) [] [6])
def n18 : S := .set 3 (.bop .Add (.var 3) (.tup [(.ty .int [(.call 1 [(.var 0), (.lst [(.int 0), (.bi .min [(.var 5)]), (.bi .min [(.var 5)]), (.call 0 [(.var 0), (.bop .Add (.bi .min [(.var 5)]) (.int 1))])])])])]))
theorem b18 : B18 = [.set 3 (.tup []), .for_ (.nm 4) (.rng1 (.call 0 [(.var 0), (.bop .Add (.var 2) (.int 1))])) [s18, n18], .ret (.mv 3)] := rfl
theorem rng1l (n : Nat) : rngD 1 ((n : Int) + 2) = (List.range (n + 1)).map fun (j : Nat) => D.int (1 + (j : Int)) := by
  unfold rngD
  rw [show ((n : Int) + 2 - 1).toNat = n + 1 by omega]
theorem evD_ty (Φ : Nat → M Sl) (C : Nat → D) (b : Bt) (as : List E) (r : List E) : evD Φ C (.ty b as :: r) = M.bind (ev Φ C (.ty b as)) fun s => M.bind (evD Φ C r) fun ds => M.pure (s.d :: ds) := by rw [evD] <;> first | rfl | (intros; rename_i z; cases z)
section
variable {c : Cv} {t : List Int}
theorem s18_ok {s0 s2 s4 s5 : Sl} (hc : Curve c) (hl : t.length ≤ 500) : ex P18 CC s18 [s0, .val (curveD c), s2, .val (trafD t), s4, s5, .no] = .nx [s0, .val (curveD c), s2, .val (trafD t), s4, .own (intL (restL c t)), .no] := by
  have q4 : P18 4 = F4 := rfl
  have lc := lc_all (Φ := P18) (C := CC) (elt := el18) (it := .rng2 (.int 1) (.bop .Add (.bi .len [(.var 3)]) (.int 2))) (tg := .nm 6) (own := [6]) (List.range (t.length + 1)) (fun (j : Nat) => D.int (1 + (j : Int))) (fun (j : Nat) => .int (letZ c (1 + (j : Int)) - sumZ t (t.length - j) j))
    (E := [s0, .val (curveD c), s2, .val (trafD t), s4, s5, .no]) (E1 := [s0, .val (curveD c), s2, .val (trafD t), s4, s5, .no]) [s0, .val (curveD c), s2, .val (trafD t), s4, s5, .no] (by
      rw [← rng1l]
      exact rng2_ev (by simp [ev, opds, opd, slotAt, biS, trafD, lenD, bopS, vI, Sl.d]) (by omega) (by omega)) (by simp [notOwn]) (by simp [wipeE]) (by simp [wipeE]) (by simp [backE]) (by simp; omega) (fun j hj => by
      have hj := List.mem_range.mp hj
      have t1 := let_ok (t := 1 + (j : Int)) hc (by omega)
      have ct : cutD (t.map D.int) (some ((t.length : Int) + 1 - (1 + (j : Int)))) none = (t.drop (t.length - j)).map D.int := by
        have := cut_from (xs := t.map D.int) (i := t.length - j) (by simp)
        rw [show ((t.length : Int) + 1 - (1 + (j : Int))) = ((t.length - j : Nat) : Int) by omega, this, List.map_drop]
      have ei := intsOf_map (t.drop (t.length - j))
      have es : (t.drop (t.length - j)).sum = sumZ t (t.length - j) j := by
        unfold sumZ
        rw [List.take_of_length_le (by rw [List.length_drop]; omega)]
      have sm : ev P18 CC (.bi .sum [(.slc (.var 3) (.bop .Sub (.bop .Add (.bi .len [(.var 3)]) (.int 1)) (.var 6)) .non)]) [s0, .val (curveD c), s2, .val (trafD t), s4, s5, .val (.int (1 + j))] = .ok (vI (sumZ t (t.length - j) j)) [s0, .val (curveD c), s2, .val (trafD t), s4, s5, .val (.int (1 + j))] := by
        have e1 : ev P18 CC (.slc (.var 3) (.bop .Sub (.bop .Add (.bi .len [(.var 3)]) (.int 1)) (.var 6)) .non) [s0, .val (curveD c), s2, .val (trafD t), s4, s5, .val (.int (1 + j))] = .ok (.val (.tup ((t.drop (t.length - j)).map D.int))) [s0, .val (curveD c), s2, .val (trafD t), s4, s5, .val (.int (1 + j))] := by
          rw [ev_slc]
          simp [ev, opds, opd, slotAt, biS, trafD, lenD, partO, isNonE, bopS, vI, Sl.d, partD, slP, slS, ct]
        rw [ev_biK, opds1, show opd P18 CC (.slc (.var 3) (.bop .Sub (.bop .Add (.bi .len [(.var 3)]) (.int 1)) (.var 6)) .non) = .ex (ev P18 CC (.slc (.var 3) (.bop .Sub (.bop .Add (.bi .len [(.var 3)]) (.int 1)) (.var 6)) .non)) by simp only [opd], s_bind, s_evA2, e1]
        simp only [opds, s_evA0, s_ok, Sl.d, biS]
        rw [ei]
        simp [es, vI]
      refine ⟨[s0, .val (curveD c), s2, .val (trafD t), s4, s5, .val (.int (1 + j))], [s0, .val (curveD c), s2, .val (trafD t), s4, s5, .val (.int (1 + j))], vI (letZ c (1 + (j : Int)) - sumZ t (t.length - j) j), by simp [bindT], ?_, rfl, by simp [wipeE]⟩
      unfold el18
      rw [ev_bop, s_bind, opd_bi]
      generalize ev P18 CC (.bi .sum [(.slc (.var 3) (.bop .Sub (.bop .Add (.bi .len [(.var 3)]) (.int 1)) (.var 6)) .non)]) = g at sm ⊢
      simp [ev, opd, args, callS, evC, popS, q4, t1, sm, bopS, putBack, vI, Sl.d])
  unfold s18
  rw [x_set, lc]
  simp [SR.of, putS, intL, restL]
theorem n18_ok {n : Int} {l : List D} {s2 s4 : Sl} (hn : n < 2 ^ 18) (hp : PotOk n l) (hc : Curve c) (hf : Fit c t) (hl : t.length ≤ 500) :
    ∃ x l', 0 ≤ x ∧ x ≤ minR c t ∧ PotOk (n + 2) l' ∧ ex P18 CC n18 [.own (.lst l), .val (curveD c), s2, .val (trafD t), s4, .own (intL (restL c t)), .no] = .nx [.own (.lst l'), .val (curveD c), s2, .val (trafD (t ++ [x])), s4, .own (intL (restL c t)), .no] := by
  have q0 : P18 0 = F0 := rfl
  have q1 : P18 1 = F1 := rfl
  have b := minR_bound hc hf
  obtain ⟨d, l1, hd, p1, e1⟩ := take_ok (u := minR c t + 1) (by omega) hp ⟨by omega, by omega⟩
  obtain ⟨y, l2, hy, p2, e2⟩ := of_ok (n := n + 1) (xs := [.int 0, .int (minR c t), .int (minR c t), .int d]) (by omega) p1 (by simp) (by simp)
  obtain ⟨x, rfl, hx0, hx1⟩ : ∃ x : Int, y = .int x ∧ 0 ≤ x ∧ x ≤ minR c t := by
    simp at hy
    rcases hy with rfl | rfl | rfl
    · exact ⟨_, rfl, by omega, b.1⟩
    · exact ⟨_, rfl, b.1, by omega⟩
    · exact ⟨_, rfl, hd.1, by omega⟩
  have mn := min_ints (l := restL c t) (by simp [restL])
  have mn' : biS .min [intL (restL c t)] = some (.val (.int (minR c t))) := mn
  have sz : t.length + 1 ≤ 16777216 := by omega
  have eL : ev P18 CC (.lst [(.int 0), (.bi .min [(.var 5)]), (.bi .min [(.var 5)]), (.call 0 [(.var 0), (.bop .Add (.bi .min [(.var 5)]) (.int 1))])]) [.own (.lst l), .val (curveD c), s2, .val (trafD t), s4, .own (intL (restL c t)), .no] = .ok (.own (.lst [.int 0, .int (minR c t), .int (minR c t), .int d])) [.own (.lst l1), .val (curveD c), s2, .val (trafD t), s4, .own (intL (restL c t)), .no] := by
    simp [ev, evD, opds, opd, slotAt, mn', args, callS, evC, popS, q0, e1, bopS, sizeLine_eq, putBack, vI, Sl.d]
  refine ⟨x, l2, hx0, hx1, by rw [show n + 2 = n + 1 + 1 by omega]; exact p2, ?_⟩
  have eC : ev P18 CC (.call 1 [(.var 0), (.lst [(.int 0), (.bi .min [(.var 5)]), (.bi .min [(.var 5)]), (.call 0 [(.var 0), (.bop .Add (.bi .min [(.var 5)]) (.int 1))])])]) [.own (.lst l), .val (curveD c), s2, .val (trafD t), s4, .own (intL (restL c t)), .no] = .ok (.val (.int x)) [.own (.lst l2), .val (curveD c), s2, .val (trafD t), s4, .own (intL (restL c t)), .no] := by
    have aL : args P18 CC [(.var 0), (.lst [(.int 0), (.bi .min [(.var 5)]), (.bi .min [(.var 5)]), (.call 0 [(.var 0), (.bop .Add (.bi .min [(.var 5)]) (.int 1))])])] = [.slot 0, .ex (ev P18 CC (.lst [(.int 0), (.bi .min [(.var 5)]), (.bi .min [(.var 5)]), (.call 0 [(.var 0), (.bop .Add (.bi .min [(.var 5)]) (.int 1))])]))] := by
      simp only [args]
    rw [ev, aL]
    generalize ev P18 CC (.lst [(.int 0), (.bi .min [(.var 5)]), (.bi .min [(.var 5)]), (.call 0 [(.var 0), (.bop .Add (.bi .min [(.var 5)]) (.int 1))])]) = g at eL ⊢
    simp [callS, evC, popS, slotAt, eL, q1, e2, putBack]
  have eT : ev P18 CC (.tup [(.ty .int [(.call 1 [(.var 0), (.lst [(.int 0), (.bi .min [(.var 5)]), (.bi .min [(.var 5)]), (.call 0 [(.var 0), (.bop .Add (.bi .min [(.var 5)]) (.int 1))])])])])]) [.own (.lst l), .val (curveD c), s2, .val (trafD t), s4, .own (intL (restL c t)), .no] = .ok (.val (.tup [.int x])) [.own (.lst l2), .val (curveD c), s2, .val (trafD t), s4, .own (intL (restL c t)), .no] := by
    have oC : opd P18 CC (.call 1 [(.var 0), (.lst [(.int 0), (.bi .min [(.var 5)]), (.bi .min [(.var 5)]), (.call 0 [(.var 0), (.bop .Add (.bi .min [(.var 5)]) (.int 1))])])]) = .ex (ev P18 CC (.call 1 [(.var 0), (.lst [(.int 0), (.bi .min [(.var 5)]), (.bi .min [(.var 5)]), (.call 0 [(.var 0), (.bop .Add (.bi .min [(.var 5)]) (.int 1))])])])) := by simp only [opd]
    have eY : ev P18 CC (.ty .int [(.call 1 [(.var 0), (.lst [(.int 0), (.bi .min [(.var 5)]), (.bi .min [(.var 5)]), (.call 0 [(.var 0), (.bop .Add (.bi .min [(.var 5)]) (.int 1))])])])]) [.own (.lst l), .val (curveD c), s2, .val (trafD t), s4, .own (intL (restL c t)), .no] = .ok (.val (.int x)) [.own (.lst l2), .val (curveD c), s2, .val (trafD t), s4, .own (intL (restL c t)), .no] := by
      rw [ev_ty, opds1, oC, s_bind, s_evA2, eC]
      simp [opds, tyS, vI, Sl.d]
    generalize hg : (E.ty .int [(.call 1 [(.var 0), (.lst [(.int 0), (.bi .min [(.var 5)]), (.bi .min [(.var 5)]), (.call 0 [(.var 0), (.bop .Add (.bi .min [(.var 5)]) (.int 1))])])])]) = g at eY ⊢
    have ed : ev P18 CC (.tup [g]) = M.bind (evD P18 CC [g]) fun ds => if ds.length ≤ sizeLine then M.pure (.val (.tup ds)) else M.bad := by rw [ev]
    have ed2 : evD P18 CC [g] = M.bind (ev P18 CC g) fun s => M.bind (evD P18 CC []) fun ds => M.pure (s.d :: ds) := by
      rw [← hg]; exact evD_ty _ _ _ _ _
    rw [ed, s_bind, ed2, s_bind, eY]
    simp [evD, Sl.d, sizeLine_eq]
  unfold n18
  rw [x_set, ev_bop, s_bind, opd_varK, show ∀ as, opd P18 CC (.tup as) = .ex (ev P18 CC (.tup as)) from fun as => by simp only [opd], s_evA1]
  simp only [slotAt, List.getElem?_cons_succ, List.getElem?_cons_zero, s_ok, s_evA2, eT]
  simp [slotAt, bopS, trafD, sizeLine_eq, sz, Sl.d, putS, SR.of]
theorem fitting_ok {n : Int} {l : List D} (hn : n < 2 ^ 17) (hp : PotOk n l) (hc : Curve c) : ∃ t l', Fit c t ∧ t.length ≤ 10 ∧ PotOk (n + 21) l' ∧ F18 [.own (.lst l), .val (curveD c), .val (.int 10)] = .ok (.val (trafD t)) [.own (.lst l'), .val (curveD c), .val (.int 10)] := by
  have q0 : P18 0 = F0 := rfl
  obtain ⟨d, l1, hd, p1, e1⟩ := take_ok (u := 11) (by omega) hp (by decide)
  have hlen : ((rngD 0 d).length : Int) = d := by rw [rng_len]; omega
  have il := forI_ind (bt := bindT (.nm 4)) (b := exs P18 CC [s18, n18]) (fun i E => ∃ t l' s4 s5, Fit c t ∧ t.length = i ∧ PotOk (n + 1 + 2 * i) l' ∧ E = [.own (.lst l'), .val (curveD c), .val (.int 10), .val (trafD t), s4, s5, .no])
    (fun R => ∃ t l' s4 s5, Fit c t ∧ t.length ≤ 10 ∧ PotOk (n + 21) l' ∧ R = .nx [.own (.lst l'), .val (curveD c), .val (.int 10), .val (trafD t), s4, s5, .no]) (rngD 0 d)
    (fun i E dd hdd ⟨t, l', s4, s5, hf, hl, hp', eE⟩ => by
      subst eE
      obtain ⟨rfl, hi⟩ := rng2_get hdd
      refine ⟨[.own (.lst l'), .val (curveD c), .val (.int 10), .val (trafD t), .val (.int (0 + i)), s5, .no], by simp [bindT], ?_⟩
      obtain ⟨x, l2, hx0, hx1, p2, e2⟩ := n18_ok (s2 := .val (.int 10)) (s4 := .val (.int (0 + i))) (by omega) hp' hc hf (by omega)
      have b := minR_bound hc hf
      rw [x_exs1, s18_ok hc (by omega)]
      simp only [SR.then]
      rw [x_exs1, e2]
      simp only [SR.then, x_exs0]
      exact ⟨_, _, _, _, hf.app hx0 hx1 (by omega), by simp [hl], by rw [show n + 1 + 2 * ((i + 1 : Nat) : Int) = n + 1 + 2 * (i : Int) + 2 by omega]; exact p2, rfl⟩)
    (fun E ⟨t, l', s4, s5, hf, hl, hp', eE⟩ => by
      subst eE
      exact ⟨t, l', s4, s5, hf, by omega, hp'.mono (by omega), rfl⟩)
    [.own (.lst l1), .val (curveD c), .val (.int 10), .val (trafD []), .no, .no, .no] ⟨[], l1, .no, .no, ⟨by simp [hits, hitsTo], by simp⟩, rfl, p1.mono (by omega), rfl⟩
  obtain ⟨t, l2, s4, s5, hf, hl, p2, e⟩ := il
  refine ⟨t, l2, hf, hl, p2, ?_⟩
  have r0 : ex P18 CC (.set 3 (.tup [])) [.own (.lst l), .val (curveD c), .val (.int 10), .no, .no, .no, .no] = .nx [.own (.lst l), .val (curveD c), .val (.int 10), .val (trafD []), .no, .no, .no] := by
    simp [ex, ev, evD, putS, trafD, sizeLine_eq, SR.of]
  have ec : ev P18 CC (.call 0 [(.var 0), (.bop .Add (.var 2) (.int 1))]) [.own (.lst l), .val (curveD c), .val (.int 10), .val (trafD []), .no, .no, .no] = .ok (.val (.int d)) [.own (.lst l1), .val (curveD c), .val (.int 10), .val (trafD []), .no, .no, .no] := by
    simp [ev, opd, args, callS, evC, popS, slotAt, bopS, q0, e1, putBack, vI, Sl.d]
  unfold F18 fnS
  rw [b18]
  show (match exs P18 CC _ [.own (.lst l), .val (curveD c), .val (.int 10), .no, .no, .no, .no] with | .rt s E => R.ok s ((wipeE E []).take 3) | .nx E => .ok (.val .non) ((wipeE E []).take 3) | .exc c x E => .exc c x ((wipeE E []).take 3) | _ => .bad) = _
  rw [x_exs1, r0]
  simp only [SR.then]
  rw [x_exs1, x_for, rng1_ev ec (by omega) (by omega)]
  simp only [SR.of, e, SR.then]
  simp [exs, ex, ev, popS, SR.of, SR.then, wipeE]
end
end Lw
end

section
set_option Elab.async false
set_option linter.all false
set_option maxRecDepth 100000
set_option maxHeartbeats 2000000
/-! J48: k84, bent values -/
namespace Lw
open PySem L2
section
variable {Φ : Nat → M Sl} {k : Nat}
theorem bentG_int (q1 : Φ 1 = F1) {n : Int} {l : List D} {i : Int} (hn : n < 2 ^ 20) (h : PotOk n l) (hi : i.natAbs < 2 ^ 100) : ∃ d l', d ∈ intBents i ∧ PotOk (n + 1) l' ∧ fnS Φ CC 3 [] (bB k) [.own (.lst l), .val (.int i)] = .ok (.val d) [.own (.lst l'), .val (.int i)] := by
  obtain ⟨d, l', hd, hp, e⟩ := of_ok (n := n) (xs := intBents i) hn h (by simp [intBents]) (by simp [intBents])
  have p10 : (Builtin.Int.intBits 10 : Int) * 9 ≤ 134217728 := by decide +kernel
  have lg : i.natAbs.log2 < 1920 := Nat.lt_of_lt_of_le (log_lt (by decide) hi) (by decide)
  refine ⟨d, l', hd, hp, ?_⟩
  have ts : (toString i : String) = i.repr := rfl
  simp only [intBents, Int.reducePow, ts] at e
  unfold bB
  simp [fnS, exs, ex, ev, evT, evD, opds, opd, args, callS, evC, popS, fzS, biS, tyS, isiD, tyD, isiTys, isiS, q1, e, putBack, putS, bopS, cmpS, eqD_int, negS, p10, lg, truthD, vB, vI, Sl.d, sizeLine_eq, wipeE, SR.then]
theorem bentG_str (q1 : Φ 1 = F1) {n : Int} {l : List D} {s : Str} (hn : n < 2 ^ 20) (h : PotOk n l) (hs : s.length ≤ 1000) : ∃ d l', d ∈ strBents s ∧ PotOk (n + 1) l' ∧ fnS Φ CC 3 [] (bB k) [.own (.lst l), .val (.str s)] = .ok (.val d) [.own (.lst l'), .val (.str s)] := by
  obtain ⟨d, l', hd, hp, e⟩ := of_ok (n := n) (xs := strBents s) hn h (by simp [strBents]) (by simp [strBents])
  have la : Str.length "a" = 1 := by decide +kernel
  have l1 : s.length + Str.length "a" ≤ 16777216 := by rw [la]; omega
  have l2 : s.length ≤ 16777216 := by omega
  have l3 : s.length ≤ 5592405 := by omega
  refine ⟨d, l', hd, hp, ?_⟩
  simp only [strBents] at e
  unfold bB
  simp [fnS, exs, ex, ev, evT, evD, opds, opd, args, callS, evC, popS, fzS, biS, tyS, isiD, tyD, isiTys, isiS, q1, e, putBack, putS, bopS, cmpS, slP, partO, isNonE, partD, slS, mtP, mtS, l1, l2, l3, truthD, vB, vI, Sl.d, sizeLine_eq, wipeE, SR.then]
/-- what bending of a tuple comes to -/
def BentT (xs : List D) (I : D → Prop) (d : D) : Prop := (∃ es, (d = .tup es ∨ d = .lst es) ∧ es.length ≤ 2 * xs.length ∧ ∀ e ∈ es, e ∈ xs ∨ I e) ∨ d = .non
theorem cut_mem {α : Type} {xs : List α} {lo hi : Option Int} {x : α} (h : x ∈ cutD xs lo hi) : x ∈ xs := List.mem_of_mem_drop (List.mem_of_mem_take h)
theorem bents_in {xs : List D} {I : D → Prop} {d : D} (h : d ∈ tupBents xs) : BentT xs I d := by
  have c := @cut_len D xs
  simp only [tupBents, List.mem_cons, List.not_mem_nil, or_false] at h
  rcases h with rfl | rfl | rfl | rfl | rfl | rfl | rfl
  · exact .inl ⟨xs, .inr rfl, by omega, fun e he => .inl he⟩
  · exact .inl ⟨_, .inl rfl, by have := c (some 1) none; omega, fun e he => .inl (cut_mem he)⟩
  · exact .inl ⟨_, .inl rfl, by have := c none (some (-1)); omega, fun e he => .inl (cut_mem he)⟩
  · exact .inl ⟨_, .inl rfl, by rw [List.length_append]; have := c (some (-1)) none; omega, fun e he => .inl ((List.mem_append.mp he).elim id cut_mem)⟩
  · exact .inl ⟨_, .inl rfl, by rw [List.length_reverse]; omega, fun e he => .inl (List.mem_reverse.mp he)⟩
  · exact .inl ⟨[], .inl rfl, by simp, fun e he => nomatch he⟩
  · exact .inr rfl
theorem bentG_nil (q0 : Φ 0 = F0) (q1 : Φ 1 = F1) {n : Int} {l : List D} {I : D → Prop} (hn : n < 2 ^ 19) (h : PotOk n l) : ∃ d l', BentT [] I d ∧ PotOk (n + 1) l' ∧ fnS Φ CC 3 [] (bB k) [.own (.lst l), .val (.tup [])] = .ok (.val d) [.own (.lst l'), .val (.tup [])] := by
  obtain ⟨d, l', hd, hp, e⟩ := of_ok (n := n) (xs := tupBents []) (by omega) h (by simp [tupBents]) (by simp [tupBents])
  refine ⟨d, l', bents_in hd, hp, ?_⟩
  have he : eqD (.tup []) (.tup []) = some true := by decide +kernel
  have s1 : (cutD ([] : List D) (some (-1)) none).length ≤ 16777216 := Nat.le_trans (cut_len ([] : List D) (some (-1)) none) (by simp)
  simp only [tupBents] at e
  unfold bB
  simp [fnS, exs, ex, ev, evT, evD, opds, opd, args, callS, evC, popS, fzS, biS, tyS, isiT, lenD, q1, he, ixS, slP, partO, isNonE, partD, slS, revS, negS, putBack, putBack_ex, putS, bopS, cmpS, s1, truthD, vB, vI, Sl.d, sizeLine_eq, wipeE, SR.then]
  simp at e
  simp [e, wipeE, SR.of, SR.then, putBack, s1]
theorem bentG_tup (G : M Sl) (q0 : Φ 0 = F0) (q1 : Φ 1 = F1) (qk : Φ k = G) {n m : Int} {l : List D} {xs : List D} {I : D → Prop} (hm : 0 ≤ m) (hn : n < 2 ^ 18) (h : PotOk n l) (h0 : 0 < xs.length) (hl : xs.length ≤ 1000) (he : eqD (.tup xs) (.tup []) = some false)
    (hi : ∀ x ∈ xs, ∀ l1, PotOk (n + 2) l1 → ∃ d l', I d ∧ PotOk (n + 2 + m) l' ∧ G [.own (.lst l1), .val x] = .ok (.val d) [.own (.lst l'), .val x]) :
    ∃ d l', BentT xs I d ∧ PotOk (n + 2 + m) l' ∧ fnS Φ CC 3 [] (bB k) [.own (.lst l), .val (.tup xs)] = .ok (.val d) [.own (.lst l'), .val (.tup xs)] := by
  obtain ⟨a, l1, hk, p1, e1⟩ := take_ok (u := 5) (by omega) h (by decide)
  by_cases hk0 : 0 < a
  · obtain ⟨j, l2, hj, p2, e2⟩ := take_ok (u := (xs.length : Int)) (by omega) p1 ⟨by omega, by omega⟩
    obtain ⟨x, hx, ex1, ex2⟩ := atI_mem (xs := xs) hj.1 hj.2
    obtain ⟨y, l3, hy, p3, e3⟩ := hi x hx l2 (by have := p2; rw [show n + 1 + 1 = n + 2 by omega] at this; exact this)
    have c1 := cut_len xs none (some j)
    have c2 := cut_len xs (some (j + 1)) none
    have t1 : (cutD xs none (some j)).length = j.toNat := by
      have := cut_to xs j.toNat
      rw [show ((j.toNat : Nat) : Int) = j by omega] at this
      rw [this, List.length_take]; omega
    have t2 : (cutD xs (some (j + 1)) none).length = xs.length - (j.toNat + 1) := by
      have := cut_from (xs := xs) (i := j.toNat + 1) (by omega)
      rw [show (((j.toNat + 1 : Nat)) : Int) = j + 1 by omega] at this
      rw [this, List.length_drop]
    have s1 : (cutD xs none (some j)).length + 1 ≤ 16777216 := by omega
    have s2 : (cutD xs none (some j)).length + 1 + (cutD xs (some (j + 1)) none).length ≤ 16777216 := by omega
    refine ⟨.tup (cutD xs none (some j) ++ [y] ++ cutD xs (some (j + 1)) none), l3, .inl ⟨_, .inl rfl, by simp; omega, fun e hm => ?_⟩, p3, ?_⟩
    · rcases List.mem_append.mp hm with hm | hm
      · rcases List.mem_append.mp hm with hm | hm
        · exact .inl (cut_mem hm)
        · simp at hm; subst hm; exact .inr hy
      · exact .inl (cut_mem hm)
    · unfold bB
      simp [fnS, exs, ex, ev, evT, evD, opds, opd, args, callS, evC, popS, fzS, biS, isiT, lenD, q0, q1, qk, e1, e2, e3, ex1, he, hk0, ixS, slP, partO, isNonE, partD, slS, putBack, putBack_ex, putS, bopS, cmpS, s1, s2, truthD, vB, vI, Sl.d, sizeLine_eq, wipeE, SR.then]
  · obtain ⟨d, l', hd, hp, e⟩ := of_ok (n := n + 1) (xs := tupBents xs) (by omega) p1 (by simp [tupBents]) (by simp [tupBents])
    refine ⟨d, l', bents_in hd, hp.mono (by omega), ?_⟩
    have c1 := cut_len xs (some (-1)) none
    have s1 : xs.length + (cutD xs (some (-1)) none).length ≤ 16777216 := by omega
    simp only [tupBents] at e
    unfold bB
    simp [fnS, exs, ex, ev, evT, evD, opds, opd, args, callS, evC, popS, fzS, biS, tyS, isiT, lenD, q0, q1, e1, e, he, hk0, ixS, slP, partO, isNonE, partD, slS, revS, negS, putBack, putBack_ex, putS, bopS, cmpS, s1, truthD, vB, vI, Sl.d, sizeLine_eq, wipeE, SR.then]
end
/-- a value, and tuples in it, that are not too long -/
def InV (y : D) : Prop := cleanB y = true ∧ ∀ us, y = .tup us → us.length ≤ 1000
def OkV (v : D) : Prop := cleanB v = true ∧ ∀ xs, v = .tup xs → xs.length ≤ 1000 ∧ ∀ y ∈ xs, InV y
theorem OkV.len {v : D} (h : OkV v) : ∀ x ws, v = .tup x → ∀ y ∈ x, y = .tup ws → ws.length ≤ 1000000 := fun x ws e y hy ey => by
  have := ((h.2 x e).2 y hy).2 ws ey; omega
theorem clean_str {z : Str} : cleanB (.str z) = PyData.strOk z := by simp [cleanB]
theorem okv_of {xs : List D} (hl : xs.length ≤ 1000) (h : ∀ y ∈ xs, InV y) : OkV (.tup xs) := ⟨clean_of fun d hd => (h d hd).1, fun ys e => by cases e; exact ⟨hl, h⟩⟩
theorem okv_nt {v : D} (h : cleanB v = true) (n : ∀ xs, v ≠ .tup xs) : OkV v := ⟨h, fun xs e => absurd e (n xs)⟩
theorem inv_nt {v : D} (h : cleanB v = true) (n : ∀ xs, v ≠ .tup xs) : InV v := ⟨h, fun xs e => absurd e (n xs)⟩
theorem inv_int (i : Int) : InV (.int i) := inv_nt rfl fun _ z => nomatch z
theorem inv_non : InV .non := inv_nt rfl fun _ z => nomatch z
theorem inv_bl (b : Bool) : InV (.bl b) := inv_nt rfl fun _ z => nomatch z
theorem inv_str {z : Str} (h : PyData.strOk z = true) : InV (.str z) := inv_nt (by rw [clean_str]; exact h) fun _ z => nomatch z
theorem inv_ints {t : List Int} (hl : t.length ≤ 1000) : InV (trafD t) := by
  unfold trafD
  refine ⟨clean_of fun d hd => ?_, fun us e => by cases e; simpa using hl⟩
  obtain ⟨x, _, rfl⟩ := List.mem_map.mp hd
  rfl
theorem bent_ok_t {xs : List D} {I : D → Prop} {d : D} (hl : xs.length ≤ 500) (h : BentT xs I d) (hx : ∀ x ∈ xs, InV x) (hI : ∀ x, I x → InV x) : OkV d := by
  rcases h with ⟨es, rfl | rfl, h2, h3⟩ | rfl
  · exact okv_of (by omega) fun y hy => (h3 y hy).elim (hx y) (hI y)
  · refine okv_nt ?_ fun _ z => nomatch z
    have : cleanBs es = true := cleans_iff.mpr fun d hd => (h3 d hd).elim (fun z => (hx d z).1) fun z => (hI d z).1
    simpa [cleanB] using this
  · exact okv_nt rfl fun _ z => nomatch z
theorem bent_in_t {xs : List D} {I : D → Prop} {d : D} (hl : xs.length ≤ 500) (h : BentT xs I d) (hx : ∀ x ∈ xs, cleanB x = true) (hI : ∀ x, I x → cleanB x = true) : InV d := by
  rcases h with ⟨es, rfl | rfl, h2, h3⟩ | rfl
  · exact ⟨clean_of fun d hd => (h3 d hd).elim (hx d) (hI d), fun us e => by cases e; omega⟩
  · refine inv_nt ?_ fun _ z => nomatch z
    have : cleanBs es = true := cleans_iff.mpr fun d hd => (h3 d hd).elim (hx d) (hI d)
    simpa [cleanB] using this
  · exact inv_non
theorem int_bents_in {i : Int} {d : D} (h : d ∈ intBents i) : InV d := by
  simp only [intBents, List.mem_cons, List.not_mem_nil, or_false] at h
  rcases h with rfl | rfl | rfl | rfl | rfl | rfl | rfl | rfl
  · exact inv_int _
  · exact inv_int _
  · exact inv_int _
  · exact inv_str (strOk_int i)
  · exact inv_bl _
  · exact inv_non
  · exact ⟨clean_of (by simp [cleanB]), fun us e => by cases e; simp⟩
  · exact inv_int _
theorem late_bents_in {d : D} (h : d ∈ strBents "late") : InV d := by
  have key : (strBents "late").all cleanB = true := by decide +kernel
  refine ⟨List.all_eq_true.mp key d h, fun us e => ?_⟩
  subst e
  simp [strBents] at h
theorem never_bents_in {d : D} (h : d ∈ strBents "never") : InV d := by
  have key : (strBents "never").all cleanB = true := by decide +kernel
  refine ⟨List.all_eq_true.mp key d h, fun us e => ?_⟩
  subst e
  simp [strBents] at h
theorem odd_okv {d : D} (h : d ∈ oddL) : OkV d := by
  have key : (oddL.all fun d => cleanB d && (match d with | .tup xs => decide (xs.length ≤ 1000) && xs.all (fun y => cleanB y && (match y with | .tup us => decide (us.length ≤ 1000) | _ => true)) | _ => true)) = true := by decide +kernel
  have := List.all_eq_true.mp key d h
  simp only [Bool.and_eq_true] at this
  refine ⟨this.1, fun xs e => ?_⟩
  subst e
  have q := this.2
  simp only [Bool.and_eq_true, decide_eq_true_eq, List.all_eq_true] at q
  refine ⟨q.1, fun y hy => ⟨(q.2 y hy).1, fun us e => ?_⟩⟩
  subst e
  have := (q.2 _ hy).2
  simpa using this
theorem f33_eq : F33 = fnS P33 CC 3 [] (bB 32) := rfl
theorem letZ_small {c : Cv} (hc : Drawn c) {t : Int} (h0 : 0 ≤ t) (h1 : t ≤ 100) : letZ c t ≤ 5000 := by
  by_cases h : 0 < t
  · obtain ⟨p, hp, e⟩ := letZ_mem hc.1 (m := t) h
    have b := hc.2.2.1 p hp
    have := Int.mul_le_mul b.2.2 h1 h0 (show (0 : Int) ≤ 20 by decide)
    omega
  · unfold letZ; rw [if_neg h]; omega
theorem late_small {c : Cv} {s : Int × Int} (hc : Drawn c) (hs : Srv s) {m : Int} (e : lateO c s = some m) : 0 ≤ m ∧ m ≤ 6000 := by
  have r0 := hs.r0
  have l0 := hs.l0
  have l1 := hs.l1
  by_cases h1 : letZ c 1 = 0
  · unfold lateO at e
    rw [if_pos h1] at e
    cases e; omega
  · obtain ⟨q1, q2, q3, q4⟩ := late_max hc e h1
    refine ⟨q3, ?_⟩
    by_cases hm : m = 0
    · omega
    · obtain ⟨r, e1, e2, e3⟩ := late_first hc e hm
      have b1 := e2.pos
      have b2 := e2.le hc
      have b3 := letZ_small hc (t := (lateW c s m : Int)) (by omega) (by omega)
      have b4 := letZ_pos hc.curve (a := (lateW c s m : Int))
      have cn : cdiv (letZ c (lateW c s m : Int)) s.1 ≤ letZ c (lateW c s m : Int) := (cdiv_le (by omega)).mpr (by
        have := Int.mul_le_mul_of_nonneg_right (show 1 ≤ s.1 by omega) b4
        omega)
      unfold lateZ at e3
      omega
theorem bent34_traf {t : List Int} {n : Int} {l : List D} (ht : t.length ≤ 500) (hb : ∀ x ∈ t, x.natAbs < 2 ^ 100) (hn : n < 2 ^ 18) (h : PotOk n l) : ∃ d l', InV d ∧ PotOk (n + 3) l' ∧ F34 [.own (.lst l), .val (trafD t)] = .ok (.val d) [.own (.lst l'), .val (trafD t)] := by
  rw [f21_eq]
  cases t with
  | nil =>
    obtain ⟨d, l', h1, h2, h3⟩ := bentG_nil (Φ := P34) (k := 33) (I := InV) rfl rfl (by omega) h
    exact ⟨d, l', bent_in_t (by simp) h1 (fun x hx => nomatch hx) (fun x hx => hx.1), h2.mono (by omega), h3⟩
  | cons a r =>
    have he : eqD (.tup ((a :: r).map D.int)) (.tup []) = some false := by
      have := eq_traf (a :: r) []
      simpa [trafD] using this
    obtain ⟨d, l', h1, h2, h3⟩ := bentG_tup (Φ := P34) (k := 33) (xs := (a :: r).map D.int) (I := InV) F33 rfl rfl rfl (m := 1) (by omega) hn h (by simp) (by simp; simp at ht; omega) he (fun x hx l1 p1 => by
      obtain ⟨i, hi, rfl⟩ := List.mem_map.mp hx
      obtain ⟨d, l', h1, h2, h3⟩ := bentG_int (Φ := P33) (k := 32) (i := i) rfl (by omega) p1 (hb i hi)
      exact ⟨d, l', int_bents_in h1, h2, by rw [f33_eq]; exact h3⟩)
    refine ⟨d, l', bent_in_t (by simpa using ht) h1 (fun x hx => ?_) (fun x hx => hx.1), by rw [show n + 3 = n + 2 + 1 by omega]; exact h2, h3⟩
    obtain ⟨i, _, rfl⟩ := List.mem_map.mp hx
    rfl
theorem eq_told (m : Int) (t : List Int) : eqD (.tup [.str "late", .int m, trafD t]) (.tup []) = some false := by
  have hp : (D.tup [.str "late", .int m, trafD t]).py = some (.tuple [.str "late", .int m, .tuple (t.map .int)]) := by
    simp [D.py, D.pys, trafD, pys_map int_py]
  have h1 : PyData.canLayAll0 (t.map .int) = true := canLay_map t fun x _ => by simp [PyData.canLay0]
  have h2 : PyData.depthAll (t.map .int) ≤ 1 := depth_map t fun x _ => by simp [PyData.depth]
  have hs : SeqAt.shaped (.tuple [.str "late", .int m, .tuple (t.map .int)]) = true := by
    simp [SeqAt.shaped, PyData.canLay0, PyData.canLayAll0, PyData.depth, PyData.depthAll, strOk_late, h1]
    omega
  have ho : okD (.tup [.str "late", .int m, trafD t]) = some (.tuple [.str "late", .int m, .tuple (t.map .int)]) := by simp [okD, hp, hs]
  have h0 : okD (.tup []) = some (.tuple []) := ok_traf []
  simp [eqD, ho, h0, PyData.eqv, PyData.eqvAll]
/-- told, bent -/
theorem bent_told {c : Cv} {s : Int × Int} {n : Int} {l : List D} (hc : Drawn c) (hs : Srv s) (hn : n < 2 ^ 17) (h : PotOk n l) :
    ∃ d l', OkV d ∧ PotOk (n + 5) l' ∧ F35 [.own (.lst l), .val (toldD c s)] = .ok (.val d) [.own (.lst l'), .val (toldD c s)] := by
  have str34 : ∀ z : Str, z.length ≤ 1000 → (∀ d ∈ strBents z, InV d) → ∀ l1, PotOk (n + 2) l1 → ∃ d l', InV d ∧ PotOk (n + 2 + 3) l' ∧ F34 [.own (.lst l1), .val (.str z)] = .ok (.val d) [.own (.lst l'), .val (.str z)] := fun z hz hI l1 p1 => by
    obtain ⟨d, l', h1, h2, h3⟩ := bentG_str (Φ := P34) (k := 33) (s := z) rfl (by omega) p1 hz
    exact ⟨d, l', hI d h1, h2.mono (by omega), by rw [f21_eq]; exact h3⟩
  have int34 : ∀ i : Int, i.natAbs < 2 ^ 100 → ∀ l1, PotOk (n + 2) l1 → ∃ d l', InV d ∧ PotOk (n + 2 + 3) l' ∧ F34 [.own (.lst l1), .val (.int i)] = .ok (.val d) [.own (.lst l'), .val (.int i)] := fun i hi l1 p1 => by
    obtain ⟨d, l', h1, h2, h3⟩ := bentG_int (Φ := P34) (k := 33) (i := i) rfl (by omega) p1 hi
    exact ⟨d, l', int_bents_in h1, h2.mono (by omega), by rw [f21_eq]; exact h3⟩
  have ll : Str.length "late" ≤ 1000 := by decide +kernel
  have ln : Str.length "never" ≤ 1000 := by decide +kernel
  have go : ∀ xs : List D, toldD c s = .tup xs → 0 < xs.length → xs.length ≤ 500 → eqD (.tup xs) (.tup []) = some false → (∀ x ∈ xs, InV x) → (∀ x ∈ xs, ∀ l1, PotOk (n + 2) l1 → ∃ d l', InV d ∧ PotOk (n + 2 + 3) l' ∧ F34 [.own (.lst l1), .val x] = .ok (.val d) [.own (.lst l'), .val x]) →
      ∃ d l', OkV d ∧ PotOk (n + 5) l' ∧ F35 [.own (.lst l), .val (toldD c s)] = .ok (.val d) [.own (.lst l'), .val (toldD c s)] := fun xs e h0 h1 he hx hi => by
    obtain ⟨d, l', h1', h2, h3⟩ := bentG_tup (Φ := P35) (k := 34) (xs := xs) (I := InV) F34 rfl rfl rfl (m := 3) (by omega) (by omega) h h0 (by omega) he hi
    refine ⟨d, l', bent_ok_t h1 h1' hx (fun x hx => hx), by rw [show n + 5 = n + 2 + 3 by omega]; exact h2, ?_⟩
    rw [f22_eq, e]; exact h3
  cases e : lateO c s with
  | none =>
    refine go [.str "never"] (by unfold toldD; rw [e]) (by simp) (by simp) (by decide +kernel) (fun x hx => ?_) fun x hx => ?_
    · simp at hx; subst hx; exact inv_str strOk_never
    · simp at hx; subst hx; exact str34 _ ln fun d hd => never_bents_in hd
  | some m =>
    have mb := late_small hc hs e
    have build : ∀ t : List Int, t.length ≤ 500 → (∀ x ∈ t, x.natAbs < 2 ^ 100) → toldD c s = .tup [.str "late", .int m, trafD t] → ∃ d l', OkV d ∧ PotOk (n + 5) l' ∧ F35 [.own (.lst l), .val (toldD c s)] = .ok (.val d) [.own (.lst l'), .val (toldD c s)] := fun t ht hb et => by
      refine go _ et (by simp) (by simp) (eq_told m t) (fun x hx => ?_) fun x hx => ?_
      · simp only [List.mem_cons, List.not_mem_nil, or_false] at hx
        rcases hx with rfl | rfl | rfl
        · exact inv_str strOk_late
        · exact inv_int _
        · exact inv_ints (by omega)
      · simp only [List.mem_cons, List.not_mem_nil, or_false] at hx
        rcases hx with rfl | rfl | rfl
        · exact str34 _ ll fun d hd => late_bents_in hd
        · exact int34 m (by omega)
        · exact fun l1 p1 => bent34_traf ht hb (by omega) p1
    by_cases hm : m = 0
    · subst hm
      exact build [] (by simp) (by simp) (by unfold toldD; rw [e]; simp [trafD])
    · obtain ⟨r, e1, e2, e3⟩ := late_first hc e hm
      have b2 := e2.le hc
      have tf := full_traf hc.curve (n := lateW c s m) (by omega)
      exact build (fullN c (lateW c s m)) tf.len (fun x hx => by have := tf.small x hx; omega) (by unfold toldD; rw [e]; dsimp only; rw [if_neg hm])
end Lw
end

section
set_option Elab.async false
set_option linter.all false
set_option maxRecDepth 100000
set_option maxHeartbeats 2000000
/-! J49: k84, _law_is_server_right: the statements -/
namespace Lw
open PySem L2
theorem heldO_small {c : Cv} {s : Int × Int} (hc : Drawn c) (hs : SrvD s) {M : Int} (e : heldO c s = some M) : 0 ≤ M ∧ M ≤ 6000 := by
  have r0 := hs.r0
  have l0 := hs.l0
  have l1 := hs.l1
  unfold heldO at e
  split at e
  · cases e
  · cases e
    obtain ⟨q1, q2⟩ := maxL_mx (l := heldL c s) (by simp [heldL])
    constructor
    · have := q2 (letZ c 1 - servZ s (1 - 1)) (List.mem_map.mpr ⟨1, List.mem_append_left _ ((ticks_iff hc.2.2.2.1).mpr (.inl rfl)), rfl⟩)
      have e1 : servZ s (1 - 1) = 0 := by unfold servZ; rw [if_neg (by omega), Int.mul_zero]
      have p1 := letZ_pos hc.curve (a := 1)
      omega
    · obtain ⟨t, ht, et⟩ := List.mem_map.mp q1
      have b : 1 ≤ t ∧ t ≤ 100 := by
        rcases List.mem_append.mp ht with ht | ht
        · have := tick31 hc ht; omega
        · simp at ht; omega
      have := letZ_small hc (t := t) (by omega) b.2
      have := servZ_pos r0 (t - 1)
      omega
theorem lateT_small {s : Int × Int} {t : List Int} (hs : Srv s) (ht : Traf t) {n : Int} (e : lateT s t = some n) : n.natAbs < 10 ^ 12 := by
  have r0 := hs.r0
  have l1 := hs.l1
  have l0 := hs.l0
  obtain ⟨b, hb, _⟩ := law_late_ok hs ht
  unfold lateT lateN at e
  by_cases hz : s.1 = 0
  · rw [if_pos hz] at e
    split at e
    · cases e
    · cases e; decide
  · rw [if_neg hz] at e
    cases e
    have hb := hb hz
    rw [latB_eq hb]
    have b0 := hb.2 0 (.inl rfl)
    rcases hb.1 with rfl | ⟨i, l, hil, hl, hk, rfl⟩
    · decide
    · have bd := sumZ_bound ht.small i (l - i + 1)
      have hlen := ht.len
      have cn : cdiv (sumZ t i (l - i + 1)) s.1 ≤ sumZ t i (l - i + 1) := (cdiv_le (by omega)).mpr (by
        have := Int.mul_le_mul_of_nonneg_right (show 1 ≤ s.1 by omega) bd.1
        omega)
      unfold lateV lateZ at b0 ⊢
      omega
theorem heldT_small {s : Int × Int} {t : List Int} (hs : Srv s) (ht : Traf t) : (heldT s t).natAbs < 10 ^ 12 := by
  have r0 := hs.r0
  have h := heldT_is hs ht
  have b0 := h.2 0 (.inl rfl)
  have hlen := ht.len
  rcases h.1 with e | ⟨i, l, hil, hl, _, e⟩
  · rw [e]; decide
  · have bd := sumZ_bound ht.small i (l - i + 1)
    have := servZ_pos r0 ((l : Int) - (i : Int))
    unfold heldV at e
    omega
theorem repr_opt {o : Option Int} (h : ∀ i, o = some i → i.natAbs < 10 ^ 12) : ∃ x, reprD (optD o) = some x ∧ PyData.strOk x = true := by
  cases o with
  | none => exact ⟨_, rfl, by decide +kernel⟩
  | some i => exact ⟨_, repr_int (h i rfl), strOk_int i⟩
/-- repr(a) != repr(b), where both are d -/
theorem repr_same (Φ : Nat → M Sl) {a b : E} {E : SE} {x : Str} (ha : ev Φ CC (.bi .repr [a]) E = .ok (.val (.str x)) E) (hb : ev Φ CC (.bi .repr [b]) E = .ok (.val (.str x)) E) (hx : PyData.strOk x = true) : evT Φ CC (.cmp .NotEq (.bi .repr [a]) (.bi .repr [b])) E = .ok false E := by
  have e := eqD_str hx hx
  rw [evT_cmpK, s_bind, opd_cmp, s_evA2, ev_cmp, opd_bi, opd_bi, s_bind, s_evA2, ha, s_ok, s_evA2, hb]
  simp [Sl.d, cmpS, e, vB, truthD]
theorem repr_call (Φ : Nat → M Sl) {k : Nat} {as : List E} {E : SE} {d : D} {x : Str} (h : ev Φ CC (.call k as) E = .ok (.val d) E) (hx : reprD d = some x) : ev Φ CC (.bi .repr [.call k as]) E = .ok (.val (.str x)) E := by
  rw [ev_biK, opds1, show opd Φ CC (.call k as) = .ex (ev Φ CC (.call k as)) by simp only [opd], s_bind, s_evA2, h]
  simp [opds, Sl.d, biS, hx]
theorem repr_var (Φ : Nat → M Sl) {i : Nat} {E : SE} {d : D} {x : Str} (h : E[i]? = some (.val d)) (hx : reprD d = some x) : ev Φ CC (.bi .repr [.var i]) E = .ok (.val (.str x)) E := by
  rw [ev_biK, opds1, opd_varK, s_bind, s_evA1]
  simp [opds, slotAt, h, biS, hx]
def eR (s0 s1 s2 s3 s4 s5 s6 s7 s8 s9 : Sl) : SE := [s0, s1, s2, s3, s4, s5, s6, s7, s8, s9, .no, .no]
section
variable {c : Cv} {s : Int × Int} {s0 s3 s4 s5 s6 s7 s8 s9 : Sl}
theorem r41_1 (hc : Drawn c) (hs : SrvD s) : ex P41 CC (.setT (.tup [(.nm 3), (.nm 4)]) (.call 6 [(.var 1), (.var 2)])) (eR s0 (.val (curveD c)) (.val (prD s)) s3 s4 s5 s6 s7 s8 s9) = .nx (eR s0 (.val (curveD c)) (.val (prD s)) (.val (optD (lateO c s))) (.val (optD (heldO c s))) s5 s6 s7 s8 s9) := by
  have q6 : P41 6 = F6 := rfl
  have e6 := law_most_ok hc hs
  unfold eR
  simp [ex, ev, args, callS, evC, slotAt, popS, q6, e6, putBack, bindT, bindTs, SR.of]
theorem r41_2 (hc : Drawn c) (hs : SrvD s) : ex P41 CC (.set 5 (.call 17 [(.var 1), (.var 2)])) (eR s0 (.val (curveD c)) (.val (prD s)) s3 s4 s5 s6 s7 s8 s9) = .nx (eR s0 (.val (curveD c)) (.val (prD s)) s3 s4 (.val (toldD c s)) s6 s7 s8 s9) := by
  have q17 : P41 17 = F17 := rfl
  have e17 := late_most_ok hc hs.srv
  unfold eR
  simp [ex, ev, args, callS, evC, slotAt, popS, q17, e17, putBack, putS, SR.of]
theorem told_ok (hc : Drawn c) (hs : Srv s) : ∃ xs, toldD c s = .tup xs ∧ xs.length ≤ 3 ∧ ∀ x ∈ xs, InV x := by
  cases e : lateO c s with
  | none => exact ⟨[.str "never"], by unfold toldD; rw [e], by simp, fun x hx => by simp at hx; subst hx; exact inv_str strOk_never⟩
  | some m =>
    have hin : ∀ t : List Int, t.length ≤ 1000 → ∀ x ∈ [D.str "late", .int m, trafD t], InV x := fun t ht x hx => by
      simp only [List.mem_cons, List.not_mem_nil, or_false] at hx
      rcases hx with rfl | rfl | rfl
      · exact inv_str strOk_late
      · exact inv_int _
      · exact inv_ints ht
    by_cases hm : m = 0
    · subst hm
      exact ⟨[.str "late", .int 0, trafD []], by unfold toldD; rw [e]; simp [trafD], by simp, hin [] (by simp)⟩
    · obtain ⟨r, e1, e2, e3⟩ := late_first hc e hm
      have b2 := e2.le hc
      exact ⟨[.str "late", .int m, trafD (fullN c (lateW c s m))], by unfold toldD; rw [e]; dsimp only; rw [if_neg hm], by simp, hin _ (by rw [full_len]; omega)⟩
theorem told_okv (hc : Drawn c) (hs : Srv s) : OkV (toldD c s) := by
  obtain ⟨xs, e, h1, h2⟩ := told_ok hc hs
  rw [e]; exact okv_of (by omega) h2
theorem r41_3 (hc : Drawn c) (hs : SrvD s) : ex P41 CC (.ite (.orV (.notV (.call 22 [(.var 1), (.var 2), (.var 3), (.var 5)])) (.cmp .NotEq (.bi .repr [(.call 37 [(.var 1), (.var 2)])]) (.bi .repr [(.var 4)]))) [.ret (.bl false)] []) (eR s0 (.val (curveD c)) (.val (prD s)) (.val (optD (lateO c s))) (.val (optD (heldO c s))) (.val (toldD c s)) s6 s7 s8 s9) = .nx (eR s0 (.val (curveD c)) (.val (prD s)) (.val (optD (lateO c s))) (.val (optD (heldO c s))) (.val (toldD c s)) s6 s7 s8 s9) := by
  have q22 : P41 22 = F22 := rfl
  have q37 : P41 37 = F37 := rfl
  have ov := told_okv hc hs.srv
  have e22 := is_due_ok hc hs.srv ov.1 ov.len
  rw [told_due hc hs.srv] at e22
  have e37 := held_most_ok hc hs
  obtain ⟨x, hx1, hx2⟩ := repr_opt (o := heldO c s) fun i hi => by have := heldO_small hc hs hi; omega
  generalize hE : eR s0 (.val (curveD c)) (.val (prD s)) (.val (optD (lateO c s))) (.val (optD (heldO c s))) (.val (toldD c s)) s6 s7 s8 s9 = E
  have c1 : evT P41 CC (.notV (.call 22 [(.var 1), (.var 2), (.var 3), (.var 5)])) E = .ok false E := by
    rw [← hE]; unfold eR
    simp [evT, ev, opd, args, callS, evC, slotAt, popS, q22, e22, putBack, truthD, vB, Sl.d]
  have c2 : ev P41 CC (.call 37 [(.var 1), (.var 2)]) E = .ok (.val (optD (heldO c s))) E := by
    rw [← hE]; unfold eR
    simp [ev, args, callS, evC, slotAt, popS, q37, e37, putBack]
  have c3 := repr_same P41 (repr_call P41 c2 hx1) (repr_var P41 (i := 4) (E := E) (d := optD (heldO c s)) (by rw [← hE]; rfl) hx1) hx2
  rw [x_ite, evT_or, s_bind, c1]
  simp only [s_ok, Bool.false_eq_true, if_false]
  rw [c3]
  simp [SR.of, x_exs0]
theorem r41_4 {n : Int} {l : List D} (hn : n < 2 ^ 17) (hp : PotOk n l) (hc : Drawn c) : ∃ t l', Fit c t ∧ t.length ≤ 10 ∧ PotOk (n + 21) l' ∧ ex P41 CC (.set 6 (.call 18 [(.var 0), (.var 1), (.int 10)])) (eR (.own (.lst l)) (.val (curveD c)) (.val (prD s)) s3 s4 s5 s6 s7 s8 s9) = .nx (eR (.own (.lst l')) (.val (curveD c)) (.val (prD s)) s3 s4 s5 (.val (trafD t)) s7 s8 s9) := by
  obtain ⟨t, l', h1, h2, h3, e⟩ := fitting_ok hn hp hc.curve
  have q18 : P41 18 = F18 := rfl
  refine ⟨t, l', h1, h2, h3, ?_⟩
  unfold eR
  simp [ex, ev, args, callS, evC, slotAt, popS, q18, vI, e, putBack, putS, SR.of]
theorem r41_5 {t : List Int} (hs : Srv s) (ht : Traf t) {s1 : Sl} : ex P41 CC (.set 7 (.call 19 [(.var 2), (.var 6)])) (eR s0 s1 (.val (prD s)) s3 s4 s5 (.val (trafD t)) s7 s8 s9) = .nx (eR s0 s1 (.val (prD s)) s3 s4 s5 (.val (trafD t)) (.val (optD (lateT s t))) s8 s9) := by
  have q19 : P41 19 = F19 := rfl
  have e19 := late_law hs ht
  unfold eR
  simp [ex, ev, args, callS, evC, slotAt, popS, q19, e19, putBack, putS, SR.of]
theorem r41_6 {t : List Int} (hs : Srv s) (ht : Traf t) {s1 : Sl} : ex P41 CC (.ite (.cmp .NotEq (.bi .repr [(.call 26 [(.var 2), (.var 6)])]) (.bi .repr [(.var 7)])) [.ret (.bl false)] []) (eR s0 s1 (.val (prD s)) s3 s4 s5 (.val (trafD t)) (.val (optD (lateT s t))) s8 s9) = .nx (eR s0 s1 (.val (prD s)) s3 s4 s5 (.val (trafD t)) (.val (optD (lateT s t))) s8 s9) := by
  have q26 : P41 26 = F26 := rfl
  have e26 := late_own hs ht
  obtain ⟨x, hx1, hx2⟩ := repr_opt (o := lateT s t) fun i hi => lateT_small hs ht hi
  generalize hE : eR s0 s1 (.val (prD s)) s3 s4 s5 (.val (trafD t)) (.val (optD (lateT s t))) s8 s9 = E
  have c2 : ev P41 CC (.call 26 [(.var 2), (.var 6)]) E = .ok (.val (optD (lateT s t))) E := by
    rw [← hE]; unfold eR
    simp [ev, args, callS, evC, slotAt, popS, q26, e26, putBack]
  have c3 := repr_same P41 (repr_call P41 c2 hx1) (repr_var P41 (i := 7) (E := E) (d := optD (lateT s t)) (by rw [← hE]; rfl) hx1) hx2
  rw [x_ite, c3]
  simp [SR.of, x_exs0]
theorem r41_7 {t : List Int} (hs : Srv s) (ht : Traf t) {s1 : Sl} : ex P41 CC (.ite (.cmp .NotEq (.bi .repr [(.call 28 [(.var 2), (.var 6)])]) (.bi .repr [(.call 29 [(.var 2), (.var 6)])])) [.ret (.bl false)] []) (eR s0 s1 (.val (prD s)) s3 s4 s5 (.val (trafD t)) s7 s8 s9) = .nx (eR s0 s1 (.val (prD s)) s3 s4 s5 (.val (trafD t)) s7 s8 s9) := by
  have q28 : P41 28 = F28 := rfl
  have q29 : P41 29 = F29 := rfl
  have e28 := held_own hs ht
  have e29 := held_law hs ht
  have hx1 := repr_int (heldT_small hs ht)
  generalize hE : eR s0 s1 (.val (prD s)) s3 s4 s5 (.val (trafD t)) s7 s8 s9 = E
  have c2 : ev P41 CC (.call 28 [(.var 2), (.var 6)]) E = .ok (.val (.int (heldT s t))) E := by
    rw [← hE]; unfold eR
    simp [ev, args, callS, evC, slotAt, popS, q28, e28, vI, putBack]
  have c4 : ev P41 CC (.call 29 [(.var 2), (.var 6)]) E = .ok (.val (.int (heldT s t))) E := by
    rw [← hE]; unfold eR
    simp [ev, args, callS, evC, slotAt, popS, q29, e29, vI, putBack]
  have c3 := repr_same P41 (repr_call P41 c2 hx1) (repr_call P41 c4 hx1) (strOk_int _)
  rw [x_ite, c3]
  simp [SR.of, x_exs0]
theorem r41_8 {t : List Int} (hc : Drawn c) (hs : SrvD s) (ht : Traf t) (hf : hits c t = []) {s1 : Sl} : ex P41 CC (.ite (.orV (.andV (.cmp .IsNot (.var 3) .non) (.orV (.cmp .Is (.var 7) .non) (.cmp .Gt (.var 7) (.var 3)))) (.andV (.cmp .IsNot (.var 4) .non) (.cmp .Gt (.call 29 [(.var 2), (.var 6)]) (.var 4)))) [.ret (.bl false)] [])
    (eR s0 s1 (.val (prD s)) (.val (optD (lateO c s))) (.val (optD (heldO c s))) s5 (.val (trafD t)) (.val (optD (lateT s t))) s8 s9) = .nx (eR s0 s1 (.val (prD s)) (.val (optD (lateO c s))) (.val (optD (heldO c s))) s5 (.val (trafD t)) (.val (optD (lateT s t))) s8 s9) := by
  have q29 : P41 29 = F29 := rfl
  have e29 := held_law hs.srv ht
  have c1 : evT P41 CC (.andV (.cmp .IsNot (.var 3) .non) (.orV (.cmp .Is (.var 7) .non) (.cmp .Gt (.var 7) (.var 3)))) (eR s0 s1 (.val (prD s)) (.val (optD (lateO c s))) (.val (optD (heldO c s))) s5 (.val (trafD t)) (.val (optD (lateT s t))) s8 s9) = .ok false (eR s0 s1 (.val (prD s)) (.val (optD (lateO c s))) (.val (optD (heldO c s))) s5 (.val (trafD t)) (.val (optD (lateT s t))) s8 s9) := by
    unfold eR
    cases e : lateO c s with
    | none => simp [evT, ev, opd, slotAt, cmpS, isNonD, optD, truthD, vB, Sl.d]
    | some m =>
      obtain ⟨k, ek, hk⟩ := late_le hc hs.srv ht hf e
      rw [ek]
      have hk' : ¬ m < k := by omega
      simp [evT, ev, opd, slotAt, cmpS, isNonD, optD, hk', hk, truthD, vB, Sl.d]
  have c2 : evT P41 CC (.andV (.cmp .IsNot (.var 4) .non) (.cmp .Gt (.call 29 [(.var 2), (.var 6)]) (.var 4))) (eR s0 s1 (.val (prD s)) (.val (optD (lateO c s))) (.val (optD (heldO c s))) s5 (.val (trafD t)) (.val (optD (lateT s t))) s8 s9) = .ok false (eR s0 s1 (.val (prD s)) (.val (optD (lateO c s))) (.val (optD (heldO c s))) s5 (.val (trafD t)) (.val (optD (lateT s t))) s8 s9) := by
    unfold eR
    cases e : heldO c s with
    | none => simp [evT, ev, opd, slotAt, cmpS, isNonD, optD, truthD, vB, Sl.d]
    | some m =>
      have hk := held_le hc hs.srv ht hf e
      simp [evT, ev, opd, slotAt, args, callS, evC, popS, q29, e29, cmpS, isNonD, optD, hk, putBack, putBack_ex, truthD, vB, vI, Sl.d]
  rw [x_ite, evT_or, s_bind, c1]
  simp only [s_ok, Bool.false_eq_true, if_false]
  rw [c2]
  simp [SR.of, x_exs0]
end
end Lw
end

section
set_option Elab.async false
set_option linter.all false
set_option maxRecDepth 100000
set_option maxHeartbeats 2000000
/-! J50: k84, _law_is_server_right -/
namespace Lw
open PySem L2
def s9_41 : S := .set 8 (.lst [(.fz 5), (.ty .list [(.var 5)]), (.tup [(.str "never")]), (.tup [(.str "late"), (.int 0), (.tup [])]), (.tup [(.str "late"), (.int 0), (.fz 6)]), (.tup [(.str "late"), (.fz 7), (.fz 6)]), (.slc (.var 5) .non (.int 2))])
def lc41 : E := .lc (.tup [(.str "late"), (.fz 3), (.call 38 [(.var 1), (.var 10)])]) (.nm 10) (.tup [(.int 1), (.int 2), (.int 5), (.int 12)]) [] [10]
def b41b : E := .lc (.call 35 [(.var 0), (.var 5)]) (.nm 11) (.rng1 (.int 8)) [] [11]
def b41a : E := .bop .Add (.var 8) (.lst [(.call 30 [(.var 0)])])
def i41 : E := .bop .Add b41a b41b
def t41 : List S := [.ite (.notV (.call 36 [(.call 40 [(.var 1), (.var 2), (.var 9)]), (.call 22 [(.var 1), (.var 2), (.var 3), (.var 9)])])) [.ret (.bl false)] []]
def vals41 (xs : List D) (t : List Int) (o : Option Int) : List D := [.tup xs, .lst xs, .tup [.str "never"], .tup [.str "late", .int 0, .tup []], .tup [.str "late", .int 0, trafD t], .tup [.str "late", optD o, trafD t], .tup (cutD xs none (some 2))]
def more41 (c : Cv) (o : Option Int) : List D := [1, 2, 5, 12].map fun (k : Nat) => D.tup [.str "late", optD o, trafD (fullN c k)]
section
variable {c : Cv} {s : Int × Int} {s0 s1 s2 s3 s4 s5 s6 s7 s8 s9 : Sl}
theorem r41_9 {xs : List D} {t : List Int} {o : Option Int} (hl : xs.length ≤ 3) (ht : t.length ≤ 500) : ex P41 CC s9_41 (eR s0 s1 s2 s3 s4 (.val (.tup xs)) (.val (trafD t)) (.val (optD o)) s8 s9) = .nx (eR s0 s1 s2 s3 s4 (.val (.tup xs)) (.val (trafD t)) (.val (optD o)) (.own (.lst (vals41 xs t o))) s9) := by
  unfold s9_41 eR vals41
  simp [ex, ev, evD, opds, opd, slotAt, fzS, tyS, partO, isNonE, partD, slP, slS, sizeLine_eq, putS, vI, Sl.d, SR.of]
theorem lc41_ok {o : Option Int} (hc : Curve c) : ev P41 CC lc41 (eR s0 (.val (curveD c)) s2 (.val (optD o)) s4 s5 s6 s7 s8 s9) = .ok (.own (.lst (more41 c o))) (eR s0 (.val (curveD c)) s2 (.val (optD o)) s4 s5 s6 s7 s8 s9) := by
  have q38 : P41 38 = F38 := rfl
  unfold lc41 more41 eR
  refine lc_all ([1, 2, 5, 12] : List Nat) (fun (k : Nat) => D.int (k : Int)) _ [s0, .val (curveD c), s2, .val (optD o), s4, s5, s6, s7, s8, s9, .no, .no] ?_ (by simp [notOwn]) (by simp [wipeE]) (by simp [wipeE]) (by simp [backE]) (by simp) fun k hk => ?_
  · simp [evI, ev, evD, sizeLine_eq, itemsD, vI, Sl.d]
  · have hk' : k ≤ 100000 := by
      simp at hk
      rcases hk with rfl | rfl | rfl | rfl <;> omega
    have e38 := full38_ok (n := k) hc hk'
    refine ⟨[s0, .val (curveD c), s2, .val (optD o), s4, s5, s6, s7, s8, s9, .val (.int k), .no], [s0, .val (curveD c), s2, .val (optD o), s4, s5, s6, s7, s8, s9, .val (.int k), .no], .val (.tup [.str "late", optD o, trafD (fullN c k)]), by simp [bindT], ?_, rfl, by simp [wipeE]⟩
    simp [ev, evD, args, callS, evC, slotAt, popS, fzS, q38, e38, putBack, sizeLine_eq, Sl.d]
theorem r41_10 {o : Option Int} {vs : List D} (hc : Curve c) (hv : vs.length ≤ 1000) : ex P41 CC (.ext 8 lc41) (eR s0 (.val (curveD c)) s2 (.val (optD o)) s4 s5 s6 s7 (.own (.lst vs)) s9) = .nx (eR s0 (.val (curveD c)) s2 (.val (optD o)) s4 s5 s6 s7 (.own (.lst (vs ++ more41 c o))) s9) := by
  have e := lc41_ok (s0 := s0) (s2 := s2) (s4 := s4) (s5 := s5) (s6 := s6) (s7 := s7) (s8 := .own (.lst vs)) (s9 := s9) (o := o) hc
  have ml : (more41 c o).length = 4 := rfl
  have sz : vs.length + (more41 c o).length ≤ 16777216 := by omega
  rw [ex]
  have ow : isOwnL (eR s0 (.val (curveD c)) s2 (.val (optD o)) s4 s5 s6 s7 (.own (.lst vs)) s9) 8 = true := rfl
  dsimp only
  rw [if_pos ow, e]
  unfold eR
  simp [SR.of, updS, extD, sizeLine_eq, sz, Sl.d]
theorem b41b_ok {n : Int} {l : List D} (hc : Drawn c) (hs : Srv s) (hn : n < 2 ^ 16) (h : PotOk n l) :
    ∃ vs l', (∀ v ∈ vs, OkV v) ∧ vs.length ≤ 8 ∧ PotOk (n + 40) l' ∧ ev P41 CC b41b (eR (.own (.lst l)) s1 s2 s3 s4 (.val (toldD c s)) s6 s7 s8 s9) = .ok (.own (.lst vs)) (eR (.own (.lst l')) s1 s2 s3 s4 (.val (toldD c s)) s6 s7 s8 s9) := by
  have q35 : P41 35 = F35 := rfl
  unfold b41b eR
  generalize hE : ev P41 CC (.call 35 [(.var 0), (.var 5)]) = elt
  have len8 : (rngD 0 8).length = 8 := rfl
  obtain ⟨acc, E', el, l', h1, h2, h3, h4⟩ := lcI_ind (bt := bindT (.nm 11)) (tests := evTs P41 CC []) (elt := elt) (own := [11])
    (fun i acc E => ∃ l', (∀ v ∈ acc, OkV v) ∧ acc.length = i ∧ PotOk (n + 5 * i) l' ∧ E = [.own (.lst l'), s1, s2, s3, s4, .val (toldD c s), s6, s7, s8, s9, .no, .no]) (rngD 0 8)
    (fun i acc E d hd ⟨l', h1, h2, h3, eE⟩ => by
      subst eE
      have hi : i < 8 := by
        rcases Nat.lt_or_ge i (rngD 0 8).length with q | q
        · omega
        · rw [List.getElem?_eq_none q] at hd; cases hd
      obtain ⟨v, l2, hv, hp, e⟩ := bent_told (c := c) (s := s) hc hs (by omega) h3
      refine ⟨[.own (.lst l'), s1, s2, s3, s4, .val (toldD c s), s6, s7, s8, s9, .no, .val d], [.own (.lst l'), s1, s2, s3, s4, .val (toldD c s), s6, s7, s8, s9, .no, .val d], true, by simp [bindT, wipeE], by simp [evTs, lcI.allT], fun _ => ⟨.val v, [.own (.lst l2), s1, s2, s3, s4, .val (toldD c s), s6, s7, s8, s9, .no, .val d], ?_, ?_, l2, ?_, by simp [h2], ?_, by simp [wipeE]⟩, fun z => by cases z⟩
      · rw [← hE]
        simp [ev, args, callS, evC, slotAt, popS, q35, e, putBack]
      · rw [sizeLine_eq]; omega
      · intro w hw
        rcases List.mem_append.mp hw with hw | hw
        · exact h1 w hw
        · simp only [List.mem_singleton] at hw; subst hw; exact hv
      · rw [show n + 5 * ((i + 1 : Nat) : Int) = n + 5 * i + 5 by omega]; exact hp) [] [.own (.lst l), s1, s2, s3, s4, .val (toldD c s), s6, s7, s8, s9, .no, .no] ⟨l, by simp, rfl, by simpa using h, rfl⟩
  refine ⟨acc, l', h1, by omega, h3.mono (by omega), ?_⟩
  subst h4
  have w9 : wipeE [.own (.lst l), s1, s2, s3, s4, .val (toldD c s), s6, s7, s8, s9, .no, .no] [11] = [.own (.lst l), s1, s2, s3, s4, .val (toldD c s), s6, s7, s8, s9, .no, .no] := by simp [wipeE]
  have n9 : notOwn [.own (.lst l), s1, s2, s3, s4, .val (toldD c s), s6, s7, s8, s9, .no, .no] [11] = true := by simp [notOwn]
  have ei : evI P41 CC (.rng1 (.int 8)) [.own (.lst l), s1, s2, s3, s4, .val (toldD c s), s6, s7, s8, s9, .no, .no] = .ok (rngD 0 8) [.own (.lst l), s1, s2, s3, s4, .val (toldD c s), s6, s7, s8, s9, .no, .no] := by
    simp [evI, ev, vI]
  rw [ev_lc, s_bind, ei, s_ok]
  simp only [hE, n9, if_true, w9, el]
  simp [backE]
theorem i41_ok {n : Int} {l vs : List D} (hc : Drawn c) (hs : Srv s) (hn : n < 2 ^ 15) (h : PotOk n l) (hv : ∀ v ∈ vs, OkV v) (hl : vs.length ≤ 1000) :
    ∃ ws l', (∀ v ∈ ws, OkV v) ∧ PotOk (n + 41) l' ∧ evI P41 CC i41 (eR (.own (.lst l)) s1 s2 s3 s4 (.val (toldD c s)) s6 s7 (.own (.lst vs)) s9) = .ok ws (eR (.own (.lst l')) s1 s2 s3 s4 (.val (toldD c s)) s6 s7 (.own (.lst vs)) s9) := by
  have q30 : P41 30 = F30 := rfl
  obtain ⟨d, l1, hd, p1, e1⟩ := odd_ok (n := n) (by omega) h
  obtain ⟨bs, l2, hb, hbl, p2, e2⟩ := b41b_ok (s1 := s1) (s2 := s2) (s3 := s3) (s4 := s4) (s6 := s6) (s7 := s7) (s8 := .own (.lst vs)) (s9 := s9) hc hs (by omega) p1
  have hz : vs.length + 1 ≤ 16777216 := by omega
  have hz2 : vs.length + 1 + bs.length ≤ 16777216 := by omega
  have ea : ev P41 CC b41a (eR (.own (.lst l)) s1 s2 s3 s4 (.val (toldD c s)) s6 s7 (.own (.lst vs)) s9) = .ok (.own (.lst (vs ++ [d]))) (eR (.own (.lst l1)) s1 s2 s3 s4 (.val (toldD c s)) s6 s7 (.own (.lst vs)) s9) := by
    unfold b41a eR
    simp [ev, evD, opds, opd, slotAt, args, callS, evC, popS, q30, e1, putBack, bopS, Sl.d, sizeLine_eq, hz]
  refine ⟨vs ++ [d] ++ bs, l2, ?_, by rw [show n + 41 = n + 1 + 40 by omega]; exact p2, ?_⟩
  · intro v hv2
    rcases List.mem_append.mp hv2 with hv2 | hv2
    · rcases List.mem_append.mp hv2 with hv2 | hv2
      · exact hv v hv2
      · simp at hv2; subst hv2; exact odd_okv hd
    · exact hb v hv2
  · have oa : opd P41 CC b41a = .ex (ev P41 CC b41a) := opd_bop _ _ _ _ _
    have ob : opd P41 CC b41b = .ex (ev P41 CC b41b) := opd_lc _ _ _ _ _ _ _
    unfold i41
    rw [evI_bopK, s_bind, ev_bop, oa, ob, s_bind, s_evA2, ea, s_ok, s_evA2, e2, s_ok, s_evA0, s_ok, s_ok, s_ok]
    simp [bopS, Sl.d, itemsD, sizeLine_eq]
    rw [if_pos hz2]
    simp [itemsD, Sl.d]
theorem t41_ok {v : D} (hc : Drawn c) (hs : Srv s) (hv : OkV v) : exs P41 CC t41 (eR s0 (.val (curveD c)) (.val (prD s)) (.val (optD (lateO c s))) s4 s5 s6 s7 s8 (.val v)) = .nx (eR s0 (.val (curveD c)) (.val (prD s)) (.val (optD (lateO c s))) s4 s5 s6 s7 s8 (.val v)) := by
  have q36 : P41 36 = F36 := rfl
  have q40 : P41 40 = F40 := rfl
  have q22 : P41 22 = F22 := rfl
  have e40 := shows_ok hc hs hv.1 hv.len
  have e22 := is_due_ok hc hs hv.1 hv.len
  have e36 := bool36 (dueV c s v) (dueV c s v)
  rw [beq_self_eq_true] at e36
  unfold t41 eR
  simp [exs, ex, ev, evT, opd, args, callS, evC, slotAt, popS, q36, q40, q22, e40, e22, putBack, putBack_ex, truthD, vB, Sl.d, SR.of, SR.then, e36]
theorem vals_okv {xs : List D} {t : List Int} {o p : Option Int} (hl : xs.length ≤ 3) (hx : ∀ x ∈ xs, InV x) (ht : t.length ≤ 500) : ∀ v ∈ vals41 xs t o ++ more41 c p, OkV v := by
  have hin : ∀ (d : D) (u : List Int), InV d → u.length ≤ 1000 → OkV (.tup [.str "late", d, trafD u]) := fun d u hd hu => okv_of (by simp) fun x hx => by
    simp only [List.mem_cons, List.not_mem_nil, or_false] at hx
    rcases hx with rfl | rfl | rfl
    · exact inv_str strOk_late
    · exact hd
    · exact inv_ints hu
  have io : ∀ o : Option Int, InV (optD o) := fun o => by
    cases o with
    | none => exact inv_non
    | some i => exact inv_int i
  intro v hv
  rcases List.mem_append.mp hv with hv | hv
  · simp only [vals41, List.mem_cons, List.not_mem_nil, or_false] at hv
    rcases hv with rfl | rfl | rfl | rfl | rfl | rfl | rfl
    · exact okv_of (by omega) hx
    · refine okv_nt ?_ fun _ z => nomatch z
      have : cleanBs xs = true := cleans_iff.mpr fun d hd => (hx d hd).1
      simpa [cleanB] using this
    · exact okv_of (by simp) fun x hx => by simp at hx; subst hx; exact inv_str strOk_never
    · exact hin (.int 0) [] (inv_int _) (by simp)
    · exact hin (.int 0) t (inv_int _) (by omega)
    · exact hin _ t (io _) (by omega)
    · exact okv_of (by have := cut_len xs none (some 2); omega) fun y hy => hx y (cut_mem hy)
  · obtain ⟨k, hk, rfl⟩ := List.mem_map.mp hv
    refine hin _ _ (io _) ?_
    rw [full_len]
    simp at hk
    rcases hk with rfl | rfl | rfl | rfl <;> omega
theorem b41 : B41 = [.setT (.tup [(.nm 3), (.nm 4)]) (.call 6 [(.var 1), (.var 2)]), .set 5 (.call 17 [(.var 1), (.var 2)]), .ite (.orV (.notV (.call 22 [(.var 1), (.var 2), (.var 3), (.var 5)])) (.cmp .NotEq (.bi .repr [(.call 37 [(.var 1), (.var 2)])]) (.bi .repr [(.var 4)]))) [.ret (.bl false)] [], .set 6 (.call 18 [(.var 0), (.var 1), (.int 10)]), .set 7 (.call 19 [(.var 2), (.var 6)]),
  .ite (.cmp .NotEq (.bi .repr [(.call 26 [(.var 2), (.var 6)])]) (.bi .repr [(.var 7)])) [.ret (.bl false)] [], .ite (.cmp .NotEq (.bi .repr [(.call 28 [(.var 2), (.var 6)])]) (.bi .repr [(.call 29 [(.var 2), (.var 6)])])) [.ret (.bl false)] [],
  .ite (.orV (.andV (.cmp .IsNot (.var 3) .non) (.orV (.cmp .Is (.var 7) .non) (.cmp .Gt (.var 7) (.var 3)))) (.andV (.cmp .IsNot (.var 4) .non) (.cmp .Gt (.call 29 [(.var 2), (.var 6)]) (.var 4)))) [.ret (.bl false)] [], s9_41, .ext 8 lc41, .for_ (.nm 9) i41 t41, .ret (.bl true)] := rfl
theorem server_right_ok {n : Int} {l : List D} (hc : Drawn c) (hs : SrvD s) (hn : n < 2 ^ 14) (h : PotOk n l) : ∃ l', PotOk (n + 62) l' ∧ F41 [.own (.lst l), .val (curveD c), .val (prD s)] = .ok (vB true) [.own (.lst l'), .val (curveD c), .val (prD s)] := by
  obtain ⟨t, l1, hf, hl, p1, e4⟩ := r41_4 (s := s) (s3 := .val (optD (lateO c s))) (s4 := .val (optD (heldO c s))) (s5 := .val (toldD c s)) (s6 := .no) (s7 := .no) (s8 := .no) (s9 := .no) (by omega) h hc
  have tr := hf.traf (by omega)
  obtain ⟨xs, ex1, ex2, ex3⟩ := told_ok hc hs.srv
  obtain ⟨ws, l2, hw, p2, e11⟩ := i41_ok (s1 := .val (curveD c)) (s2 := .val (prD s)) (s3 := .val (optD (lateO c s))) (s4 := .val (optD (heldO c s))) (s6 := .val (trafD t)) (s7 := .val (optD (lateT s t))) (s9 := .no) (vs := vals41 xs t (lateT s t) ++ more41 c (lateO c s)) hc hs.srv (by omega) p1 (vals_okv ex2 ex3 (by omega)) (by simp [vals41, more41])
  obtain ⟨s9', el⟩ := forI_ind (bt := bindT (.nm 9)) (b := exs P41 CC t41) (fun _ E => ∃ s9, E = eR (.own (.lst l2)) (.val (curveD c)) (.val (prD s)) (.val (optD (lateO c s))) (.val (optD (heldO c s))) (.val (toldD c s)) (.val (trafD t)) (.val (optD (lateT s t))) (.own (.lst (vals41 xs t (lateT s t) ++ more41 c (lateO c s)))) s9)
    (fun R => ∃ s9, R = .nx (eR (.own (.lst l2)) (.val (curveD c)) (.val (prD s)) (.val (optD (lateO c s))) (.val (optD (heldO c s))) (.val (toldD c s)) (.val (trafD t)) (.val (optD (lateT s t))) (.own (.lst (vals41 xs t (lateT s t) ++ more41 c (lateO c s)))) s9)) ws
    (fun i E d hd ⟨s9, eE⟩ => by
      subst eE
      refine ⟨eR (.own (.lst l2)) (.val (curveD c)) (.val (prD s)) (.val (optD (lateO c s))) (.val (optD (heldO c s))) (.val (toldD c s)) (.val (trafD t)) (.val (optD (lateT s t))) (.own (.lst (vals41 xs t (lateT s t) ++ more41 c (lateO c s)))) (.val d), by unfold eR; simp [bindT], ?_⟩
      rw [t41_ok hc hs.srv (hw d (List.mem_of_getElem? hd))]
      exact ⟨_, rfl⟩)
    (fun E ⟨s9, eE⟩ => by subst eE; exact ⟨_, rfl⟩)
    (eR (.own (.lst l2)) (.val (curveD c)) (.val (prD s)) (.val (optD (lateO c s))) (.val (optD (heldO c s))) (.val (toldD c s)) (.val (trafD t)) (.val (optD (lateT s t))) (.own (.lst (vals41 xs t (lateT s t) ++ more41 c (lateO c s)))) .no) ⟨_, rfl⟩
  refine ⟨l2, by rw [show n + 62 = n + 21 + 41 by omega]; exact p2, ?_⟩
  unfold F41 fnS
  rw [b41]
  show (match exs P41 CC _ (eR (.own (.lst l)) (.val (curveD c)) (.val (prD s)) .no .no .no .no .no .no .no) with | .rt s E => R.ok s ((wipeE E []).take 3) | .nx E => .ok (.val .non) ((wipeE E []).take 3) | .exc c x E => .exc c x ((wipeE E []).take 3) | _ => .bad) = _
  rw [x_exs1, r41_1 hc hs, s_nx, x_exs1, r41_2 hc hs, s_nx, x_exs1, r41_3 hc hs, s_nx, x_exs1, e4, s_nx, x_exs1, r41_5 hs.srv tr, s_nx, x_exs1, r41_6 hs.srv tr, s_nx, x_exs1, r41_7 hs.srv tr, s_nx, x_exs1, r41_8 hc hs tr hf.fits, s_nx, ex1, x_exs1, r41_9 ex2 (by omega), s_nx, x_exs1, r41_10 hc.curve (by simp [vals41]), s_nx, ← ex1, x_exs1, x_for, e11]
  simp only [SR.of, el, s_nx]
  unfold eR
  simp [exs, ex, ev, SR.of, SR.then, wipeE, vB]
end
end Lw
end

section
set_option Elab.async false
set_option linter.all false
set_option maxRecDepth 100000
set_option maxHeartbeats 2000000
/-! J51: k84, one behind the other, behind -/
namespace Lw
open PySem L2
def bothS (a b : Int × Int) : Int × Int := (if b.1 < a.1 then b.1 else a.1, a.2 + b.2)
theorem both_srv {a b : Int × Int} (ha : SrvD a) (hb : SrvD b) : Srv (bothS a b) := by
  have h1 := ha.r0; have h2 := ha.r1; have h3 := ha.l0; have h4 := ha.l1
  have g1 := hb.r0; have g2 := hb.r1; have g3 := hb.l0; have g4 := hb.l1
  unfold bothS
  refine ⟨?_, ?_, ?_, ?_⟩ <;> dsimp only <;> first | omega | (split <;> omega)
def splitL (a b : Int × Int) (T : Nat) : List Int := (List.range (T + 1)).map fun (i : Nat) => servZ a (i : Int) + servZ b ((T : Int) - (i : Int))
theorem serv_low {s : Int × Int} {R x : Int} (h : R ≤ s.1) (h0 : 0 ≤ R) : R * (if s.2 < x then x - s.2 else 0) ≤ servZ s x := by
  unfold servZ
  exact Int.mul_le_mul_of_nonneg_right h (by split <;> omega)
theorem split_min {a b : Int × Int} (ha : SrvD a) (hb : SrvD b) (T : Nat) : minL (splitL a b T) = servZ (bothS a b) T := by
  have h1 := ha.r0; have h3 := ha.l0
  have g1 := hb.r0; have g3 := hb.l0
  have ne : splitL a b T ≠ [] := by simp [splitL]
  have low : ∀ x ∈ splitL a b T, servZ (bothS a b) T ≤ x := fun x hx => by
    obtain ⟨i, hi, rfl⟩ := List.mem_map.mp hx
    have hi := List.mem_range.mp hi
    have R0 : 0 ≤ (bothS a b).1 := by unfold bothS; dsimp only; split <;> omega
    have Ra : (bothS a b).1 ≤ a.1 := by unfold bothS; dsimp only; split <;> omega
    have Rb : (bothS a b).1 ≤ b.1 := by unfold bothS; dsimp only; split <;> omega
    have q1 := serv_low (s := a) (x := (i : Int)) Ra R0
    have q2 := serv_low (s := b) (x := (T : Int) - (i : Int)) Rb R0
    have q3 : servZ (bothS a b) T ≤ (bothS a b).1 * (if a.2 < (i : Int) then (i : Int) - a.2 else 0) + (bothS a b).1 * (if b.2 < (T : Int) - (i : Int) then (T : Int) - (i : Int) - b.2 else 0) := by
      rw [← Int.mul_add]
      unfold servZ
      refine Int.mul_le_mul_of_nonneg_left ?_ R0
      have e : (bothS a b).2 = a.2 + b.2 := rfl
      rw [e]
      split <;> split <;> split <;> omega
    omega
  have att : servZ (bothS a b) T ∈ splitL a b T := by
    by_cases q : b.1 < a.1
    · have eb : bothS a b = (b.1, a.2 + b.2) := by unfold bothS; rw [if_pos q]
      rw [eb]
      refine List.mem_map.mpr ⟨if a.2 < (T : Int) then a.2.toNat else T, List.mem_range.mpr (by split <;> omega), ?_⟩
      have e1 : servZ a ((if a.2 < (T : Int) then a.2.toNat else T : Nat) : Int) = 0 := by
        unfold servZ
        rw [if_neg (by split <;> omega), Int.mul_zero]
      rw [e1, Int.zero_add]
      unfold servZ
      congr 1
      dsimp only
      split <;> split <;> split <;> omega
    · have eb : bothS a b = (a.1, a.2 + b.2) := by unfold bothS; rw [if_neg q]
      rw [eb]
      refine List.mem_map.mpr ⟨if b.2 < (T : Int) then T - b.2.toNat else 0, List.mem_range.mpr (by split <;> omega), ?_⟩
      have e1 : servZ b ((T : Int) - ((if b.2 < (T : Int) then T - b.2.toNat else 0 : Nat) : Int)) = 0 := by
        unfold servZ
        rw [if_neg (by split <;> omega), Int.mul_zero]
      rw [e1, Int.add_zero]
      unfold servZ
      congr 1
      dsimp only
      split <;> split <;> split <;> omega
  cases e : splitL a b T with
  | nil => exact absurd e ne
  | cons x r =>
    obtain ⟨m1, m2⟩ := minL_mem x r
    rw [← e] at m1 m2 ⊢
    exact Int.le_antisymm (m2 _ att) (low _ m1)
/-! ### the functions -/
theorem behind_other_ok {a b : Int × Int} (ha : SrvD a) (hb : SrvD b) : F42 [.val (prD a), .val (prD b)] = .ok (.val (prD (bothS a b))) [.val (prD a), .val (prD b)] := by
  have q11 : P42 11 = F11 := rfl
  have e1 := look_server_ok ha.srv
  have e2 := look_server_ok hb.srv
  have h4 := ha.l1
  have g4 := hb.l1
  have a1 : atI [D.int a.1, D.int a.2] 0 = some (.int a.1) := rfl
  have a2 : atI [D.int a.1, D.int a.2] 1 = some (.int a.2) := rfl
  have b1 : atI [D.int b.1, D.int b.2] 0 = some (.int b.1) := rfl
  have b2 : atI [D.int b.1, D.int b.2] 1 = some (.int b.2) := rfl
  have ng : ¬ (200 : Int) < a.2 + b.2 := by omega
  unfold F42 B42
  simp only [prD] at e1 e2 ⊢
  simp [fnS, exs, ex, ev, evT, evD, opds, opd, args, callS, evC, slotAt, popS, q11, e1, e2, CC, ixS, a1, a2, b1, b2, biS, bopS, cmpS, ng, truthD, putBack, vI, vB, Sl.d, sizeLine_eq, wipeE, SR.of, SR.then, bothS]
theorem passed_ok {s : Int × Int} {u : Int} (hs : Srv s) (h0 : 0 ≤ u) (h1 : u ≤ 1000000) : F43 [.val (prD s), .val (.int u)] = .ok (vI (servZ s u)) [.val (prD s), .val (.int u)] := by
  have q11 : P43 11 = F11 := rfl
  have q7 : P43 7 = F7 := rfl
  have q27 : P43 27 = F27 := rfl
  have e11 := look_server_ok hs
  have e27 := serv27_ok (t := u) hs (by omega)
  have e7 : F7 [.val (.int u), .val (.int 0), .val (.int 1000000)] = .ok (.val (.bl true)) [.val (.int u), .val (.int 0), .val (.int 1000000)] := by
    have := is_int_ok u 0 1000000
    rw [decide_eq_true h0, decide_eq_true h1] at this
    exact this
  have p10 : (Builtin.Int.intBits 10 : Int) * 6 ≤ 134217728 := by decide +kernel
  unfold F43 B43
  simp [fnS, exs, ex, ev, evT, opds, opd, args, callS, evC, slotAt, popS, q11, q7, q27, e11, e27, e7, bopS, p10, truthD, putBack, vI, vB, Sl.d, wipeE, SR.of, SR.then]
def lowB (s : Int × Int) (p : Int × Int) : Bool := decide (p.2 ≤ s.1)
def someC (c : Cv) (s : Int × Int) : Cv := (c.filter (lowB s)).map fun p => (p.1 + p.2 * s.2, p.2)
theorem someC_small {c : Cv} {s : Int × Int} (hc : Drawn c) (hs : SrvD s) : ∀ p ∈ someC c s, (0 ≤ p.1 ∧ p.1 ≤ 400) ∧ (0 ≤ p.2 ∧ p.2 ≤ 20) := fun p hp => by
  obtain ⟨q, hq, rfl⟩ := List.mem_map.mp hp
  obtain ⟨hq, _⟩ := List.mem_filter.mp hq
  have b := hc.2.2.1 q hq
  have h1 := Int.mul_le_mul b.2.2 hs.l1 hs.l0 (show (0 : Int) ≤ 20 by decide)
  have h2 := Int.mul_nonneg b.2.1 hs.l0
  dsimp only
  omega
theorem someC_len {c : Cv} {s : Int × Int} (hc : Drawn c) : (someC c s).length ≤ 3 := by
  unfold someC
  rw [List.length_map]
  have := List.length_filter_le (lowB s) c
  have := hc.2.1
  omega
theorem someC_ne {c : Cv} {s : Int × Int} (hc : Drawn c) (h : (lastP c).2 ≤ s.1) : someC c s ≠ [] := fun z => by
  have mem : lastP c ∈ c.filter (lowB s) := List.mem_filter.mpr ⟨lastP_mem hc.1, decide_eq_true h⟩
  unfold someC at z
  rw [List.map_eq_nil_iff] at z
  rw [z] at mem; cases mem
theorem least_ne {A : Cv} (h : A ≠ []) : leastOf A ≠ [] := fun z => by
  cases A with
  | nil => exact h rfl
  | cons x r =>
    obtain ⟨p, hp, _⟩ := (least_all (x :: r)).2.2 x (by simp)
    rw [z] at hp; cases hp
/-- [(burst + rate * server[1], rate) for burst, rate in curve if rate <= server[0]] -/
theorem some_ev (Φ : Nat → M Sl) {c : Cv} {s : Int × Int} {ic is ib ir : Nat} {E : SE} (hc : Drawn c) (hs : SrvD s) (h1 : E[ic]? = some (.val (curveD c))) (h2 : E[is]? = some (.val (prD s))) (h3 : E[ib]? = some .no) (h4 : E[ir]? = some .no) (n1 : ib ≠ is) (n2 : ir ≠ is) (n3 : ib ≠ ir) :
    ev Φ CC (.lc (.tup [(.bop .Add (.var ib) (.bop .Mult (.var ir) (.idx (.var is) (.int 1)))), (.fz ir)]) (.tup [(.nm ib), (.nm ir)]) (.fz ic) [(.cmp .LtE (.var ir) (.idx (.var is) (.int 0)))] [ib, ir]) E = .ok (.own (.lst ((someC c s).map prD))) E := by
  have lb : ib < E.length := by
    rcases Nat.lt_or_ge ib E.length with z | z
    · exact z
    · rw [List.getElem?_eq_none z] at h3; cases h3
  have lr : ir < E.length := by
    rcases Nat.lt_or_ge ir E.length with z | z
    · exact z
    · rw [List.getElem?_eq_none z] at h4; cases h4
  have sb : E.set ib .no = E := by
    apply List.ext_getElem?
    intro i
    rw [List.getElem?_set]
    split
    · rename_i e; subst e; first | exact h3.symm | (rw [if_pos lb, h3])
    · rfl
  have sr : E.set ir .no = E := by
    apply List.ext_getElem?
    intro i
    rw [List.getElem?_set]
    split
    · rename_i e; subst e; first | exact h4.symm | (rw [if_pos lr, h4])
    · rfl
  have w0 : wipeE E [ib, ir] = E := by simp [wipeE, sb, sr]
  have gb : E.getD ib .no = .no := by rw [List.getD_eq_getElem?_getD, h3]; rfl
  have gr : E.getD ir .no = .no := by rw [List.getD_eq_getElem?_getD, h4]; rfl
  have a1 : atI [D.int s.1, D.int s.2] 0 = some (.int s.1) := rfl
  have a2 : atI [D.int s.1, D.int s.2] 1 = some (.int s.2) := rfl
  have lc := lc_flt (Φ := Φ) (C := CC) (elt := .tup [(.bop .Add (.var ib) (.bop .Mult (.var ir) (.idx (.var is) (.int 1)))), (.fz ir)]) (it := .fz ic) (tg := .tup [(.nm ib), (.nm ir)]) (ifs := [(.cmp .LtE (.var ir) (.idx (.var is) (.int 0)))]) (own := [ib, ir]) c prD (fun p => prD (p.1 + p.2 * s.2, p.2)) (lowB s) (E := E) (E1 := E) E
    (by unfold curveD at h1; simp [evI, ev, fzS, h1, Sl.d, itemsD]) (by simp [notOwn, h3, h4]) w0 w0 (by simp only [backE, gb, gr, sb, sr]) (by have := hc.2.1; omega) (fun p hp => by
      have b := hc.2.2.1 p hp
      have l0 := hs.l0
      have l1 := hs.l1
      have m : mulOk p.2 s.2 = true := mul_ok (by omega) (by omega)
      have gs : ((E.set ib (.val (.int p.1))).set ir (.val (.int p.2)))[is]? = some (.val (prD s)) := by
        rw [List.getElem?_set_ne n2, List.getElem?_set_ne n1]; exact h2
      have gR : ((E.set ib (.val (.int p.1))).set ir (.val (.int p.2)))[ir]? = some (.val (.int p.2)) := by
        rw [List.getElem?_set_self (by simpa using lr)]
      have gB : ((E.set ib (.val (.int p.1))).set ir (.val (.int p.2)))[ib]? = some (.val (.int p.1)) := by
        rw [List.getElem?_set_ne (fun z => n3 z.symm), List.getElem?_set_self (by simpa using lb)]
      generalize hE2 : (E.set ib (.val (.int p.1))).set ir (.val (.int p.2)) = E2 at gs gR gB
      have wE : wipeE E2 [ib, ir] = E := by
        rw [← hE2]
        have e1 : ((E.set ib (.val (.int p.1))).set ir (.val (.int p.2))).set ir .no = (E.set ib (.val (.int p.1))).set ir .no := List.set_set ..
        have e2 : ((E.set ib (.val (.int p.1))).set ir .no).set ib .no = E := by
          rw [List.set_comm _ _ (fun z => n3 z.symm), List.set_set, sb, sr]
        simp only [wipeE, e1, e2]
      refine ⟨E2, E2, by rw [← hE2]; simp [bindT, bindTs, prD, lb, lr], ?_, fun _ => ⟨E2, .val (prD (p.1 + p.2 * s.2, p.2)), ?_, rfl, wE⟩, fun _ => wE⟩
      · simp only [prD] at gs
        by_cases q : p.2 ≤ s.1 <;> simp [evTs, lcI.allT, evT, ev, opd, slotAt, gs, gR, ixS, a1, cmpS, q, lowB, truthD, vB, vI, Sl.d]
      · simp only [prD] at gs ⊢
        simp [ev, evD, opd, slotAt, fzS, gs, gR, gB, ixS, a2, bopS, m, sizeLine_eq, vI, Sl.d])
  rw [lc, someC, List.map_map]
  rfl
theorem evC_lc1 (Φ : Nat → M Sl) {e : E} {k : Nat} {E : SE} {d r : D} (he : ev Φ CC e E = .ok (.own d) E) (ha : args Φ CC [e] = [.ex (ev Φ CC e)]) (hk : Φ k [.own d] = .ok (.val r) [.own d]) : ev Φ CC (.call k [e]) E = .ok (.val r) E := by
  rw [ev, ha]
  simp [callS, evC, he, hk, putBack]
def lc45 : E := .lc (.tup [(.bop .Add (.var 3) (.bop .Mult (.var 4) (.idx (.var 1) (.int 1)))), (.fz 4)]) (.tup [(.nm 3), (.nm 4)]) (.fz 0) [(.cmp .LtE (.var 4) (.idx (.var 1) (.int 0)))] [3, 4]
def behindO (c : Cv) (s : Int × Int) : D := if s.1 < (lastP c).2 then .non else curveD (leastOf (someC c s))
theorem behind_ok {c : Cv} {s : Int × Int} (hc : Drawn c) (hs : SrvD s) : F45 [.val (curveD c), .val (prD s)] = .ok (.val (behindO c s)) [.val (curveD c), .val (prD s)] := by
  have q9 : P45 9 = F9 := rfl
  have q11 : P45 11 = F11 := rfl
  have q44 : P45 44 = F44 := rfl
  have e9 := look_curve_ok hc.curve
  have e11 := look_server_ok hs.srv
  have b45 : B45 = [.ex (.call 9 [(.var 0)]), .ex (.call 11 [(.var 1)]), .ite (tooE 0 1) [.ret .non] [], .set 2 (.call 44 [lc45]), .ite (.cmp .Gt (.idx (.idx (.var 2) (.neg (.int 1))) (.int 0)) (.cst 2)) [.nev] [], .ret (.mv 2)] := rfl
  have r1 : ex P45 CC (.ex (.call 9 [(.var 0)])) [.val (curveD c), .val (prD s), .no, .no, .no] = .nx [.val (curveD c), .val (prD s), .no, .no, .no] := by
    simp [ex, ev, args, callS, evC, popS, q9, e9, putBack, SR.of]
  have r2 : ex P45 CC (.ex (.call 11 [(.var 1)])) [.val (curveD c), .val (prD s), .no, .no, .no] = .nx [.val (curveD c), .val (prD s), .no, .no, .no] := by
    simp [ex, ev, args, callS, evC, popS, q11, e11, putBack, SR.of]
  have z1 := too_ev P45 (c := c) (s := s) (i := 0) (j := 1) (E := [.val (curveD c), .val (prD s), .no, .no, .no]) hc.1 rfl rfl
  have r3 : evT P45 CC (tooE 0 1) [.val (curveD c), .val (prD s), .no, .no, .no] = .ok (decide (s.1 < (lastP c).2)) [.val (curveD c), .val (prD s), .no, .no, .no] := by
    unfold tooE at z1 ⊢
    rw [evT_cmpK, s_bind, opd_cmp, s_evA2, z1]
    simp [vB, Sl.d, truthD]
  unfold F45 fnS
  rw [b45]
  show (match exs P45 CC _ [.val (curveD c), .val (prD s), .no, .no, .no] with | .rt s E => R.ok s ((wipeE E []).take 2) | .nx E => .ok (.val .non) ((wipeE E []).take 2) | .exc c x E => .exc c x ((wipeE E []).take 2) | _ => .bad) = _
  rw [x_exs1, r1, s_nx, x_exs1, r2, s_nx, x_exs1, x_ite, r3]
  unfold behindO
  by_cases h3 : s.1 < (lastP c).2
  · rw [if_pos h3, decide_eq_true h3]
    simp [SR.of, SR.then, exs, ex, ev, wipeE]
  · rw [if_neg h3, decide_eq_false h3]
    simp only [SR.of, Bool.false_eq_true, if_false, x_exs0, s_nx]
    have sl := someC_len (s := s) hc
    have e44 := told_least_ok (c := someC c s) (by omega)
    have lc := some_ev P45 (ic := 0) (is := 1) (ib := 3) (ir := 4) (E := [.val (curveD c), .val (prD s), .no, .no, .no]) hc hs rfl rfl rfl rfl (by decide) (by decide) (by decide)
    have ecall := evC_lc1 P45 (e := lc45) (k := 44) (d := .lst ((someC c s).map prD)) (r := curveD (leastOf (someC c s))) (E := [.val (curveD c), .val (prD s), .no, .no, .no]) lc (by unfold lc45; simp only [args]) (by rw [q44]; exact e44)
    have ne := least_ne (someC_ne hc (show (lastP c).2 ≤ s.1 by omega))
    have al := atI_lastP ne
    have small : (lastP (leastOf (someC c s))).1 ≤ 400 := by
      have m := lastP_mem ne
      have := (((least_all (someC c s)).2.1 _).mp m).1
      exact (someC_small hc hs _ this).1.2
    have a0 : atI [D.int (lastP (leastOf (someC c s))).1, D.int (lastP (leastOf (someC c s))).2] 0 = some (.int (lastP (leastOf (someC c s))).1) := rfl
    have ng : ¬ (400 : Int) < (lastP (leastOf (someC c s))).1 := by omega
    rw [x_exs1, x_set, ecall]
    simp only [prD, curveD] at al ⊢
    simp [SR.of, putS, exs, ex, ev, evT, opd, slotAt, ixS, negS, al, a0, CC, cmpS, ng, truthD, popS, vI, vB, Sl.d, wipeE, SR.then]
end Lw
end

section
set_option Elab.async false
set_option linter.all false
set_option maxRecDepth 100000
set_option maxHeartbeats 2000000
/-! J52: k84, the least pairs by the law -/
namespace Lw
open PySem L2
theorem eq_pr (p q : Int × Int) : eqD (prD p) (prD q) = some (decide (p = q)) := by
  have h : ∀ p : Int × Int, okD (prD p) = some (prP p) := fun p => by
    have := prP_lay p
    have e : SeqAt.shaped (prP p) = true := by simp [SeqAt.shaped, this.1]; omega
    simp [okD, pr_py, e]
  unfold eqD
  rw [h, h]
  simp only [prP, PyData.eqv, PyData.eqvAll, Bool.and_true]
  obtain ⟨a, b⟩ := p
  obtain ⟨c, d⟩ := q
  by_cases h1 : a = c <;> by_cases h2 : b = d <;> simp [h1, h2]
def t46 : E := .andV (.cmp .NotEq (.var 14) (.var 10)) (.andV (.cmp .LtE (.idx (.var 14) (.int 0)) (.idx (.var 10) (.int 0))) (.cmp .LtE (.idx (.var 14) (.int 1)) (.idx (.var 10) (.int 1))))
def lcS : E := .lc (.fz 14) (.nm 14) (.fz 9) [t46] [14]
def smD (p q : Int × Int) : Bool := decide (q ≠ p) && (decide (q.1 ≤ p.1) && decide (q.2 ≤ p.2))
section
variable {s0 s1 s2 s3 s4 s5 s6 s7 s8 s9 s10 s11 : Sl} {A : Cv}
def eV (s0 s1 s2 s3 s4 s5 s6 s7 s8 s9 s10 s11 : Sl) : SE := [s0, s1, s2, s3, s4, s5, s6, s7, s8, s9, s10, s11, .no, .no, .no]
theorem t46_ok {p q : Int × Int} {E : SE} (h1 : E[14]? = some (.val (prD q))) (h2 : E[10]? = some (.val (prD p))) : evT P46 CC t46 E = .ok (smD p q) E := by
  have e1 : evT P46 CC (.cmp .NotEq (.var 14) (.var 10)) E = .ok (decide (q ≠ p)) E := by
    simp [evT, ev, opd, slotAt, h1, h2, cmpS, eq_pr, truthD, vB, Sl.d]
  have e2 : evT P46 CC (.cmp .LtE (.idx (.var 14) (.int 0)) (.idx (.var 10) (.int 0))) E = .ok (decide (q.1 ≤ p.1)) E := by
    simp only [prD] at h1 h2
    simp [evT, ev, opd, slotAt, h1, h2, ixS, (pr_idx p).1, (pr_idx q).1, cmpS, truthD, vI, vB, Sl.d]
  have e3 : evT P46 CC (.cmp .LtE (.idx (.var 14) (.int 1)) (.idx (.var 10) (.int 1))) E = .ok (decide (q.2 ≤ p.2)) E := by
    simp only [prD] at h1 h2
    simp [evT, ev, opd, slotAt, h1, h2, ixS, (pr_idx p).2, (pr_idx q).2, cmpS, truthD, vI, vB, Sl.d]
  unfold t46 smD
  rw [evT_and, s_bind, e1, s_ok]
  by_cases h1 : q ≠ p
  · simp only [decide_eq_true h1, if_true, Bool.true_and]
    rw [evT_and, s_bind, e2, s_ok]
    by_cases h2 : q.1 ≤ p.1
    · simp only [decide_eq_true h2, if_true, Bool.true_and]
      exact e3
    · simp only [decide_eq_false h2, Bool.false_eq_true, if_false, Bool.false_and, s_pure]
  · simp only [decide_eq_false h1, Bool.false_eq_true, if_false, Bool.false_and, s_pure]
theorem lcS_ok {p : Int × Int} (hA : A.length ≤ 1000) (hs : s9 = .own (.lst (A.map prD)) ∨ s9 = .val (.lst (A.map prD))) :
    ev P46 CC lcS (eV s0 s1 s2 s3 s4 s5 s6 s7 s8 s9 (.val (prD p)) s11) = .ok (.own (.lst ((smaller A p).map prD))) (eV s0 s1 s2 s3 s4 s5 s6 s7 s8 (.val (.lst (A.map prD))) (.val (prD p)) s11) := by
  have se : smaller A p = A.filter (smD p) := rfl
  rw [se]
  unfold lcS eV
  refine lc_flt A prD prD (smD p) [s0, s1, s2, s3, s4, s5, s6, s7, s8, .val (.lst (A.map prD)), .val (prD p), s11, .no, .no, .no] ?_ (by simp [notOwn]) (by simp [wipeE]) (by simp [wipeE]) (by simp [backE]) (by omega) fun q hq => ?_
  · rcases hs with rfl | rfl <;> simp [evI, ev, fzS, itemsD, Sl.d]
  · have tt := t46_ok (p := p) (q := q) (E := [s0, s1, s2, s3, s4, s5, s6, s7, s8, .val (.lst (A.map prD)), .val (prD p), s11, .no, .no, .val (prD q)]) rfl rfl
    refine ⟨[s0, s1, s2, s3, s4, s5, s6, s7, s8, .val (.lst (A.map prD)), .val (prD p), s11, .no, .no, .val (prD q)], [s0, s1, s2, s3, s4, s5, s6, s7, s8, .val (.lst (A.map prD)), .val (prD p), s11, .no, .no, .val (prD q)], by simp [bindT], ?_, fun _ => ⟨[s0, s1, s2, s3, s4, s5, s6, s7, s8, .val (.lst (A.map prD)), .val (prD p), s11, .no, .no, .val (prD q)], .val (prD q), by simp [ev, fzS], rfl, by simp [wipeE]⟩, fun _ => by simp [wipeE]⟩
    have hT : evTs P46 CC [t46] = [evT P46 CC t46] := by simp only [evTs]
    rw [hT]
    simp only [lcI.allT, s_bind, tt, s_ok]
    cases smD p q <;> rfl
def bodyL : List S := [.set 11 lcS, .set 6 (.bop .Add (.var 6) (.bop .Mult (.lst [(.fz 10)]) (.ty .int [(.cmp .Eq (.var 11) (.lst []))])))]
def fltTo (A : Cv) (i : Nat) : Cv := ((sortP A).take i).filter fun p => (smaller A p).isEmpty
theorem turnL {i : Nat} {p : Int × Int} (hA : A.length ≤ 1000) (hi : (fltTo A i).length ≤ 10000) (hp : (sortP A)[i]? = some p) (hs : s9 = .own (.lst (A.map prD)) ∨ s9 = .val (.lst (A.map prD))) :
    ∃ s11', exs P46 CC bodyL (eV s0 s1 s2 s3 s4 s5 (.own (.lst ((fltTo A i).map prD))) s7 s8 s9 (.val (prD p)) s11) = .nx (eV s0 s1 s2 s3 s4 s5 (.own (.lst ((fltTo A (i + 1)).map prD))) s7 s8 (.val (.lst (A.map prD))) (.val (prD p)) s11') := by
  refine ⟨.own (.lst ((smaller A p).map prD)), ?_⟩
  have e1 : ex P46 CC (.set 11 lcS) (eV s0 s1 s2 s3 s4 s5 (.own (.lst ((fltTo A i).map prD))) s7 s8 s9 (.val (prD p)) s11) = .nx (eV s0 s1 s2 s3 s4 s5 (.own (.lst ((fltTo A i).map prD))) s7 s8 (.val (.lst (A.map prD))) (.val (prD p)) (.own (.lst ((smaller A p).map prD)))) := by
    rw [x_set, lcS_ok hA hs]
    unfold eV
    simp [SR.of, putS]
  have en := eq_prs_nil (smaller A p)
  have etk : (sortP A).take (i + 1) = (sortP A).take i ++ [p] := by rw [List.take_succ, hp]; rfl
  have ef : fltTo A (i + 1) = fltTo A i ++ if (smaller A p).isEmpty then [p] else [] := by
    unfold fltTo
    rw [etk, List.filter_append]
    cases h : (smaller A p).isEmpty <;> simp [h]
  have hz1 : (fltTo A i).length + 1 ≤ 16777216 := by omega
  have hz0 : (fltTo A i).length ≤ 16777216 := by omega
  unfold bodyL
  rw [x_exs1, e1, s_nx, ef]
  unfold eV
  cases h : (smaller A p).isEmpty with
  | true =>
    rw [h] at en
    simp [exs, ex, ev, evD, opds, opd, slotAt, fzS, cmpS, en, tyS, bopS, hz1, putS, vI, vB, Sl.d, sizeLine_eq, SR.of, SR.then]
  | false =>
    rw [h] at en
    simp [exs, ex, ev, evD, opds, opd, slotAt, fzS, cmpS, en, tyS, bopS, hz0, putS, vI, vB, Sl.d, sizeLine_eq, SR.of, SR.then]
theorem prs_of (h : ∀ p ∈ A, (0 ≤ p.1 ∧ p.1 < 2 ^ 31) ∧ (0 ≤ p.2 ∧ p.2 < 2 ^ 31)) : prsOf (A.map prD) = some A := by
  induction A with
  | nil => rfl
  | cons p r ih =>
    have hp := h p List.mem_cons_self
    have e : prOf (prD p) = some p := by
      unfold prOf prD
      simp only
      rw [if_pos hp]
    simp only [List.map_cons, prsOf, e, ih fun q hq => h q (List.mem_cons_of_mem _ hq)]
theorem sortP_len (A : Cv) : (sortP A).length ≤ A.length := by
  have ins : ∀ (p : Int × Int) (l : Cv), (insP p l).length ≤ l.length + 1 := by
    intro p l
    induction l with
    | nil => simp [insP]
    | cons q r ih =>
      unfold insP
      split
      · simp
      · split
        · simp
        · simp only [List.length_cons]; omega
  induction A with
  | nil => simp [sortP]
  | cons p r ih =>
    have := ins p (sortP r)
    simp only [sortP, List.length_cons]; omega
theorem loopL (hA : A.length ≤ 60) (hb : ∀ p ∈ A, (0 ≤ p.1 ∧ p.1 < 2 ^ 31) ∧ (0 ≤ p.2 ∧ p.2 < 2 ^ 31)) :
    ∃ s9' s10' s11', ex P46 CC (.for_ (.nm 10) (.sset (.var 9)) bodyL) (eV s0 s1 s2 s3 s4 s5 (.own (.lst [])) s7 s8 (.own (.lst (A.map prD))) s10 s11) = .nx (eV s0 s1 s2 s3 s4 s5 (.own (.lst ((leastOf A).map prD))) s7 s8 s9' s10' s11') := by
  have es : ssetS (.lst (A.map prD)) = some (.own (.lst ((sortP A).map prD))) := by
    simp only [ssetS, prs_of hb]
    rw [if_pos (by omega)]
  have ei : evI P46 CC (.sset (.var 9)) (eV s0 s1 s2 s3 s4 s5 (.own (.lst [])) s7 s8 (.own (.lst (A.map prD))) s10 s11) = .ok ((sortP A).map prD) (eV s0 s1 s2 s3 s4 s5 (.own (.lst [])) s7 s8 (.own (.lst (A.map prD))) s10 s11) := by
    unfold eV
    simp [evI, ev, opd, slotAt, es, itemsD, Sl.d]
  have sl := sortP_len A
  obtain ⟨s9', s10', s11', el⟩ := forI_ind (bt := bindT (.nm 10)) (b := exs P46 CC bodyL) (fun i E => ∃ s9 s10 s11, (s9 = .own (.lst (A.map prD)) ∨ s9 = .val (.lst (A.map prD))) ∧ E = eV s0 s1 s2 s3 s4 s5 (.own (.lst ((fltTo A i).map prD))) s7 s8 s9 s10 s11)
    (fun R => ∃ s9 s10 s11, R = .nx (eV s0 s1 s2 s3 s4 s5 (.own (.lst ((leastOf A).map prD))) s7 s8 s9 s10 s11)) ((sortP A).map prD)
    (fun i E d hd ⟨s9, s10, s11, hs, eE⟩ => by
      subst eE
      rw [List.getElem?_map] at hd
      cases hp : (sortP A)[i]? with
      | none => rw [hp] at hd; cases hd
      | some p =>
        rw [hp] at hd
        cases hd
        refine ⟨eV s0 s1 s2 s3 s4 s5 (.own (.lst ((fltTo A i).map prD))) s7 s8 s9 (.val (prD p)) s11, by unfold eV; simp [bindT], ?_⟩
        have fl : (fltTo A i).length ≤ 10000 := by
          have h1 := List.length_filter_le (fun p => (smaller A p).isEmpty) ((sortP A).take i)
          rw [List.length_take] at h1
          unfold fltTo
          omega
        obtain ⟨s11', et⟩ := turnL (s0 := s0) (s1 := s1) (s2 := s2) (s3 := s3) (s4 := s4) (s5 := s5) (s7 := s7) (s8 := s8) (s11 := s11) (by omega) fl hp hs
        rw [et]
        exact ⟨_, _, _, .inr rfl, rfl⟩)
    (fun E ⟨s9, s10, s11, hs, eE⟩ => by
      subst eE
      rw [List.length_map]
      have : fltTo A (sortP A).length = leastOf A := by
        unfold fltTo
        rw [List.take_length]
        exact least_filter A
      rw [this]
      exact ⟨_, _, _, rfl⟩)
    (eV s0 s1 s2 s3 s4 s5 (.own (.lst [])) s7 s8 (.own (.lst (A.map prD))) s10 s11) ⟨.own (.lst (A.map prD)), s10, s11, .inl rfl, by simp [fltTo]⟩
  refine ⟨s9', s10', s11', ?_⟩
  rw [x_for, ei]
  simp only [SR.of, el]
end
end Lw
end

section
set_option Elab.async false
set_option linter.all false
set_option maxRecDepth 100000
set_option maxHeartbeats 2000000
/-! J53: k84, _law_are_servers_right; the law -/
namespace Lw
open PySem L2
def el46 : E := .bop .Add (.call 5 [(.var 2), (.var 9)]) (.call 5 [(.var 3), (.bop .Sub (.var 5) (.var 9))])
def lc46 : E := .lc el46 (.nm 9) (.rng1 (.bop .Add (.var 5) (.int 1))) [] [9]
def both46 : E := .tup [(.bi .min [(.idx (.var 2) (.int 0)), (.idx (.var 3) (.int 0))]), (.bop .Add (.idx (.var 2) (.int 1)) (.idx (.var 3) (.int 1)))]
def some46 : E := .lc (.tup [(.bop .Add (.var 12) (.bop .Mult (.var 13) (.idx (.var 2) (.int 1)))), (.fz 13)]) (.tup [(.nm 12), (.nm 13)]) (.fz 1) [(.cmp .LtE (.var 13) (.idx (.var 2) (.int 0)))] [12, 13]
theorem b46 : B46 = [.set 4 (.call 42 [(.var 2), (.var 3)]), .set 5 (.ty .int [(.call 0 [(.var 0), (.int 40)])]), .ite (.cmp .NotEq (.bi .repr [(.call 43 [(.var 2), (.var 5)])]) (.bi .repr [(.call 5 [(.var 2), (.var 5)])])) [.ret (.bl false)] [], .set 6 (.bi .min [lc46]),
  .ite (.orV (.cmp .NotEq (.call 5 [(.var 4), (.var 5)]) (.var 6)) (.cmp .NotEq (.var 4) both46)) [.ret (.bl false)] [], .setT (.tup [(.nm 7), (.nm 8)]) (.heard (.call 45 [(.var 1), (.var 2)])), .ite (tooE 1 2) [.ret (.andV (.cmp .Is (.var 7) .non) (.cmp .Is (.var 8) .non))] [],
  .par [9, 6] [some46, (.lst [])], .for_ (.nm 10) (.sset (.var 9)) bodyL, .ite (.cmp .Gt (.idx (.idx (.var 6) (.neg (.int 1))) (.int 0)) (.int 400)) [.nev] [], .ret (.andV (.cmp .Is (.var 7) .non) (.cmp .Eq (.bi .repr [(.var 8)]) (.bi .repr [(.ty .tuple [(.var 6)])])))] := rfl
section
variable {c : Cv} {a b : Int × Int} {s0 s1 s4 s5 s6 s7 s8 s9 s10 s11 : Sl}
theorem w1 (ha : SrvD a) (hb : SrvD b) : ex P46 CC (.set 4 (.call 42 [(.var 2), (.var 3)])) (eV s0 s1 (.val (prD a)) (.val (prD b)) s4 s5 s6 s7 s8 s9 s10 s11) = .nx (eV s0 s1 (.val (prD a)) (.val (prD b)) (.val (prD (bothS a b))) s5 s6 s7 s8 s9 s10 s11) := by
  have q : P46 42 = F42 := rfl
  have e := behind_other_ok ha hb
  unfold eV
  simp [ex, ev, args, callS, evC, slotAt, popS, q, e, putBack, putS, SR.of]
theorem w2 {n : Int} {l : List D} (hn : n < 2 ^ 19) (hp : PotOk n l) : ∃ (T : Nat) (l' : List D), T < 40 ∧ PotOk (n + 1) l' ∧ ∀ {s1 s2 s3 s4 s5 s6 s7 s8 s9 s10 s11 : Sl}, ex P46 CC (.set 5 (.ty .int [(.call 0 [(.var 0), (.int 40)])])) (eV (.own (.lst l)) s1 s2 s3 s4 s5 s6 s7 s8 s9 s10 s11) = .nx (eV (.own (.lst l')) s1 s2 s3 s4 (.val (.int T)) s6 s7 s8 s9 s10 s11) := by
  obtain ⟨d, l', hd, p1, e⟩ := take_ok (u := 40) (by omega) hp (by decide)
  have q : P46 0 = F0 := rfl
  refine ⟨d.toNat, l', by omega, p1, fun {s1 s2 s3 s4 s5 s6 s7 s8 s9 s10 s11} => ?_⟩
  rw [show ((d.toNat : Nat) : Int) = d by omega]
  simp only [vI] at e
  unfold eV
  simp [ex, ev, opds, opd, args, callS, evC, slotAt, popS, q, vI, e, tyS, putBack, putS, Sl.d, SR.of]
theorem servZ_small {s : Int × Int} (hs : Srv s) {T : Nat} (hT : T < 40) : (servZ s T).natAbs < 10 ^ 12 := by
  have h0 := servZ_pos hs.r0 (T : Int)
  have r0 := hs.r0; have r1 := hs.r1; have l0 := hs.l0
  have : servZ s T ≤ 100 * 40 := by
    unfold servZ
    exact Int.mul_le_mul r1 (by split <;> omega) (by split <;> omega) (by decide)
  omega
theorem w3 {T : Nat} (ha : SrvD a) (hT : T < 40) {s3 : Sl} : ex P46 CC (.ite (.cmp .NotEq (.bi .repr [(.call 43 [(.var 2), (.var 5)])]) (.bi .repr [(.call 5 [(.var 2), (.var 5)])])) [.ret (.bl false)] []) (eV s0 s1 (.val (prD a)) s3 s4 (.val (.int T)) s6 s7 s8 s9 s10 s11) = .nx (eV s0 s1 (.val (prD a)) s3 s4 (.val (.int T)) s6 s7 s8 s9 s10 s11) := by
  have q43 : P46 43 = F43 := rfl
  have q5 : P46 5 = F5 := rfl
  have e43 := passed_ok (u := (T : Int)) ha.srv (by omega) (by omega)
  have e5 := serv_ok (t := (T : Int)) ha.srv (by omega)
  have hx1 := repr_int (servZ_small ha.srv hT)
  generalize hE : eV s0 s1 (.val (prD a)) s3 s4 (.val (.int T)) s6 s7 s8 s9 s10 s11 = E
  have c2 : ev P46 CC (.call 43 [(.var 2), (.var 5)]) E = .ok (.val (.int (servZ a T))) E := by
    rw [← hE]; unfold eV
    simp [ev, args, callS, evC, slotAt, popS, q43, e43, vI, putBack]
  have c4 : ev P46 CC (.call 5 [(.var 2), (.var 5)]) E = .ok (.val (.int (servZ a T))) E := by
    rw [← hE]; unfold eV
    simp [ev, args, callS, evC, slotAt, popS, q5, e5, vI, putBack]
  have c3 := repr_same P46 (repr_call P46 c2 hx1) (repr_call P46 c4 hx1) (strOk_int _)
  rw [x_ite, c3]
  simp [SR.of, x_exs0]
theorem w4 {T : Nat} (ha : SrvD a) (hb : SrvD b) (hT : T < 40) : ex P46 CC (.set 6 (.bi .min [lc46])) (eV s0 s1 (.val (prD a)) (.val (prD b)) s4 (.val (.int T)) s6 s7 s8 .no s10 s11) = .nx (eV s0 s1 (.val (prD a)) (.val (prD b)) s4 (.val (.int T)) (.val (.int (servZ (bothS a b) T))) s7 s8 .no s10 s11) := by
  have q5 : P46 5 = F5 := rfl
  have lc : ev P46 CC lc46 (eV s0 s1 (.val (prD a)) (.val (prD b)) s4 (.val (.int T)) s6 s7 s8 .no s10 s11) = .ok (.own (.lst ((splitL a b T).map D.int))) (eV s0 s1 (.val (prD a)) (.val (prD b)) s4 (.val (.int T)) s6 s7 s8 .no s10 s11) := by
    unfold lc46 splitL eV
    rw [List.map_map]
    refine lc_all (List.range (T + 1)) (fun (i : Nat) => D.int (i : Int)) _ [s0, s1, .val (prD a), .val (prD b), s4, .val (.int T), s6, s7, s8, .no, s10, s11, .no, .no, .no] ?_ (by simp [notOwn]) (by simp [wipeE]) (by simp [wipeE]) (by simp [backE]) (by simp; omega) fun i hi => ?_
    · rw [← rng0]
      exact rng1_ev (n := ((T + 1 : Nat) : Int)) (by simp [ev, opd, slotAt, bopS, vI, Sl.d]) (by omega) (by omega)
    · have hi := List.mem_range.mp hi
      have e1 := serv_ok (t := (i : Int)) ha.srv (by omega)
      have e2 := serv_ok (t := (T : Int) - (i : Int)) hb.srv (by omega)
      refine ⟨[s0, s1, .val (prD a), .val (prD b), s4, .val (.int T), s6, s7, s8, .val (.int i), s10, s11, .no, .no, .no], [s0, s1, .val (prD a), .val (prD b), s4, .val (.int T), s6, s7, s8, .val (.int i), s10, s11, .no, .no, .no], vI (servZ a (i : Int) + servZ b ((T : Int) - (i : Int))), by simp [bindT], ?_, rfl, by simp [wipeE]⟩
      unfold el46
      simp [ev, opd, args, callS, evC, slotAt, popS, q5, e1, e2, bopS, putBack, putBack_ex, vI, Sl.d]
  have mn := min_ints (l := splitL a b T) (by simp [splitL])
  rw [split_min ha hb] at mn
  rw [x_set, ev_biK, opds1, show opd P46 CC lc46 = .ex (ev P46 CC lc46) from opd_lc _ _ _ _ _ _ _, s_bind, s_evA2, lc]
  unfold eV
  simp [opds, mn, putS, vI, Sl.d, SR.of]
theorem w5 {T : Nat} (ha : SrvD a) (hb : SrvD b) (hT : T < 40) : ex P46 CC (.ite (.orV (.cmp .NotEq (.call 5 [(.var 4), (.var 5)]) (.var 6)) (.cmp .NotEq (.var 4) both46)) [.ret (.bl false)] []) (eV s0 s1 (.val (prD a)) (.val (prD b)) (.val (prD (bothS a b))) (.val (.int T)) (.val (.int (servZ (bothS a b) T))) s7 s8 s9 s10 s11) = .nx (eV s0 s1 (.val (prD a)) (.val (prD b)) (.val (prD (bothS a b))) (.val (.int T)) (.val (.int (servZ (bothS a b) T))) s7 s8 s9 s10 s11) := by
  have q5 : P46 5 = F5 := rfl
  have e5 := serv_ok (t := (T : Int)) (both_srv ha hb) (by omega)
  have a1 : atI [D.int a.1, D.int a.2] 0 = some (.int a.1) := rfl
  have a2 : atI [D.int a.1, D.int a.2] 1 = some (.int a.2) := rfl
  have b1 : atI [D.int b.1, D.int b.2] 0 = some (.int b.1) := rfl
  have b2 : atI [D.int b.1, D.int b.2] 1 = some (.int b.2) := rfl
  have ee : eqD (prD (bothS a b)) (.tup [.int (if b.1 < a.1 then b.1 else a.1), .int (a.2 + b.2)]) = some true := by
    have := eq_pr (bothS a b) (bothS a b)
    rw [decide_eq_true rfl] at this
    exact this
  generalize hE : eV s0 s1 (.val (prD a)) (.val (prD b)) (.val (prD (bothS a b))) (.val (.int T)) (.val (.int (servZ (bothS a b) T))) s7 s8 s9 s10 s11 = E
  have g2 : E[2]? = some (.val (prD a)) := by rw [← hE]; rfl
  have g3 : E[3]? = some (.val (prD b)) := by rw [← hE]; rfl
  have g4 : E[4]? = some (.val (prD (bothS a b))) := by rw [← hE]; rfl
  have g5 : E[5]? = some (.val (.int T)) := by rw [← hE]; rfl
  have g6 : E[6]? = some (.val (.int (servZ (bothS a b) T))) := by rw [← hE]; rfl
  have c1 : evT P46 CC (.cmp .NotEq (.call 5 [(.var 4), (.var 5)]) (.var 6)) E = .ok false E := by
    simp [evT, ev, opd, args, callS, evC, slotAt, popS, g4, g5, g6, q5, e5, cmpS, eqD_int, putBack, truthD, vB, vI, Sl.d]
  have c2 : evT P46 CC (.cmp .NotEq (.var 4) both46) E = .ok false E := by
    unfold both46
    have eb : ev P46 CC (.tup [(.bi .min [(.idx (.var 2) (.int 0)), (.idx (.var 3) (.int 0))]), (.bop .Add (.idx (.var 2) (.int 1)) (.idx (.var 3) (.int 1)))]) E = .ok (.val (.tup [.int (if b.1 < a.1 then b.1 else a.1), .int (a.2 + b.2)])) E := by
      simp only [prD] at g2 g3
      simp [ev, evD, opds, opd, slotAt, g2, g3, ixS, a1, a2, b1, b2, biS, bopS, sizeLine_eq, vI, Sl.d]
    rw [evT_cmpK, s_bind, opd_cmp, s_evA2, ev_cmp, opd_varK, show ∀ as, opd P46 CC (.tup as) = .ex (ev P46 CC (.tup as)) from fun as => by simp only [opd], s_bind, s_evA1]
    simp only [slotAt, g4, s_ok, s_evA2, eb]
    simp [slotAt, g4, cmpS, ee, truthD, vB, Sl.d]
  rw [x_ite, evT_or, s_bind, c1]
  simp only [s_ok, Bool.false_eq_true, if_false]
  rw [c2]
  simp [SR.of, x_exs0]
theorem w6 (hc : Drawn c) (ha : SrvD a) {s3 : Sl} : ex P46 CC (.setT (.tup [(.nm 7), (.nm 8)]) (.heard (.call 45 [(.var 1), (.var 2)]))) (eV s0 (.val (curveD c)) (.val (prD a)) s3 s4 s5 s6 s7 s8 s9 s10 s11) = .nx (eV s0 (.val (curveD c)) (.val (prD a)) s3 s4 s5 s6 (.val .non) (.val (behindO c a)) s9 s10 s11) := by
  have q : P46 45 = F45 := rfl
  have e := behind_ok hc ha
  unfold eV
  simp [ex, ev, heardS, args, callS, evC, slotAt, popS, q, e, putBack, bindT, bindTs, Sl.d, SR.of]
theorem someS {A : Cv} (hA : A.length ≤ 3) (hb : ∀ p ∈ A, (0 ≤ p.1 ∧ p.1 ≤ 400) ∧ (0 ≤ p.2 ∧ p.2 ≤ 20)) : ∃ x, reprD (curveD (leastOf A)) = some x ∧ PyData.strOk x = true := by
  refine repr_curve (fun p hp => ?_) (by have := least_len A; omega)
  have m := (((least_all A).2.1 _).mp hp).1
  have := hb p m
  omega
theorem servers_right_ok {n : Int} {l : List D} (hc : Drawn c) (ha : SrvD a) (hb : SrvD b) (hn : n < 2 ^ 18) (h : PotOk n l) : ∃ l', PotOk (n + 1) l' ∧ F46 [.own (.lst l), .val (curveD c), .val (prD a), .val (prD b)] = .ok (vB true) [.own (.lst l'), .val (curveD c), .val (prD a), .val (prD b)] := by
  obtain ⟨T, l1, hT, p1, e2⟩ := w2 (n := n) (by omega) h
  refine ⟨l1, p1, ?_⟩
  unfold F46 fnS
  rw [b46]
  show (match exs P46 CC _ (eV (.own (.lst l)) (.val (curveD c)) (.val (prD a)) (.val (prD b)) .no .no .no .no .no .no .no .no) with | .rt s E => R.ok s ((wipeE E []).take 4) | .nx E => .ok (.val .non) ((wipeE E []).take 4) | .exc c x E => .exc c x ((wipeE E []).take 4) | _ => .bad) = _
  rw [x_exs1, w1 ha hb, s_nx, x_exs1, e2, s_nx, x_exs1, w3 ha hT, s_nx, x_exs1, w4 ha hb hT, s_nx, x_exs1, w5 ha hb hT, s_nx, x_exs1, w6 hc ha, s_nx]
  generalize hE : eV (.own (.lst l1)) (.val (curveD c)) (.val (prD a)) (.val (prD b)) (.val (prD (bothS a b))) (.val (.int T)) (.val (.int (servZ (bothS a b) T))) (.val .non) (.val (behindO c a)) .no .no .no = E
  have z1 := too_ev P46 (c := c) (s := a) (i := 1) (j := 2) (E := E) hc.1 (by rw [← hE]; rfl) (by rw [← hE]; rfl)
  have r3 : evT P46 CC (tooE 1 2) E = .ok (decide (a.1 < (lastP c).2)) E := by
    unfold tooE at z1 ⊢
    rw [evT_cmpK, s_bind, opd_cmp, s_evA2, z1]
    simp [vB, Sl.d, truthD]
  rw [x_exs1, x_ite, r3]
  by_cases h3 : a.1 < (lastP c).2
  · have eb : behindO c a = .non := by unfold behindO; rw [if_pos h3]
    rw [eb] at hE
    rw [decide_eq_true h3, ← hE]
    unfold eV
    simp [SR.of, SR.then, exs, ex, ev, opd, slotAt, cmpS, isNonD, vB, Sl.d, wipeE]
  · have eb : behindO c a = curveD (leastOf (someC c a)) := by unfold behindO; rw [if_neg h3]
    rw [eb] at hE
    rw [decide_eq_false h3]
    simp only [SR.of, Bool.false_eq_true, if_false, x_exs0, s_nx]
    have sl := someC_len (s := a) hc
    have sm := someC_small hc ha
    have lc := some_ev P46 (ic := 1) (is := 2) (ib := 12) (ir := 13) (E := E) hc ha (by rw [← hE]; rfl) (by rw [← hE]; rfl) (by rw [← hE]; rfl) (by rw [← hE]; rfl) (by decide) (by decide) (by decide)
    have r8 : ex P46 CC (.par [9, 6] [some46, (.lst [])]) E = .nx (eV (.own (.lst l1)) (.val (curveD c)) (.val (prD a)) (.val (prD b)) (.val (prD (bothS a b))) (.val (.int T)) (.own (.lst [])) (.val .non) (.val (curveD (leastOf (someC c a)))) (.own (.lst ((someC c a).map prD))) .no .no) := by
      have aL : args P46 CC [some46, (.lst [])] = [.ex (ev P46 CC some46), .ex (ev P46 CC (.lst []))] := by unfold some46; simp only [args]
      have lc' : ev P46 CC some46 E = .ok (.own (.lst ((someC c a).map prD))) E := lc
      rw [ex, aL]
      generalize ev P46 CC some46 = g at lc' ⊢
      rw [← hE] at lc' ⊢
      unfold eV at lc' ⊢
      simp [evC, lc', ev, evD, sizeLine_eq, putAll, putS, SR.of, SR.then]
    obtain ⟨s9', s10', s11', e9⟩ := loopL (s0 := .own (.lst l1)) (s1 := .val (curveD c)) (s2 := .val (prD a)) (s3 := .val (prD b)) (s4 := .val (prD (bothS a b))) (s5 := .val (.int T)) (s7 := .val .non) (s8 := .val (curveD (leastOf (someC c a)))) (s10 := .no) (s11 := .no) (A := someC c a) (by omega) (fun p hp => by have := sm p hp; omega)
    have ne := least_ne (someC_ne hc (show (lastP c).2 ≤ a.1 by omega))
    have al := atI_lastP ne
    have small : (lastP (leastOf (someC c a))).1 ≤ 400 := by
      have m := lastP_mem ne
      have := (((least_all (someC c a)).2.1 _).mp m).1
      exact (sm _ this).1.2
    have a0 : atI [D.int (lastP (leastOf (someC c a))).1, D.int (lastP (leastOf (someC c a))).2] 0 = some (.int (lastP (leastOf (someC c a))).1) := rfl
    have ng : ¬ (400 : Int) < (lastP (leastOf (someC c a))).1 := by omega
    rw [x_exs1, r8, s_nx, x_exs1, e9, s_nx]
    have r10 : ex P46 CC (.ite (.cmp .Gt (.idx (.idx (.var 6) (.neg (.int 1))) (.int 0)) (.int 400)) [.nev] []) (eV (.own (.lst l1)) (.val (curveD c)) (.val (prD a)) (.val (prD b)) (.val (prD (bothS a b))) (.val (.int T)) (.own (.lst ((leastOf (someC c a)).map prD))) (.val .non) (.val (curveD (leastOf (someC c a)))) s9' s10' s11') = .nx (eV (.own (.lst l1)) (.val (curveD c)) (.val (prD a)) (.val (prD b)) (.val (prD (bothS a b))) (.val (.int T)) (.own (.lst ((leastOf (someC c a)).map prD))) (.val .non) (.val (curveD (leastOf (someC c a)))) s9' s10' s11') := by
      unfold eV
      have ei : ixS (.lst ((leastOf (someC c a)).map prD)) (.int (-1)) = some (.val (prD (lastP (leastOf (someC c a))))) := by simp only [ixS, al, Option.map_some]
      have ei0 : ixS (prD (lastP (leastOf (someC c a)))) (.int 0) = some (.val (.int (lastP (leastOf (someC c a))).1)) := by simp only [prD, ixS, a0, Option.map_some]
      simp [exs, ex, ev, evT, opd, slotAt, negS, ei, ei0, cmpS, ng, truthD, vI, vB, Sl.d, SR.of]
    obtain ⟨x, hx1, hx2⟩ := someS sl sm
    rw [x_exs1, r10, s_nx, x_exs1, x_ret]
    have es := eqD_str hx2 hx2
    have hx1' : reprD (.tup ((leastOf (someC c a)).map prD)) = some x := hx1
    unfold eV curveD
    simp [ev, opds, opd, slotAt, tyS, biS, hx1', cmpS, isNonD, es, vB, Sl.d, SR.of, SR.then, wipeE]
end
/-! ### the law -/
def lap47 : List S := [.par [2, 3] [(.call 2 [(.var 0)]), (.call 3 [(.var 0)])], .ite (.notV (.call 41 [(.var 0), (.var 2), (.var 3)])) [.ret (.bl false)] [], .ite (.notV (.call 46 [(.var 0), (.var 2), (.var 3), (.call 3 [(.var 0)])])) [.ret (.bl false)] []]
theorem b47 : B47 = [.for_ (.nm 1) (.rng1 (.int 3)) lap47, .ret (.bl true)] := rfl
theorem lap_ok {n : Int} {l : List D} {s1 s2 s3 : Sl} (hn : n < 2 ^ 13) (h : PotOk n l) : ∃ l' s2' s3', PotOk (n + 80) l' ∧ exs P47 CC lap47 [.own (.lst l), s1, s2, s3] = .nx [.own (.lst l'), s1, s2', s3'] := by
  have q2 : P47 2 = F2 := rfl
  have q3 : P47 3 = F3 := rfl
  have q41 : P47 41 = F41 := rfl
  have q46 : P47 46 = F46 := rfl
  obtain ⟨c, l1, hc, p1, e1⟩ := curve_ok (by omega) h
  obtain ⟨a, l2, ha, p2, e2⟩ := server_drawn_ok (by omega) p1
  obtain ⟨l3, p3, e3⟩ := server_right_ok hc ha (by omega) p2
  obtain ⟨b, l4, hb, p4, e4⟩ := server_drawn_ok (by omega) p3
  obtain ⟨l5, p5, e5⟩ := servers_right_ok hc ha hb (by omega) p4
  have r1 : ex P47 CC (.par [2, 3] [(.call 2 [(.var 0)]), (.call 3 [(.var 0)])]) [.own (.lst l), s1, s2, s3] = .nx [.own (.lst l2), s1, .val (curveD c), .val (prD a)] := by
    simp [ex, ev, args, callS, evC, slotAt, popS, q2, q3, e1, e2, putBack, putAll, putS, SR.of, SR.then]
  have r2 : ex P47 CC (.ite (.notV (.call 41 [(.var 0), (.var 2), (.var 3)])) [.ret (.bl false)] []) [.own (.lst l2), s1, .val (curveD c), .val (prD a)] = .nx [.own (.lst l3), s1, .val (curveD c), .val (prD a)] := by
    simp [exs, ex, ev, evT, opd, args, callS, evC, slotAt, popS, q41, e3, putBack, truthD, vB, Sl.d, SR.of]
  have r3 : ex P47 CC (.ite (.notV (.call 46 [(.var 0), (.var 2), (.var 3), (.call 3 [(.var 0)])])) [.ret (.bl false)] []) [.own (.lst l3), s1, .val (curveD c), .val (prD a)] = .nx [.own (.lst l5), s1, .val (curveD c), .val (prD a)] := by
    simp [exs, ex, ev, evT, opd, args, callS, evC, slotAt, popS, q46, q3, e4, e5, putBack, truthD, vB, Sl.d, SR.of]
  refine ⟨l5, .val (curveD c), .val (prD a), p5.mono (by omega), ?_⟩
  unfold lap47
  rw [x_exs1, r1, s_nx, x_exs1, r2, s_nx, x_exs1, r3, s_nx, x_exs0]
theorem right_ok {l : List D} (h : PotOk 0 l) : ∃ E, F47 [.own (.lst l)] = .ok (vB true) E := by
  have il := forI_ind (bt := bindT (.nm 1)) (b := exs P47 CC lap47) (fun i E => ∃ l' s1 s2 s3, PotOk (0 + 80 * i) l' ∧ E = [.own (.lst l'), s1, s2, s3])
    (fun R => ∃ l' s1 s2 s3, R = .nx [.own (.lst l'), s1, s2, s3]) (rngD 0 3)
    (fun i E d hd ⟨l', s1, s2, s3, hp, eE⟩ => by
      subst eE
      obtain ⟨rfl, hi⟩ := rng2_get hd
      refine ⟨[.own (.lst l'), .val (.int (0 + i)), s2, s3], by simp [bindT], ?_⟩
      obtain ⟨l2, s2', s3', p2, e⟩ := lap_ok (s1 := .val (.int (0 + i))) (s2 := s2) (s3 := s3) (by omega) hp
      rw [e]
      exact ⟨_, _, _, _, by rw [show (0 : Int) + 80 * ((i + 1 : Nat) : Int) = 0 + 80 * (i : Int) + 80 by omega]; exact p2, rfl⟩)
    (fun E ⟨l', s1, s2, s3, hp, eE⟩ => by subst eE; exact ⟨_, _, _, _, rfl⟩)
    [.own (.lst l), .no, .no, .no] ⟨l, .no, .no, .no, by simpa using h, rfl⟩
  obtain ⟨l', s1, s2, s3, e⟩ := il
  have ei : evI P47 CC (.rng1 (.int 3)) [.own (.lst l), .no, .no, .no] = .ok (rngD 0 3) [.own (.lst l), .no, .no, .no] := rng1_ev (by simp [ev, vI]) (by omega) (by omega)
  refine ⟨[.own (.lst l')], ?_⟩
  unfold F47 fnS
  rw [b47]
  show (match exs P47 CC _ [.own (.lst l), .no, .no, .no] with | .rt s E => R.ok s ((wipeE E []).take 1) | .nx E => .ok (.val .non) ((wipeE E []).take 1) | .exc c x E => .exc c x ((wipeE E []).take 1) | _ => .bad) = _
  rw [x_exs1, x_for, ei]
  simp only [SR.of, e, s_nx]
  simp [exs, ex, ev, SR.of, SR.then, wipeE, vB]
theorem plain (ns : List Int) (hz : ns.length ≤ 63) : ∃ E, F50 [.val (.scr ns)] = .ok (.val (.bl true)) E := law_of (fun l h => right_ok h) ns hz
end Lw
end

set_option Elab.async false
set_option linter.all false
set_option maxRecDepth 100000
set_option maxHeartbeats 0
open PySem PySem.W PySem.Calls PyProof.Rows
theorem PySem.Challenge.cw_howeveritpasses_k84_whole_how_late_and_h_holds : PySem.Challenge.rw_howeveritpasses_k84_whole_how_late_and_h.Holds := by
  w_on; o_law
  refine HandSHeadRun.head_any (r := OpenLaw.row PySem.Challenge.rw_howeveritpasses_k84_whole_how_late_and_h) (q := view (OpenLaw.row PySem.Challenge.rw_howeveritpasses_k84_whole_how_late_and_h).prog [65])
    (H := Lw.hk) (ob := Lw.ob) (M := 3000) (loose := Lw.loose) (d := HandSHeadRun.topDef (OpenLaw.row PySem.Challenge.rw_howeveritpasses_k84_whole_how_late_and_h).prog 65) (kwd := []) Lw.ob_eq
    (by kernel_rfl) (fun s => by kernel_rfl) Lw.run (by kernel_rfl) (by kernel_rfl) (by kernel_rfl) (by rfl) (by first | assumption | decide +kernel)
    (by decide +kernel) ⟨rfl, rfl, rfl, rfl, rfl, by decide +kernel⟩ ?hw ?hc
  case hw => w_witness2
  case hc =>
    haveI : Lw.TabInfo := ⟨[]⟩
    refine Lw.walk_endT (l := PySem.Challenge.rw_howeveritpasses_k84_whole_how_late_and_h) (n := 63) (k := 53) (x := "script") rfl (by decide) (by kernel_rfl) ⟨rfl, by decide, by decide⟩ ?F
    intro w mg fa h Y G hmg0
    obtain ⟨K, KX, c⟩ := Y
    have hmg : mg ("law" : PySem.Str) = some (.ref fa) := by
      have e : (HandSHeadRun.topDef (OpenLaw.row PySem.Challenge.rw_howeveritpasses_k84_whole_how_late_and_h).prog 65).name = ("law" : PySem.Str) := by kernel_rfl
      rw [← e]; exact hmg0
    obtain ⟨fd, hb, hF⟩ := Lw.facts (P := (PySem.Challenge.rw_howeveritpasses_k84_whole_how_late_and_h).prog) (w := w) KX G hmg c.t.d
    refine ⟨K, fd, Lw.F50, Lw.tfL.map (He.cT K), Lw.TL K, KX, hb, fun ns hl => Lw.plain ns hl, ?_, ?_, ?_, ?_, hF⟩
    · intro p hp
      obtain ⟨q, hq, rfl⟩ := List.mem_map.mp hp
      exact c.empty q hq
    · intro p hp
      obtain ⟨q, hq, rfl⟩ := List.mem_map.mp hp
      exact c.out q hq
    · intro p hp
      obtain ⟨q, hq, rfl⟩ := List.mem_map.mp hp
      exact PySem.W.codeHd_of_K KX (c.hd q hq)
    · intro p hp
      rcases List.mem_cons.mp hp with rfl | hp
      · exact List.mem_map.mpr ⟨_, List.mem_map.mpr ⟨_, List.mem_cons_self, rfl⟩, rfl⟩
      · cases hp
