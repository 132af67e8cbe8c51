import PyProof.Rows.All
import HandS.ForMost
import HandS.ForExc
import HandS.Wide
import HandS.Defaults
import HandS.CallSlots
import HandS.Lambda
import HandS.Deep
import HandS.IsInst
import HandS.TupAny
import HandS.Style
import HandS.SortInts
import HandS.TupMul
import KE.SortData
import PyProof.ReprRoads
import HandS.WordsDict
import HandS.More
import HandS.Dict
import HandS.ListItems
import HandS.SetFor
import HandS.DictTup
import KE.KDictPairs
import KE.DataFind
import KE.KDictSum
import HandS.Star
import KE.GoesEnum
import HandS.Iter
import HandS.Zip
import HandS.Small
import HandS.Text
import HandS.TupSets
import HandS.Keys
import HandS.ExcInit
import HandS.ExcSuper
import HandS.ExcIs
import KE.KExcSuper
import KE.KExcIs
import HandS.ExcField
import HandS.Comp
import HandS.Nested
import HandS.Conv
import HandS.Strs
import HandS.DictComp
import HandS.Codes
import HandS.Head0
import HandS.Head1
import HandS.Head2
import HandS.HeadEnd
import HandS.HeadHook1
import HandS.HeadHook2
import HandS.HeadHook4
import HandS.EndBits
import KE.KStateDown
import HandS.Words
import HandS.WordsExc
import PySem.Challenge.RW_howeveritpasses_k94_whole_counters_of_fl
section
set_option Elab.async false
set_option linter.all false
set_option maxRecDepth 100000
set_option autoImplicit true
set_option maxHeartbeats 4000000
/-! L1: data as trees, how they lie in the abstract heap, slots -/
namespace Lw
open PySem L2

/-- a value as data -/
inductive D where
  | non | bl (b : Bool) | int (i : Int) | str (x : Str) | ty (n : String)
  | tup (xs : List D) | lst (xs : List D)
  /-- the script: a list of ints that is read alone -/
  | scr (ns : List Int)
  | dk (ks : List Key) (vs : List D)
  | dt (ks : List (List Key)) (vs : List D)
  /-- a tuple of which the object is known to have no dict of its own -/
  | ptup (xs : List D)
  /-- a dict that is walked: it stays from then on -/
  | dz (ks : List Key) (vs : List D)
  /-- an exception of the class C, its value -/
  | exc (C : Str) (x : D)
  /-- lambda x: isinstance(x, C) -/
  | isf (C : Str)
  deriving Inhabited

/-- what a slot holds: nothing; data that is never changed; a list or dict that this slot alone holds -/
inductive Sl where
  | no | val (d : D) | own (d : D)
  deriving Inhabited
def Sl.d : Sl → D
  | .no => .non
  | .val d => d
  | .own d => d

abbrev SE := List Sl
/-- .. as any other tuple -/
def weakD : D → D
  | .ptup xs => .tup xs
  | d => d

/-- the tables of the text's defs that make lambdas; the own classes of exceptions -/
class TabInfo where
  T : List (Addr × Str)
  exc : Str → Option Addr
/-- the object at a is an exception of the class c, its dict at d -/
def ExcO (c d a : Addr) : HO := .ext fun h => ∃ (oe : Obj) (vs : Array Value), h.get? a = some oe ∧ Zc (.ref c) (some d) oe ∧ oe.data = .fields vs
theorem excO_tbl {c d a : Addr} (ps : Array Value) : ExcO c d a ≠ .tbl ps := fun z => by unfold ExcO at z; cases z
/-- a lambda that was made: its words, the cells that it caught, its code object -/
structure LF where
  qual : Str
  params : Arguments
  body : Expr
  scope : Scope
  cl : List (Str × Addr)
  c : Addr
/-- the object at f is the lambda F -/
def LamO (f : Addr) (F : LF) : HO := .ext fun h => ∃ pm ctv : Value, h.get? f = some (PySem.W.kla_obj "<lambda>" F.qual F.params F.body F.scope F.cl pm F.c ctv)
theorem lamO_tbl {f : Addr} {F : LF} (ps : Array Value) : LamO f F ≠ .tbl ps := fun z => by unfold LamO at z; cases z
/-- the lambda F is lambda x: isinstance(x, C) -/
def isfB (C : Str) (F : LF) : Bool := F.cl.isEmpty && (match F.params, F.body with
  | ⟨[], [⟨x, none, _⟩], none, [], [], none, []⟩, .Call (.Name f _) [.Name y _, .Name c _] [] _ => f == ("isinstance" : Str) && x == ("miss" : Str) && y == ("miss" : Str) && c == C && decide (F.scope.kind = .function) && !F.scope.isCoroutine && !F.scope.isGenerator &&
      F.scope.names.lookup x == some .local && F.scope.names.lookup f == some .globalImplicit && F.scope.names.lookup C == some .globalImplicit && (F.scope.names.all fun z => !decide (z.2 = .cell) && !decide (z.2 = .free)) && !(C == ("__debug__" : Str)) && !(C == ("__name__" : Str))
  | _, _ => false)
/-- objects that may be changed -/
def Mu : HO → Prop
  | .lst _ => True
  | .dK _ => True
  | .dT _ => True
  | .ins _ _ _ => True
  | _ => False

/-- the script, read alone -/
def Scr (K : PySem.W.Frag) (H : Hp) (a : Addr) (ns : List Int) : Prop := (∃ o, H a = some (.frz o (.lst (ns.map V.int)))) ∨
  ∃ (o : Obj) (its : Array Value) (n : Nat), K.lookup a = some o ∧ o.cls = .type "list" ∧ o.dict = none ∧ o.data = .seq its n ∧ its.size ≤ sizeLine ∧ Vals (ns.map V.int) its.toList
theorem lamO_mu {f : Addr} {F : LF} : ¬ Mu (LamO f F) := fun z => by unfold LamO at z; exact z
theorem codeO_mu {c : Addr} {q : Str} : ¬ Mu (LamX.CodeO c q) := fun z => by unfold LamX.CodeO at z; exact z
theorem excO_mu {c d a : Addr} : ¬ Mu (ExcO c d a) := fun z => by unfold ExcO at z; exact z
variable [TabInfo]
theorem Scr.sq {K : PySem.W.Frag} {H : Hp} {a : Addr} {ns : List Int} (h : Scr K H a ns) : SqL K H a (ns.map V.int) := by
  rcases h with h | h
  · exact .inl (.inr h)
  · exact .inr h
section
variable (K : PySem.W.Frag) (H : Hp)
mutual
/-- v is d; S: the addresses of what may be changed within -/
inductive Rep : V → D → List Addr → Prop
  | non : Rep .non .non []
  | bl (b) : Rep (.bl b) (.bl b) []
  | int (i) : Rep (.int i) (.int i) []
  | str (x) : Rep (.str x) (.str x) []
  | ty (n) : Rep (.ty n) (.ty n) []
  | tup {a vs ds S} : SqT K H a vs → Reps vs ds S → Rep (.ref a) (.tup ds) S
  | lst {a vs ds S} : H a = some (.lst vs) → Reps vs ds S → Rep (.ref a) (.lst ds) (a :: S)
  | scr {a} {ns : List Int} : Scr K H a ns → Rep (.ref a) (.scr ns) []
  | dk {a ks vs ds S} : H a = some (.dK (ks.zip vs)) → ks.length = vs.length → Reps vs ds S → Rep (.ref a) (.dk ks ds) (a :: S)
  | dt {a ks vs ds S} : H a = some (.dT (ks.zip vs)) → ks.length = vs.length → Reps vs ds S → Rep (.ref a) (.dt ks ds) (a :: S)
  | ptup {a vs ds S o} : H a = some (.frz o (.tup vs)) → o.dict = none → Reps vs ds S → Rep (.ref a) (.ptup ds) S
  | dz {a ks vs ds S o} : H a = some (.frz o (.dK (ks.zip vs))) → ks.length = vs.length → Reps vs ds S → Rep (.ref a) (.dz ks ds) S
  | exc {a c d C v x S} : TabInfo.exc C = some c → H a = some (ExcO c d a) → H d = some (.xd [(("value" : Str), v)]) → Rep v x S → Rep (.ref a) (.exc C x) S
  | isf {f F C c} : TabInfo.exc C = some c → isfB C F = true → H f = some (LamO f F) → H F.c = some (LamX.CodeO F.c F.qual) → Rep (.ref f) (.isf C) []
inductive Reps : List V → List D → List Addr → Prop
  | nil : Reps [] [] []
  | cons {v d S vs ds S'} : Rep v d S → Reps vs ds S' → Reps (v :: vs) (d :: ds) (S ++ S')
end

/-- the content of v is d; S: what may be changed within, without v's own object -/
inductive Top : V → D → List Addr → Prop
  | sc {v d S} : Rep K H v d S → (match d with | .lst _ => False | .dk _ _ => False | .dt _ _ => False | _ => True) → Top v d S
  | lst {a vs ds S} : H a = some (.lst vs) → Reps K H vs ds S → Top (.ref a) (.lst ds) S
  | dk {a ks vs ds S} : H a = some (.dK (ks.zip vs)) → ks.length = vs.length → Reps K H vs ds S → Top (.ref a) (.dk ks ds) S
  | dt {a ks vs ds S} : H a = some (.dT (ks.zip vs)) → ks.length = vs.length → Reps K H vs ds S → Top (.ref a) (.dt ks ds) S

/-- the object at a is d, and may be changed; S: what may be changed within it -/
inductive OwnR : Addr → D → List Addr → Prop
  | lst {a vs ds S} : H a = some (.lst vs) → Reps K H vs ds S → OwnR a (.lst ds) S
  | dk {a ks vs ds S} : H a = some (.dK (ks.zip vs)) → ks.length = vs.length → Reps K H vs ds S → OwnR a (.dk ks ds) S
  | dt {a ks vs ds S} : H a = some (.dT (ks.zip vs)) → ks.length = vs.length → Reps K H vs ds S → OwnR a (.dt ks ds) S
end

theorem OwnR.top {K H a d S} (h : OwnR K H a d S) : Top K H (.ref a) d S := by
  cases h with
  | lst h1 h2 => exact .lst h1 h2
  | dk h1 h2 h3 => exact .dk h1 h2 h3
  | dt h1 h2 h3 => exact .dt h1 h2 h3
theorem OwnR.mu {K H a d S} (h : OwnR K H a d S) : ∃ o, H a = some o ∧ Mu o := by
  cases h with
  | lst h1 h2 => exact ⟨_, h1, trivial⟩
  | dk h1 h2 h3 => exact ⟨_, h1, trivial⟩
  | dt h1 h2 h3 => exact ⟨_, h1, trivial⟩
theorem OwnR.rep {K H a d S} (h : OwnR K H a d S) : Rep K H (.ref a) d (a :: S) := by
  cases h with
  | lst h1 h2 => exact .lst h1 h2
  | dk h1 h2 h3 => exact .dk h1 h2 h3
  | dt h1 h2 h3 => exact .dt h1 h2 h3
theorem Rep.top {K H v d S} (h : Rep K H v d S) : ∃ S', Top K H v d S' ∧ ∀ a ∈ S', a ∈ S := by
  cases h with
  | lst h1 h2 => exact ⟨_, .lst h1 h2, fun a h => List.mem_cons_of_mem _ h⟩
  | scr h1 => exact ⟨_, .sc (.scr h1) trivial, fun a h => h⟩
  | dk h1 h2 h3 => exact ⟨_, .dk h1 h2 h3, fun a h => List.mem_cons_of_mem _ h⟩
  | dt h1 h2 h3 => exact ⟨_, .dt h1 h2 h3, fun a h => List.mem_cons_of_mem _ h⟩
  | tup h1 h2 => exact ⟨_, .sc (.tup h1 h2) trivial, fun a h => h⟩
  | non => exact ⟨_, .sc .non trivial, fun a h => h⟩
  | bl b => exact ⟨_, .sc (.bl b) trivial, fun a h => h⟩
  | int b => exact ⟨_, .sc (.int b) trivial, fun a h => h⟩
  | str b => exact ⟨_, .sc (.str b) trivial, fun a h => h⟩
  | ty b => exact ⟨_, .sc (.ty b) trivial, fun a h => h⟩
  | exc h1 h2 h3 h4 => exact ⟨_, .sc (.exc h1 h2 h3 h4) trivial, fun a h => h⟩
  | ptup h1 h2 h3 => exact ⟨_, .sc (.ptup h1 h2 h3) trivial, fun a h => h⟩
  | dz h1 h2 h3 => exact ⟨_, .sc (.dz h1 h2 h3) trivial, fun a h => h⟩
  | isf h0 h1 h2 h3 => exact ⟨_, .sc (.isf h0 h1 h2 h3) trivial, fun a h => h⟩

/-- H' keeps: all that can't be changed, and what stands at S -/
def Kp (S : Addr → Prop) (H H' : Hp) : Prop := ∀ a o, H a = some o → (∀ ps, o ≠ .tbl ps) → (S a ∨ ¬ Mu o) → H' a = some o
theorem Kp.sqT {K H H' a vs} {S : Addr → Prop} (k : Kp S H H') (h : SqT K H a vs) : SqT K H' a vs := by
  rcases h with (h | ⟨o, h⟩) | h
  · exact .inl (.inl (k _ _ h (fun _ z => nomatch z) (.inr fun z => z)))
  · exact .inl (.inr ⟨o, k _ _ h (fun _ z => nomatch z) (.inr fun z => z)⟩)
  · exact .inr h
theorem Kp.scr {K H H' a ns} {S : Addr → Prop} (k : Kp S H H') (h : Scr K H a ns) : Scr K H' a ns := by
  rcases h with ⟨o, h⟩ | h
  · exact .inl ⟨o, k _ _ h (fun _ z => nomatch z) (.inr fun z => z)⟩
  · exact .inr h
mutual
theorem Rep.keep {K H H'} {T : Addr → Prop} (k : Kp T H H') : ∀ {v d S}, Rep K H v d S → (∀ a ∈ S, T a) → Rep K H' v d S
  | _, _, _, .non, _ => .non
  | _, _, _, .bl b, _ => .bl b
  | _, _, _, .int b, _ => .int b
  | _, _, _, .str b, _ => .str b
  | _, _, _, .ty b, _ => .ty b
  | _, _, _, .tup h r, hS => .tup (k.sqT h) (Reps.keep k r hS)
  | _, _, _, .scr h, hS => .scr (k.scr h)
  | _, _, _, .lst h r, hS => .lst (k _ _ h (fun _ z => nomatch z) (.inl (hS _ (List.mem_cons_self ..)))) (Reps.keep k r fun a ha => hS a (List.mem_cons_of_mem _ ha))
  | _, _, _, .dk h e r, hS => .dk (k _ _ h (fun _ z => nomatch z) (.inl (hS _ (List.mem_cons_self ..)))) e (Reps.keep k r fun a ha => hS a (List.mem_cons_of_mem _ ha))
  | _, _, _, .dt h e r, hS => .dt (k _ _ h (fun _ z => nomatch z) (.inl (hS _ (List.mem_cons_self ..)))) e (Reps.keep k r fun a ha => hS a (List.mem_cons_of_mem _ ha))
  | _, _, _, .ptup h e r, hS => .ptup (k _ _ h (fun _ z => nomatch z) (.inr fun z => z)) e (Reps.keep k r hS)
  | _, _, _, .dz h e r, hS => .dz (k _ _ h (fun _ z => nomatch z) (.inr fun z => z)) e (Reps.keep k r hS)
  | _, _, _, .exc e h1 h2 r, hS => .exc e (k _ _ h1 excO_tbl (.inr excO_mu)) (k _ _ h2 (fun _ z => nomatch z) (.inr fun z => z)) (Rep.keep k r hS)
  | _, _, _, .isf e0 e h1 h2, hS => .isf e0 e (k _ _ h1 lamO_tbl (.inr lamO_mu)) (k _ _ h2 LamX.codeO_ne (.inr codeO_mu))
theorem Reps.keep {K H H'} {T : Addr → Prop} (k : Kp T H H') : ∀ {v d S}, Reps K H v d S → (∀ a ∈ S, T a) → Reps K H' v d S
  | _, _, _, .nil, _ => .nil
  | _, _, _, .cons h r, hS => .cons (Rep.keep k h fun a ha => hS a (List.mem_append_left _ ha)) (Reps.keep k r fun a ha => hS a (List.mem_append_right _ ha))
end
theorem OwnR.keep {K H H' a d S} {T : Addr → Prop} (k : Kp T H H') (h : OwnR K H a d S) (ha : T a) (hS : ∀ a ∈ S, T a) : OwnR K H' a d S := by
  cases h with
  | lst h1 h2 => exact .lst (k _ _ h1 (fun _ z => nomatch z) (.inl ha)) (h2.keep k hS)
  | dk h1 h2 h3 => exact .dk (k _ _ h1 (fun _ z => nomatch z) (.inl ha)) h2 (h3.keep k hS)
  | dt h1 h2 h3 => exact .dt (k _ _ h1 (fun _ z => nomatch z) (.inl ha)) h2 (h3.keep k hS)

mutual
theorem Rep.dom {K H} : ∀ {v d S}, Rep K H v d S → ∀ a ∈ S, ∃ o, H a = some o
  | _, _, _, .non, _, h => nomatch h
  | _, _, _, .bl b, _, h => nomatch h
  | _, _, _, .int b, _, h => nomatch h
  | _, _, _, .str b, _, h => nomatch h
  | _, _, _, .ty b, _, h => nomatch h
  | _, _, _, .tup _ r, a, h => Reps.dom r a h
  | _, _, _, .scr _, _, h => nomatch h
  | _, _, _, .lst q r, a, h => (List.mem_cons.mp h).elim (fun e => by subst e; exact ⟨_, q⟩) (Reps.dom r a)
  | _, _, _, .dk q _ r, a, h => (List.mem_cons.mp h).elim (fun e => by subst e; exact ⟨_, q⟩) (Reps.dom r a)
  | _, _, _, .dt q _ r, a, h => (List.mem_cons.mp h).elim (fun e => by subst e; exact ⟨_, q⟩) (Reps.dom r a)
  | _, _, _, .ptup _ _ r, a, h => Reps.dom r a h
  | _, _, _, .dz _ _ r, a, h => Reps.dom r a h
  | _, _, _, .exc _ _ _ r, a, h => Rep.dom r a h
  | _, _, _, .isf _ _ _ _, _, h => nomatch h
theorem Reps.dom {K H} : ∀ {v d S}, Reps K H v d S → ∀ a ∈ S, ∃ o, H a = some o
  | _, _, _, .nil, _, h => nomatch h
  | _, _, _, .cons h r, a, hS => (List.mem_append.mp hS).elim (Rep.dom h a) (Reps.dom r a)
end
theorem Reps.length {K H} : ∀ {vs ds S}, Reps K H vs ds S → vs.length = ds.length
  | _, _, _, .nil => rfl
  | _, _, _, .cons _ r => by simp [r.length]
theorem Reps.get {K H} : ∀ {vs ds S} {i : Nat} {d : D}, Reps K H vs ds S → ds[i]? = some d → ∃ v S', vs[i]? = some v ∧ Rep K H v d S' ∧ ∀ a ∈ S', a ∈ S
  | _, _, _, i, d, .nil, e => by simp at e
  | _, _, _, 0, d, .cons h r, e => by simp at e; subst e; exact ⟨_, _, rfl, h, fun a ha => List.mem_append_left _ ha⟩
  | _, _, _, i + 1, d, .cons h r, e => by
    obtain ⟨v, S', e1, h1, h2⟩ := r.get (i := i) (d := d) (by simpa using e)
    exact ⟨v, S', by simpa using e1, h1, fun a ha => List.mem_append_right _ (h2 a ha)⟩
theorem Reps.getV {K H} : ∀ {vs ds S} {i : Nat} {v : V}, Reps K H vs ds S → vs[i]? = some v → ∃ d S', ds[i]? = some d ∧ Rep K H v d S' ∧ ∀ a ∈ S', a ∈ S := fun {vs ds S i v} h e => by
  have hi : i < ds.length := by rw [← h.length]; exact (List.getElem?_eq_some_iff.mp e).1
  obtain ⟨v', S', e1, h1, h2⟩ := h.get (i := i) (d := ds[i]) (by simp [hi])
  rw [e] at e1; cases e1
  exact ⟨_, S', by simp [hi], h1, h2⟩
/-- Reps with any bound of the addresses -/
def RepsB (K : PySem.W.Frag) (H : Hp) (T : Addr → Prop) (vs : List V) (ds : List D) : Prop := ∃ S, Reps K H vs ds S ∧ ∀ a ∈ S, T a
def RepB (K : PySem.W.Frag) (H : Hp) (T : Addr → Prop) (v : V) (d : D) : Prop := ∃ S, Rep K H v d S ∧ ∀ a ∈ S, T a
def TopB (K : PySem.W.Frag) (H : Hp) (T : Addr → Prop) (v : V) (d : D) : Prop := ∃ S, Top K H v d S ∧ ∀ a ∈ S, T a
def OwnB (K : PySem.W.Frag) (H : Hp) (T : Addr → Prop) (a : Addr) (d : D) : Prop := ∃ S, OwnR K H a d S ∧ ∀ b ∈ S, T b
section
variable {K : PySem.W.Frag} {H H' : Hp} {T : Addr → Prop}
theorem RepsB.nil : RepsB K H T [] [] := ⟨[], .nil, fun _ h => nomatch h⟩
theorem RepsB.cons {v d vs ds} (h : RepB K H T v d) (r : RepsB K H T vs ds) : RepsB K H T (v :: vs) (d :: ds) := by
  obtain ⟨S, h1, h2⟩ := h
  obtain ⟨S', h3, h4⟩ := r
  exact ⟨S ++ S', .cons h1 h3, fun a ha => (List.mem_append.mp ha).elim (h2 a) (h4 a)⟩
theorem RepsB.uncons {v d vs ds} (h : RepsB K H T (v :: vs) (d :: ds)) : RepB K H T v d ∧ RepsB K H T vs ds := by
  obtain ⟨S, h1, h2⟩ := h
  cases h1 with
  | cons h r => exact ⟨⟨_, h, fun a ha => h2 a (List.mem_append_left _ ha)⟩, ⟨_, r, fun a ha => h2 a (List.mem_append_right _ ha)⟩⟩
theorem RepsB.length {vs ds} (h : RepsB K H T vs ds) : vs.length = ds.length := let ⟨_, h, _⟩ := h; h.length
theorem RepsB.append : ∀ {vs ds vs' ds'}, RepsB K H T vs ds → RepsB K H T vs' ds' → RepsB K H T (vs ++ vs') (ds ++ ds')
  | [], [], _, _, _, r => r
  | v :: vs, d :: ds, _, _, h, r => by
    obtain ⟨h1, h2⟩ := h.uncons
    exact .cons h1 (RepsB.append h2 r)
  | [], d :: ds, _, _, h, r => by have := h.length; simp at this
  | v :: vs, [], _, _, h, r => by have := h.length; simp at this
theorem RepsB.get {vs ds} {i : Nat} {d : D} (h : RepsB K H T vs ds) (e : ds[i]? = some d) : ∃ v, vs[i]? = some v ∧ RepB K H T v d := by
  obtain ⟨S, h1, h2⟩ := h
  obtain ⟨v, S', e1, h3, h4⟩ := h1.get e
  exact ⟨v, e1, S', h3, fun a ha => h2 a (h4 a ha)⟩
theorem RepsB.getV {vs ds} {i : Nat} {v : V} (h : RepsB K H T vs ds) (e : vs[i]? = some v) : ∃ d, ds[i]? = some d ∧ RepB K H T v d := by
  obtain ⟨S, h1, h2⟩ := h
  obtain ⟨v, S', e1, h3, h4⟩ := h1.getV e
  exact ⟨v, e1, S', h3, fun a ha => h2 a (h4 a ha)⟩
theorem RepsB.of_get {vs : List V} {ds : List D} (hl : vs.length = ds.length) (h : ∀ (i : Nat) v d, vs[i]? = some v → ds[i]? = some d → RepB K H T v d) : RepsB K H T vs ds := by
  induction vs generalizing ds with
  | nil => cases ds with
    | nil => exact .nil
    | cons d ds => simp at hl
  | cons v vs ih => cases ds with
    | nil => simp at hl
    | cons d ds => exact .cons (h 0 v d rfl rfl) (ih (by simpa using hl) fun i v d e1 e2 => h (i + 1) v d (by simpa using e1) (by simpa using e2))
theorem RepsB.set {vs ds} {i : Nat} {v : V} {d : D} (h : RepsB K H T vs ds) (r : RepB K H T v d) : RepsB K H T (vs.set i v) (ds.set i d) := by
  refine .of_get (by simp [h.length]) fun j v' d' e1 e2 => ?_
  by_cases hj : i = j
  · subst hj
    have hi : i < vs.length := by have := (List.getElem?_eq_some_iff.mp e1).1; simpa using this
    rw [List.getElem?_set_self hi] at e1; cases e1
    rw [List.getElem?_set_self (by rw [← h.length]; exact hi)] at e2; cases e2
    exact r
  · rw [List.getElem?_set_ne hj] at e1 e2
    obtain ⟨d2, e3, h3⟩ := h.getV e1
    rw [e2] at e3; cases e3
    exact h3
theorem RepsB.take {vs ds} (n : Nat) (h : RepsB K H T vs ds) : RepsB K H T (vs.take n) (ds.take n) := by
  refine .of_get (by simp [h.length]) fun j v d e1 e2 => ?_
  have hj : j < n := by
    have := (List.getElem?_eq_some_iff.mp e1).1
    rw [List.length_take] at this; omega
  rw [List.getElem?_take_of_lt hj] at e1 e2
  obtain ⟨d2, e3, h3⟩ := h.getV e1
  rw [e2] at e3; cases e3
  exact h3
theorem RepsB.drop {vs ds} (n : Nat) (h : RepsB K H T vs ds) : RepsB K H T (vs.drop n) (ds.drop n) := by
  refine .of_get (by simp [h.length]) fun j v d e1 e2 => ?_
  rw [List.getElem?_drop] at e1 e2
  obtain ⟨d2, e3, h3⟩ := h.getV e1
  rw [e2] at e3; cases e3
  exact h3
theorem RepsB.dropLast {vs ds} (h : RepsB K H T vs ds) : RepsB K H T vs.dropLast ds.dropLast := by
  rw [List.dropLast_eq_take, List.dropLast_eq_take, h.length]; exact h.take _
theorem RepsB.reverse {vs ds} (h : RepsB K H T vs ds) : RepsB K H T vs.reverse ds.reverse := by
  refine .of_get (by simp [h.length]) fun j v d e1 e2 => ?_
  have hj : j < vs.length := by have := (List.getElem?_eq_some_iff.mp e1).1; simpa using this
  rw [List.getElem?_reverse hj] at e1
  rw [List.getElem?_reverse (by rw [← h.length]; exact hj), ← h.length] at e2
  obtain ⟨d2, e3, h3⟩ := h.getV e1
  rw [e2] at e3; cases e3
  exact h3
theorem RepB.mono {T' : Addr → Prop} {v d} (h : RepB K H T v d) (m : ∀ a, T a → T' a) : RepB K H T' v d := let ⟨S, h1, h2⟩ := h; ⟨S, h1, fun a ha => m a (h2 a ha)⟩
theorem RepsB.mono {T' : Addr → Prop} {v d} (h : RepsB K H T v d) (m : ∀ a, T a → T' a) : RepsB K H T' v d := let ⟨S, h1, h2⟩ := h; ⟨S, h1, fun a ha => m a (h2 a ha)⟩
theorem TopB.mono {T' : Addr → Prop} {v d} (h : TopB K H T v d) (m : ∀ a, T a → T' a) : TopB K H T' v d := let ⟨S, h1, h2⟩ := h; ⟨S, h1, fun a ha => m a (h2 a ha)⟩
theorem RepB.monoD {T' : Addr → Prop} {v d} (h : RepB K H T v d) (m : ∀ a o, H a = some o → T a → T' a) : RepB K H T' v d := let ⟨S, h1, h2⟩ := h; ⟨S, h1, fun a ha => let ⟨o, e⟩ := h1.dom a ha; m a o e (h2 a ha)⟩
theorem RepsB.monoD {T' : Addr → Prop} {v d} (h : RepsB K H T v d) (m : ∀ a o, H a = some o → T a → T' a) : RepsB K H T' v d := let ⟨S, h1, h2⟩ := h; ⟨S, h1, fun a ha => let ⟨o, e⟩ := h1.dom a ha; m a o e (h2 a ha)⟩
theorem OwnB.monoD {T' : Addr → Prop} {a d} (h : OwnB K H T a d) (m : ∀ b o, H b = some o → T b → T' b) : OwnB K H T' a d := let ⟨S, h1, h2⟩ := h; ⟨S, h1, fun b hb => let ⟨o, e⟩ := h1.rep.dom b (List.mem_cons_of_mem _ hb); m b o e (h2 b hb)⟩
theorem RepB.keep {v d} (h : RepB K H T v d) (k : Kp T H H') : RepB K H' T v d := let ⟨S, h1, h2⟩ := h; ⟨S, h1.keep k h2, h2⟩
theorem RepsB.keep {v d} (h : RepsB K H T v d) (k : Kp T H H') : RepsB K H' T v d := let ⟨S, h1, h2⟩ := h; ⟨S, h1.keep k h2, h2⟩
theorem OwnB.keep {a d} (h : OwnB K H T a d) (k : Kp (fun b => T b ∨ b = a) H H') : OwnB K H' T a d := let ⟨S, h1, h2⟩ := h; ⟨S, h1.keep k (.inr rfl) (fun b hb => .inl (h2 b hb)), h2⟩
theorem RepB.top {v d} (h : RepB K H T v d) : TopB K H T v d := let ⟨S, h1, h2⟩ := h; let ⟨S', h3, h4⟩ := h1.top; ⟨S', h3, fun a ha => h2 a (h4 a ha)⟩
theorem OwnB.top {a d} (h : OwnB K H T a d) : TopB K H T (.ref a) d := let ⟨S, h1, h2⟩ := h; ⟨S, h1.top, h2⟩
theorem RepB.weak {v d} (h : RepB K H T v d) : RepB K H T v (weakD d) := by
  obtain ⟨S, h, hS⟩ := h
  cases h with
  | ptup h1 h2 h3 => exact ⟨_, .tup (.inl (.inr ⟨_, h1⟩)) h3, hS⟩
  | non => exact ⟨_, .non, hS⟩
  | bl b => exact ⟨_, .bl b, hS⟩
  | int b => exact ⟨_, .int b, hS⟩
  | str b => exact ⟨_, .str b, hS⟩
  | ty b => exact ⟨_, .ty b, hS⟩
  | tup h1 h2 => exact ⟨_, .tup h1 h2, hS⟩
  | lst h1 h2 => exact ⟨_, .lst h1 h2, hS⟩
  | scr h1 => exact ⟨_, .scr h1, hS⟩
  | dk h1 h2 h3 => exact ⟨_, .dk h1 h2 h3, hS⟩
  | dz h1 h2 h3 => exact ⟨_, .dz h1 h2 h3, hS⟩
  | dt h1 h2 h3 => exact ⟨_, .dt h1 h2 h3, hS⟩
  | exc h1 h2 h3 h4 => exact ⟨_, .exc h1 h2 h3 h4, hS⟩
  | isf h0 h1 h2 h3 => exact ⟨_, .isf h0 h1 h2 h3, hS⟩
theorem TopB.weak {v d} (h : TopB K H T v d) : TopB K H T v (weakD d) := by
  obtain ⟨S, h, hS⟩ := h
  cases h with
  | sc h q =>
    cases h with
    | ptup h1 h2 h3 => exact ⟨_, .sc (.tup (.inl (.inr ⟨_, h1⟩)) h3) trivial, hS⟩
    | non => exact ⟨_, .sc .non trivial, hS⟩
    | bl b => exact ⟨_, .sc (.bl b) trivial, hS⟩
    | int b => exact ⟨_, .sc (.int b) trivial, hS⟩
    | str b => exact ⟨_, .sc (.str b) trivial, hS⟩
    | ty b => exact ⟨_, .sc (.ty b) trivial, hS⟩
    | tup h1 h2 => exact ⟨_, .sc (.tup h1 h2) trivial, hS⟩
    | lst h1 h2 => exact q.elim
    | scr h1 => exact ⟨_, .sc (.scr h1) trivial, hS⟩
    | dk h1 h2 h3 => exact q.elim
    | dz h1 h2 h3 => exact ⟨_, .sc (.dz h1 h2 h3) trivial, hS⟩
    | dt h1 h2 h3 => exact q.elim
    | exc h1 h2 h3 h4 => exact ⟨_, .sc (.exc h1 h2 h3 h4) trivial, hS⟩
    | isf h0 h1 h2 h3 => exact ⟨_, .sc (.isf h0 h1 h2 h3) trivial, hS⟩
  | lst h1 h2 => exact ⟨_, .lst h1 h2, hS⟩
  | dk h1 h2 h3 => exact ⟨_, .dk h1 h2 h3, hS⟩
  | dt h1 h2 h3 => exact ⟨_, .dt h1 h2 h3, hS⟩
theorem RepB.non : RepB K H T .non .non := ⟨_, .non, fun _ h => nomatch h⟩
theorem RepB.bl (b) : RepB K H T (.bl b) (.bl b) := ⟨_, .bl b, fun _ h => nomatch h⟩
theorem RepB.int (b) : RepB K H T (.int b) (.int b) := ⟨_, .int b, fun _ h => nomatch h⟩
theorem RepB.str (b) : RepB K H T (.str b) (.str b) := ⟨_, .str b, fun _ h => nomatch h⟩
theorem RepB.ty (b) : RepB K H T (.ty b) (.ty b) := ⟨_, .ty b, fun _ h => nomatch h⟩
theorem RepB.ptup {a o vs ds} (h : H a = some (.frz o (.tup vs))) (hd : o.dict = none) (r : RepsB K H T vs ds) : RepB K H T (.ref a) (.ptup ds) := let ⟨S, h1, h2⟩ := r; ⟨S, .ptup h hd h1, h2⟩
theorem RepB.tup {a vs ds} (h : SqT K H a vs) (r : RepsB K H T vs ds) : RepB K H T (.ref a) (.tup ds) := let ⟨S, h1, h2⟩ := r; ⟨S, .tup h h1, h2⟩
theorem OwnB.lst {a vs ds} (h : H a = some (.lst vs)) (r : RepsB K H T vs ds) : OwnB K H T a (.lst ds) := let ⟨S, h1, h2⟩ := r; ⟨S, .lst h h1, h2⟩
end
theorem Kp.of {H H' : Hp} {T : Addr → Prop} (h : ∀ a o, H a = some o → H' a = some o) : Kp T H H' := fun a o e _ _ => h a o e
theorem Kp.refl {H : Hp} {T : Addr → Prop} : Kp T H H := fun _ _ e _ _ => e
theorem ext_upd {H : Hp} {p : Addr} {o : HO} (hp : H p = none) : ∀ a u, H a = some u → upd H p o a = some u := fun a u e => by
  rw [upd_ne (ne_of_none e hp)]; exact e
end Lw
end

section
set_option Elab.async false
set_option linter.all false
set_option maxRecDepth 100000
set_option maxHeartbeats 4000000
/-! L2: what holds of the slots and the heap; results; operands -/
namespace Lw
open PySem L2

/-- what a piece of code comes to: a value and the slots; an exception of a class with its value; or nothing is said -/
inductive R (α : Type) where
  | ok (a : α) (E : SE)
  | exc (C : Str) (x : D) (E : SE)
  | bad
abbrev M (α : Type) := SE → R α
def M.pure {α} (a : α) : M α := fun E => .ok a E
def R.bind {α β} (r : R α) (f : α → M β) : R β := match r with
  | .ok a E => f a E
  | .exc C x E => .exc C x E
  | .bad => .bad
def M.bind {α β} (m : M α) (f : α → M β) : M β := fun E => (m E).bind f
def M.bad {α} : M α := fun _ => .bad
instance : Monad M where
  pure := M.pure
  bind := M.bind

/-- a is held by a slot -/
def OwnS (σ : St) (E : SE) (a : Addr) : Prop := ∃ (i : Nat) (d : D), E[i]? = some (.own d) ∧ σ[i]? = some (some (.ref a))
/-- neither protected nor held -/
def Fz (P : Addr → Prop) (σ : St) (E : SE) (a : Addr) : Prop := ¬ P a ∧ ¬ OwnS σ E a
variable [TabInfo]
theorem tabs_upd {T : List (Addr × Str)} {H : Hp} {a : Addr} {o : HO} (t : LamX.Tabs T H) (hm : ∀ u, H a = some u → Mu u) : LamX.Tabs T (upd H a o) := fun p hp => by
  obtain ⟨ps, h1, h2, h3⟩ := t p hp
  have n : ∀ {b u}, H b = some u → ¬ Mu u → upd H a o b = some u := fun {b u} e m => by
    rw [upd_ne (fun z => m (hm u (by rw [← z]; exact e)))]; exact e
  refine ⟨ps, n h1 fun z => z, h2, fun pos cv hc => ?_⟩
  obtain ⟨c, e1, e2⟩ := h3 pos cv hc
  exact ⟨c, e1, n e2 fun z => by unfold LamX.CodeO at z; exact z⟩
structure Good (K : PySem.W.Frag) (P : Addr → Prop) (H : Hp) (σ : St) (E : SE) : Prop where
  len : σ.length = E.length
  dom : ∀ a, P a → ∃ o, H a = some o
  val : ∀ (i : Nat) (d : D), E[i]? = some (.val d) → ∃ v, σ[i]? = some (some v) ∧ RepB K H (Fz P σ E) v d
  own : ∀ (i : Nat) (d : D), E[i]? = some (.own d) → ∃ a, σ[i]? = some (some (.ref a)) ∧ OwnB K H (Fz P σ E) a d
  dis : ∀ a, OwnS σ E a → ¬ P a
  inj : ∀ (i j : Nat) (d d' : D) (a : Addr), E[i]? = some (.own d) → E[j]? = some (.own d') → σ[i]? = some (some (.ref a)) → σ[j]? = some (some (.ref a)) → i = j
  tab : LamX.Tabs TabInfo.T H
structure Lnk (P : Addr → Prop) (σ : St) (E : SE) (H : Hp) (P' : Addr → Prop) (σ' : St) (E' : SE) (H' : Hp) : Prop where
  keep : ∀ a o, H a = some o → (∀ ps, o ≠ .tbl ps) → ¬ OwnS σ E a → H' a = some o
  new : ∀ a, OwnS σ' E' a → OwnS σ E a ∨ H a = none
  pr : ∀ a, P' a → P a ∨ OwnS σ E a ∨ H a = none
  tbs : ∀ a, H' a = none → H a = none

section
variable {K : PySem.W.Frag} {P P' P1 : Addr → Prop} {H H' H1 : Hp} {σ σ' σ1 : St} {E E' E1 : SE}
theorem Good.ownD (g : Good K P H σ E) {a} (h : OwnS σ E a) : ∃ o, H a = some o ∧ Mu o := by
  obtain ⟨i, d, e1, e2⟩ := h
  obtain ⟨b, e3, S, h1, h2⟩ := g.own i d e1
  rw [e2] at e3; cases e3
  exact h1.mu
theorem Lnk.refl : Lnk P σ E H P σ E H := ⟨fun _ _ e _ _ => e, fun _ h => .inl h, fun _ h => .inl h, fun _ e => e⟩
theorem Lnk.none (l : Lnk P σ E H P' σ' E' H') {a} (h : H' a = none) : OwnS σ E a ∨ H a = none := by
  exact .inr (l.tbs a h)
theorem Lnk.trans (a : Lnk P σ E H P1 σ1 E1 H1) (b : Lnk P1 σ1 E1 H1 P' σ' E' H') : Lnk P σ E H P' σ' E' H' where
  keep := fun c o e t n => b.keep c o (a.keep c o e t n) t fun h => (a.new c h).elim n fun z => by rw [e] at z; cases z
  tbs := fun c e => a.tbs c (b.tbs c e)
  new := fun c h => (b.new c h).elim (a.new c) a.none
  pr := fun c h => (b.pr c h).elim (a.pr c) fun q => .inr (q.elim (a.new c) a.none)
theorem none_ext {H H' : Hp} (h : ∀ a o, H a = some o → H' a = some o) {a : Addr} (e : H' a = Option.none) : H a = Option.none := by
  cases q : H a with
  | none => rfl
  | some o => rw [h a o q] at e; cases e
theorem none_upd {H : Hp} {a b : Addr} {o : HO} (e : upd H a o b = Option.none) : H b = Option.none := by
  by_cases q : b = a
  · subst q; rw [upd_same] at e; cases e
  · rw [upd_ne q] at e; exact e
theorem Lnk.ext (h : ∀ a o, H a = some o → H' a = some o) : Lnk P σ E H P σ E H' := ⟨fun a o e _ _ => h a o e, fun _ h => .inl h, fun _ h => .inl h, fun _ e => none_ext h e⟩
theorem Lnk.less (l : Lnk P σ E H P1 σ' E' H') (h : ∀ a, P' a → P1 a) : Lnk P σ E H P' σ' E' H' := ⟨l.keep, l.new, fun a z => l.pr a (h a z), l.tbs⟩
/-- what is neither protected nor held stays -/
theorem Good.kp (g : Good K P H σ E) (l : Lnk P σ E H P' σ' E' H') : Kp (fun a => ¬ OwnS σ E a) H H' := fun a o e t h => l.keep a o e t fun q => by
  rcases h with h | h
  · exact h q
  · obtain ⟨u, e1, m⟩ := g.ownD q
    rw [e] at e1; cases e1
    exact h m
theorem Lnk.fz (l : Lnk P σ E H P' σ' E' H') {a o} (e : H a = some o) (h : Fz P σ E a) : Fz P' σ' E' a :=
  ⟨fun q => (l.pr a q).elim h.1 fun z => z.elim h.2 fun z => (by rw [e] at z; cases z), fun q => (l.new a q).elim h.2 fun z => by rw [e] at z; cases z⟩
theorem RepB.lnk {v d} (h : RepB K H (Fz P σ E) v d) (g : Good K P H σ E) (l : Lnk P σ E H P' σ' E' H') : RepB K H' (Fz P' σ' E') v d :=
  ((h.monoD fun a o e z => ⟨z, l.fz e z⟩ : RepB K H (fun a => Fz P σ E a ∧ Fz P' σ' E' a) v d).keep (fun a o e t z => g.kp l a o e t (z.imp (·.1.2) id))).mono fun _ z => z.2
theorem RepsB.lnk {v d} (h : RepsB K H (Fz P σ E) v d) (g : Good K P H σ E) (l : Lnk P σ E H P' σ' E' H') : RepsB K H' (Fz P' σ' E') v d :=
  ((h.monoD fun a o e z => ⟨z, l.fz e z⟩ : RepsB K H (fun a => Fz P σ E a ∧ Fz P' σ' E' a) v d).keep (fun a o e t z => g.kp l a o e t (z.imp (·.1.2) id))).mono fun _ z => z.2
theorem OwnB.lnk {a d} (h : OwnB K H (Fz P σ E) a d) (g : Good K P H σ E) (l : Lnk P σ E H P' σ' E' H') (ha : ¬ OwnS σ E a) : OwnB K H' (Fz P' σ' E') a d :=
  ((h.monoD fun b o e z => ⟨z, l.fz e z⟩ : OwnB K H (fun b => Fz P σ E b ∧ Fz P' σ' E' b) a d).keep (fun b o e t z => g.kp l b o e t (z.imp (fun z => z.elim (·.1.2) fun z => by rw [z]; exact ha) id))).monoD fun _ _ _ z => z.2
/-- the heap grows -/
theorem Good.ext (g : Good K P H σ E) (h : ∀ a o, H a = some o → H' a = some o) : Good K P H' σ E where
  len := g.len
  dom := fun a p => let ⟨o, e⟩ := g.dom a p; ⟨o, h a o e⟩
  val := fun i d e => let ⟨v, e1, r⟩ := g.val i d e; ⟨v, e1, r.keep (Kp.of h)⟩
  own := fun i d e => let ⟨v, e1, r⟩ := g.own i d e; ⟨v, e1, r.keep (Kp.of h)⟩
  dis := g.dis
  inj := g.inj
  tab := g.tab.ext h
/-- less is protected -/
theorem Good.less (g : Good K P H σ E) (h : ∀ a, P' a → P a) : Good K P' H σ E where
  len := g.len
  dom := fun a p => g.dom a (h a p)
  val := fun i d e => let ⟨v, e1, r⟩ := g.val i d e; ⟨v, e1, r.mono fun a z => ⟨fun q => z.1 (h a q), z.2⟩⟩
  own := fun i d e => let ⟨v, e1, r⟩ := g.own i d e; ⟨v, e1, r.monoD fun a _ _ z => ⟨fun q => z.1 (h a q), z.2⟩⟩
  dis := fun a o p => g.dis a o (h a p)
  inj := g.inj
  tab := g.tab
/-- a new object is protected -/
theorem Good.fresh (g : Good K P H σ E) {a o} (ha : H a = Option.none) (e : ∀ b u, H b = some u → H' b = some u) (e2 : H' a = some o) : Good K (fun b => P b ∨ b = a) H' σ E where
  len := g.len
  dom := fun b p => p.elim (fun p => let ⟨o, q⟩ := g.dom b p; ⟨o, e b o q⟩) fun z => ⟨o, by rw [z]; exact e2⟩
  val := fun i d e1 => let ⟨v, e2, r⟩ := g.val i d e1; ⟨v, e2, (r.monoD fun b u q z => ⟨fun p => p.elim z.1 fun y => (by rw [y, ha] at q; cases q), z.2⟩ : RepB K H (Fz (fun b => P b ∨ b = a) σ E) v d).keep (Kp.of e)⟩
  own := fun i d e1 => let ⟨v, e2, r⟩ := g.own i d e1; ⟨v, e2, (r.monoD fun b u q z => ⟨fun p => p.elim z.1 fun y => (by rw [y, ha] at q; cases q), z.2⟩ : OwnB K H (Fz (fun b => P b ∨ b = a) σ E) v d).keep (Kp.of e)⟩
  dis := fun b o p => p.elim (g.dis b o) fun z => by
    obtain ⟨u, q, _⟩ := g.ownD o
    rw [z, ha] at q; cases q
  inj := g.inj
  tab := g.tab.ext e
end

/-- the address that a result holds by itself -/
def HeldBy (v : V) : Sl → Addr → Prop
  | .own _, a => v = .ref a
  | _, _ => False
def Pl (P : Addr → Prop) (v : V) (s : Sl) (a : Addr) : Prop := P a ∨ HeldBy v s a
/-- a result; P: with what it holds -/
def ResR (K : PySem.W.Frag) (P : Addr → Prop) (σ : St) (E : SE) (H : Hp) (v : V) : Sl → Prop
  | .no => False
  | .val d => RepB K H (Fz P σ E) v d
  | .own d => ∃ a, v = .ref a ∧ OwnB K H (Fz P σ E) a d

/-- how an exception lies: its class, its dict -/
def ExcR (K : PySem.W.Frag) (mg : Str → Option Value) (T : Addr → Prop) (H : Hp) (C : Str) (x : D) (cls : Value) (d : Option Addr) : Prop :=
  ∃ (a b : Addr) (v : V), TabInfo.exc C = some a ∧ cls = .ref a ∧ d = some b ∧ H b = some (.xd [(("value" : Str), v)]) ∧ RepB K H T v x

section
variable (K : PySem.W.Frag) (mg : Str → Option Value) (W : WX)
/-- what is wanted of an expression's result -/
def PostE (P : Addr → Prop) (σ : St) (E : SE) (H : Hp) (Q : VK) : R Sl → Prop
  | .ok s E' => ∀ v H', Good K (Pl P v s) H' σ E' → Lnk P σ E H (Pl P v s) σ E' H' → ResR K (Pl P v s) σ E' H' v s → (∀ a, HeldBy v s a → ¬ P a) → Q v H'
  | .exc C x E' => ∀ H' cls d, Good K P H' σ E' → Lnk P σ E H P σ E' H' → ExcR K mg (Fz P σ E') H' C x cls d → W cls d σ H'
  | .bad => False
/-- an expression's reading -/
def TEof (f : M Sl) : TE := fun σ H Q => ∃ P E, Good K P H σ E ∧ PostE K mg W P σ E H Q (f E)
/-- data by their contents, one by one -/
def TopsB (H : Hp) (T : Addr → Prop) : List V → List D → Prop := Paired (TopB K H T)
def PostA (P : Addr → Prop) (σ : St) (E : SE) (H : Hp) (Q : List V → Hp → Prop) : R (List D) → Prop
  | .ok ds E' => ∀ vs H' P', (∀ a, P a → P' a) → Good K P' H' σ E' → Lnk P σ E H P' σ E' H' → TopsB K H' (Fz P' σ E') vs ds → Q vs H'
  | .exc C x E' => ∀ H' cls d, Good K P H' σ E' → Lnk P σ E H P σ E' H' → ExcR K mg (Fz P σ E') H' C x cls d → W cls d σ H'
  | .bad => False
/-- an argument list's reading -/
def TAof (f : M (List D)) : TA := fun σ H Q => ∃ P E, Good K P H σ E ∧ PostA K mg W P σ E H Q (f E)
def PostT (P : Addr → Prop) (σ : St) (E : SE) (H : Hp) (Q : Bool → Hp → Prop) : R Bool → Prop
  | .ok b E' => ∀ H', Good K P H' σ E' → Lnk P σ E H P σ E' H' → Q b H'
  | .exc C x E' => ∀ H' cls d, Good K P H' σ E' → Lnk P σ E H P σ E' H' → ExcR K mg (Fz P σ E') H' C x cls d → W cls d σ H'
  | .bad => False
/-- a test's reading -/
def TTof (f : M Bool) : TT := fun σ H Q => ∃ P E, Good K P H σ E ∧ PostT K mg W P σ E H Q (f E)
end

/-- an operand: a slot (read when the operation is done), or an expression -/
inductive Opd where
  | slot (i : Nat)
  | ex (f : M Sl)
def slotAt (i : Nat) : M D := fun E => match E[i]? with
  | some (.val d) => .ok d E
  | some (.own d) => .ok d E
  | _ => .bad
def evA : List Opd → M (List D)
  | [] => M.pure []
  | .slot i :: r => do let _ ← slotAt i; let ds ← evA r; let d ← slotAt i; M.pure (weakD d :: ds)
  | .ex f :: r => do let s ← f; let ds ← evA r; M.pure (weakD s.d :: ds)
def tOpd (K : PySem.W.Frag) (mg : Str → Option Value) (W : WX) : Opd → TE
  | .slot i => tVar i
  | .ex f => TEof K mg W f
def tOpds (K : PySem.W.Frag) (mg : Str → Option Value) (W : WX) : List Opd → TA
  | [] => tNil
  | o :: r => tCons (tOpd K mg W o) (tOpds K mg W r)

section
variable {K : PySem.W.Frag} {mg : Str → Option Value} {W : WX} {P P' P1 : Addr → Prop} {H H' H1 : Hp} {σ σ' σ1 : St} {E E' E1 : SE}
theorem Good.slotV (g : Good K P H σ E) {i : Nat} {d : D} {E' : SE} (h : slotAt i E = .ok d E') : E' = E ∧ ∃ v, σ[i]? = some (some v) ∧ TopB K H (Fz P σ E) v d := by
  unfold slotAt at h
  split at h
  · rename_i d' e
    injection h with h1 h2; subst h1; subst h2
    obtain ⟨v, e1, r⟩ := g.val i _ e
    exact ⟨rfl, v, e1, r.top⟩
  · rename_i d' e
    injection h with h1 h2; subst h1; subst h2
    obtain ⟨v, e1, r⟩ := g.own i _ e
    exact ⟨rfl, _, e1, r.top⟩
  · cases h
theorem TopB.lnkR {s : Sl} {v : V} (r : ResR K P σ E H v s) (g : Good K P H σ E) (l : Lnk P σ E H P' σ' E' H') (hh : ∀ a, HeldBy v s a → P a) : TopB K H' (Fz P' σ' E') v s.d := by
  cases s with
  | no => exact r.elim
  | val d => exact (RepB.lnk r g l).top
  | own d =>
    obtain ⟨a, rfl, r⟩ := r
    exact (r.lnk g l fun q => g.dis a q (hh a rfl)).top
theorem R.bind_ok {α β} {r : R α} {f : α → M β} {b : β} {E : SE} (h : r.bind f = .ok b E) : ∃ a E1, r = .ok a E1 ∧ f a E1 = .ok b E := by
  cases r with
  | ok a E1 => exact ⟨a, E1, rfl, h⟩
  | exc C x E1 => cases h
  | bad => cases h
theorem evA_slot {i : Nat} {r : List Opd} {E : SE} : evA (.slot i :: r) E = (slotAt i E).bind fun _ => fun E1 => (evA r E1).bind fun ds => fun E2 => (slotAt i E2).bind fun d => fun E3 => .ok (weakD d :: ds) E3 := rfl
theorem evA_ex {f : M Sl} {r : List Opd} {E : SE} : evA (.ex f :: r) E = (f E).bind fun s => fun E1 => (evA r E1).bind fun ds => fun E2 => .ok (weakD s.d :: ds) E2 := rfl
theorem slotAt_cases (i : Nat) (E : SE) : (∃ d, slotAt i E = .ok d E) ∨ slotAt i E = .bad := by
  unfold slotAt
  split
  · exact .inl ⟨_, rfl⟩
  · exact .inl ⟨_, rfl⟩
  · exact .inr rfl
/-- operands, from the left -/
theorem argsL : ∀ (ops : List Opd) (σ : St) (H : Hp) (Q : List V → Hp → Prop), TAof K mg W (evA ops) σ H Q → tOpds K mg W ops σ H Q := by
  intro ops
  induction ops with
  | nil =>
    intro σ H Q ⟨P, E, g, h⟩
    exact h [] H P (fun _ z => z) g Lnk.refl .nil
  | cons o r ih =>
    intro σ H Q ⟨P, E, g, h⟩
    cases o with
    | slot i =>
      rw [evA_slot] at h
      rcases slotAt_cases i E with ⟨d0, e0⟩ | e0
      · rw [e0] at h
        obtain ⟨_, v, ev, tv⟩ := g.slotV e0
        refine ⟨v, ev, ih σ H _ ⟨P, E, g, ?_⟩⟩
        change PostA K mg W P σ E H Q ((evA r E).bind _) at h
        cases e1 : evA r E with
        | bad => rw [e1] at h; exact h
        | exc C x E1 => rw [e1] at h; exact h
        | ok ds E1 =>
          rw [e1] at h
          change PostA K mg W P σ E H Q ((slotAt i E1).bind _) at h
          rcases slotAt_cases i E1 with ⟨d1, e2⟩ | e2
          · rw [e2] at h
            intro vs H' P' hp g' l ts
            obtain ⟨_, v', ev', tv'⟩ := g'.slotV e2
            rw [ev] at ev'
            cases ev'
            exact h (v :: vs) H' P' hp g' l (.cons tv'.weak ts)
          · rw [e2] at h; exact h.elim
      · rw [e0] at h; exact h.elim
    | ex f =>
      rw [evA_ex] at h
      show TEof K mg W f σ H _
      refine ⟨P, E, g, ?_⟩
      cases e1 : f E with
      | bad => rw [e1] at h; exact h
      | exc C x E1 => rw [e1] at h; exact h
      | ok s E1 =>
        rw [e1] at h
        intro v H1 g1 l1 r1 n1
        refine ih σ H1 _ ⟨_, E1, g1, ?_⟩
        change PostA K mg W P σ E H Q ((evA r E1).bind _) at h
        cases e2 : evA r E1 with
        | bad => rw [e2] at h; exact h
        | exc C x E2 =>
          rw [e2] at h
          intro H2 cls d g2 l2 x2
          refine h H2 cls d (g2.less fun a z => .inl z) ((l1.trans l2).less fun a z => .inl z) ?_
          obtain ⟨a, b, w, q1, q2, q3, q4, q5⟩ := x2
          exact ⟨a, b, w, q1, q2, q3, q4, q5.mono fun c z => ⟨fun p => z.1 (.inl p), z.2⟩⟩
        | ok ds E2 =>
          rw [e2] at h
          intro vs H2 P2 hp g2 l2 ts
          exact h (v :: vs) H2 P2 (fun a z => hp a (.inl z)) g2 (l1.trans l2) (.cons (TopB.lnkR r1 g1 l2 fun a z => .inr z).weak ts)
end
end Lw
end

section
set_option Elab.async false
set_option linter.all false
set_option maxRecDepth 100000
set_option maxHeartbeats 4000000
/-! L3: operators and built-ins upon data, and that the hand layer's rules keep them -/
namespace Lw
open PySem L2
variable [TabInfo]

mutual
/-- as the library's data (no dicts) -/
def D.py : D → Option PyData
  | .non => some .none
  | .bl b => some (.bool b)
  | .int i => some (.int i)
  | .str x => some (.str x)
  | .tup xs => (D.pys xs).map .tuple
  | .lst xs => (D.pys xs).map .list
  | .scr ns => some (.list (ns.map .int))
  | _ => none
def D.pys : List D → Option (List PyData)
  | [] => some []
  | d :: ds => match D.py d, D.pys ds with
    | some p, some ps => some (p :: ps)
    | _, _ => none
end

def okD (a : D) : Option PyData := match a.py with
  | some p => if SeqAt.shaped p then some p else none
  | none => none
/-- == -/
def eqD (a b : D) : Option Bool := match okD a, okD b with
  | some p, some q => some (PyData.eqv p q)
  | _, _ => none
/-- x in a list -/
def inD (x : D) (ys : List D) : Option Bool := match okD x, okD (.lst ys) with
  | some p, some (.list qs) => some (qs.any fun z => PyData.eqv z p)
  | _, _ => none
def flatD : D → Bool
  | .non | .bl _ | .int _ | .str _ => true
  | _ => false
/-- == of flat data -/
def eqF : D → D → Bool
  | .non, .non => true
  | .bl a, .bl b => a == b
  | .bl a, .int j => (if a then 1 else 0) == j
  | .int i, .bl b => i == (if b then 1 else 0)
  | .int i, .int j => i == j
  | .str x, .str y => x == y
  | _, _ => false

def isNonD : D → Bool
  | .non => true
  | _ => false
def vB (b : Bool) : Sl := .val (.bl b)
def vI (i : Int) : Sl := .val (.int i)
def mulOk (i j : Int) : Bool := decide (i.natAbs.log2 + j.natAbs.log2 < 1000000)
def bopS (o : Operator) (a b : D) : Option Sl := match o, a, b with
  | .Add, .int i, .int j => some (vI (i + j))
  | .Add, .str x, .str y => if x.length + y.length ≤ sizeLine then some (.val (.str (x ++ y))) else none
  | .Add, .tup xs, .tup ys => if xs.length + ys.length ≤ sizeLine then some (.val (.tup (xs ++ ys))) else none
  | .Add, .lst xs, .lst ys => if xs.length + ys.length ≤ sizeLine then some (.own (.lst (xs ++ ys))) else none
  | .Sub, .int i, .int j => some (vI (i - j))
  | .Mult, .int i, .int j => if mulOk i j then some (vI (i * j)) else none
  | .Mult, .lst xs, .int k => if -(2 ^ 63) ≤ k ∧ k < 2 ^ 63 ∧ xs.length * k.toNat ≤ sizeLine then some (.own (.lst (List.replicate k.toNat xs).flatten)) else none
  | .Mult, .tup xs, .int k => if xs ≠ [] ∧ 2 ≤ k ∧ k ≤ 1000 ∧ xs.length ≤ 1000 then some (.val (.tup (List.replicate k.toNat xs).flatten)) else none
  | .FloorDiv, .int i, .int j => if 0 < j ∧ j.natAbs.log2 < 9000 then some (vI (i / j)) else none
  | .Mod, .int i, .int j => if 0 < j then some (vI (i % j)) else none
  | .Pow, .int i, .int j => if 0 ≤ j ∧ Builtin.Int.intBits i * j ≤ 2 ^ 27 then some (vI (i ^ j.toNat)) else none
  | _, _, _ => none
/-- d[k] as a key -/
def keyD : D → Option Key
  | .int i => some (.inl i)
  | .str x => some (.inr x)
  | _ => none
/-- a dict's keys and values -/
def dictD : D → Option (List Key × List D)
  | .dk ks vs => some (ks, vs)
  | .dz ks vs => some (ks, vs)
  | _ => none
/-- k in a dict -/
def inK (a b : D) : Option Bool := match dictD b, keyD a with
  | some (ks, _), some k => some (ks.any fun j => decide (j = k))
  | _, _ => none
def cmpS (o : CmpOp) (a b : D) : Option Sl := match o with
  | .Eq => (eqD a b).map vB
  | .NotEq => (eqD a b).map fun k => vB (!k)
  | .Lt => match a, b with
    | .int i, .int j => some (vB (decide (i < j)))
    | _, _ => none
  | .LtE => match a, b with
    | .int i, .int j => some (vB (decide (i ≤ j)))
    | _, _ => none
  | .Gt => match a, b with
    | .int i, .int j => some (vB (decide (j < i)))
    | _, _ => none
  | .GtE => match a, b with
    | .int i, .int j => some (vB (decide (j ≤ i)))
    | _, _ => none
  | .Is => match b with
    | .non => some (vB (isNonD a))
    | _ => none
  | .IsNot => match b with
    | .non => some (vB (!isNonD a))
    | _ => none
  | .In => match b with
    | .lst ys => (inD a ys).map vB
    | .tup ys => if flatD a && ys.all flatD then some (vB (ys.any fun y => eqF y a)) else none
    | b => (inK a b).map vB
  | .NotIn => match b with
    | .lst ys => (inD a ys).map fun k => vB (!k)
    | .tup ys => if flatD a && ys.all flatD then some (vB (!ys.any fun y => eqF y a)) else none
    | b => (inK a b).map fun k => vB (!k)

section
variable {K : PySem.W.Frag} {H H' : Hp} {T : Addr → Prop}
/-! ### what the data say of the value -/
theorem Top.non {v S} (h : Top K H v .non S) : v = .non := by
  cases h with
  | sc h _ => cases h; rfl
theorem Top.bl {v b S} (h : Top K H v (.bl b) S) : v = .bl b := by
  cases h with
  | sc h _ => cases h; rfl
theorem Top.int {v b S} (h : Top K H v (.int b) S) : v = .int b := by
  cases h with
  | sc h _ => cases h; rfl
theorem Top.str {v b S} (h : Top K H v (.str b) S) : v = .str b := by
  cases h with
  | sc h _ => cases h; rfl
theorem Top.ty {v b S} (h : Top K H v (.ty b) S) : v = .ty b := by
  cases h with
  | sc h _ => cases h; rfl
theorem TopB.non {v} (h : TopB K H T v .non) : v = .non := let ⟨_, h, _⟩ := h; h.non
theorem TopB.bl {v b} (h : TopB K H T v (.bl b)) : v = .bl b := let ⟨_, h, _⟩ := h; h.bl
theorem TopB.int {v b} (h : TopB K H T v (.int b)) : v = .int b := let ⟨_, h, _⟩ := h; h.int
theorem TopB.str {v b} (h : TopB K H T v (.str b)) : v = .str b := let ⟨_, h, _⟩ := h; h.str
theorem TopB.ty {v b} (h : TopB K H T v (.ty b)) : v = .ty b := let ⟨_, h, _⟩ := h; h.ty
theorem TopB.tup {v ds} (h : TopB K H T v (.tup ds)) : ∃ a vs, v = .ref a ∧ SqT K H a vs ∧ RepsB K H T vs ds := by
  obtain ⟨S, h, hS⟩ := h
  cases h with
  | sc h _ => cases h with
    | tup h1 h2 => exact ⟨_, _, rfl, h1, S, h2, hS⟩
theorem TopB.lst {v ds} (h : TopB K H T v (.lst ds)) : ∃ a vs, v = .ref a ∧ H a = some (.lst vs) ∧ RepsB K H T vs ds := by
  obtain ⟨S, h, hS⟩ := h
  cases h with
  | sc h q => exact q.elim
  | lst h1 h2 => exact ⟨_, _, rfl, h1, S, h2, hS⟩
theorem TopB.dkv {v ks ds} (h : TopB K H T v (.dk ks ds)) : ∃ a vs, v = .ref a ∧ H a = some (.dK (ks.zip vs)) ∧ ks.length = vs.length ∧ RepsB K H T vs ds := by
  obtain ⟨S, h, hS⟩ := h
  cases h with
  | sc h q => exact q.elim
  | dk h1 h2 h3 => exact ⟨_, _, rfl, h1, h2, S, h3, hS⟩
theorem TopB.scr {v ns} (h : TopB K H T v (.scr ns)) : ∃ a, v = .ref a ∧ Scr K H a ns := by
  obtain ⟨S, h, hS⟩ := h
  cases h with
  | sc h _ => cases h with
    | scr h1 => exact ⟨_, rfl, h1⟩
theorem TopB.dk {v ks ds} (h : TopB K H T v (.dk ks ds)) : ∃ a vs, v = .ref a ∧ H a = some (.dK (ks.zip vs)) ∧ ks.length = vs.length ∧ RepsB K H T vs ds := by
  obtain ⟨S, h, hS⟩ := h
  cases h with
  | sc h q => exact q.elim
  | dk h1 h2 h3 => exact ⟨_, _, rfl, h1, h2, S, h3, hS⟩
theorem TopB.dt {v ks ds} (h : TopB K H T v (.dt ks ds)) : ∃ a vs, v = .ref a ∧ H a = some (.dT (ks.zip vs)) ∧ ks.length = vs.length ∧ RepsB K H T vs ds := by
  obtain ⟨S, h, hS⟩ := h
  cases h with
  | sc h q => exact q.elim
  | dt h1 h2 h3 => exact ⟨_, _, rfl, h1, h2, S, h3, hS⟩

theorem TopB.dict {v d ks ds} (h : TopB K H T v d) (e : dictD d = some (ks, ds)) : ∃ a vs, v = .ref a ∧ Rd H a (.dK (ks.zip vs)) ∧ ks.length = vs.length ∧ RepsB K H T vs ds := by
  cases d with
  | dk ks' vs' =>
    cases e
    obtain ⟨a, vs, h1, h2, h3⟩ := h.dk
    exact ⟨a, vs, h1, .inl h2, h3⟩
  | dz ks' vs' =>
    cases e
    obtain ⟨S, h, hS⟩ := h
    cases h with
    | sc h q => cases h with
      | dz h1 h2 h3 => exact ⟨_, _, rfl, .inr ⟨_, h1⟩, h2, S, h3, hS⟩
  | _ => cases e
theorem TopB.key {v d k} (h : TopB K H T v d) (e : keyD d = some k) : v = kV k := by
  cases d with
  | int i => cases e; exact h.int
  | str x => cases e; exact h.str
  | _ => cases e
/-- the value at a key, or what is there instead -/
def valZ (ks : List Key) (ds : List D) (k : Key) : Option D := ((ks.zip ds).find? fun kv => decide (kv.1 = k)).map (·.2)
theorem val_reps {k : Key} : ∀ {ks : List Key} {vs : List V} {ds : List D}, ks.length = vs.length → RepsB K H T vs ds → (∀ d, valZ ks ds k = some d → ∃ v, valV (ks.zip vs) k = some v ∧ RepB K H T v d) ∧ (valZ ks ds k = none → valV (ks.zip vs) k = none)
  | [], _, _, _, _ => ⟨fun d e => by simp [valZ] at e, fun _ => rfl⟩
  | k' :: ks, [], _, e, _ => by simp at e
  | k' :: ks, v :: vs, [], _, r => by have := r.length; simp at this
  | k' :: ks, v :: vs, d :: ds, e, r => by
    obtain ⟨r1, r2⟩ := r.uncons
    obtain ⟨ih1, ih2⟩ := val_reps (ks := ks) (vs := vs) (ds := ds) (by simpa using e) r2
    by_cases hk : k' = k
    · refine ⟨fun d' e' => ?_, fun e' => ?_⟩
      · simp [valZ, hk] at e'
        subst e'
        exact ⟨v, by rw [List.zip_cons_cons, valV_pos hk], r1⟩
      · simp [valZ, hk] at e'
    · refine ⟨fun d' e' => ?_, fun e' => ?_⟩
      · obtain ⟨w, e1, e2⟩ := ih1 d' (by simpa [valZ, hk] using e')
        exact ⟨w, by rw [List.zip_cons_cons, valV_neg hk]; exact e1, e2⟩
      · rw [List.zip_cons_cons, valV_neg hk]
        exact ih2 (by simpa [valZ, hk] using e')
theorem val_in {k : Key} : ∀ {ks : List Key} {vs : List V}, ks.length = vs.length → (valV (ks.zip vs) k).isSome = ks.any fun j => decide (j = k)
  | [], _, _ => by simp [valV]
  | k' :: ks, [], e => by simp at e
  | k' :: ks, v :: vs, e => by
    have ih := val_in (k := k) (ks := ks) (vs := vs) (by simpa using e)
    by_cases hk : k' = k
    · rw [List.zip_cons_cons, valV_pos hk]; simp [hk]
    · rw [List.zip_cons_cons, valV_neg hk, ih]
      simp [hk]
theorem dget_of {a : Addr} {kvs : List (Key × V)} {k : Key} (h : Rd H a (.dK kvs)) : DGet H a (kV k) (valV kvs k) := .inl ⟨kvs, k, h, rfl, rfl⟩
theorem pys_cons {d : D} {ds : List D} {ps : List PyData} (h : D.pys (d :: ds) = some ps) : ∃ p qs, D.py d = some p ∧ D.pys ds = some qs ∧ ps = p :: qs := by
  unfold D.pys at h
  split at h
  · rename_i p qs h1 h2
    exact ⟨p, qs, h1, h2, (Option.some.inj h).symm⟩
  · cases h
theorem dpAll_ints {K H} : ∀ ns : List Int, DpAll K H (ns.map V.int) (ns.map PyData.int)
  | [] => .nil
  | n :: ns => .cons (.int n) (dpAll_ints ns)
mutual
theorem Rep.dp {K H} : ∀ {v d S p}, Rep K H v d S → D.py d = some p → Dp K H v p
  | _, _, _, _, .non, e => by cases e; exact .non
  | _, _, _, _, .bl b, e => by cases e; exact .bl b
  | _, _, _, _, .int b, e => by cases e; exact .int b
  | _, _, _, _, .str b, e => by cases e; exact .str b
  | _, _, _, _, .ty b, e => by cases e
  | _, _, _, _, .scr h, e => by cases e; exact .lst h.sq (dpAll_ints _)
  | _, _, _, _, .tup (ds := ds) h r, e => by
    cases e1 : D.pys ds with
    | none => simp [D.py, e1] at e
    | some ps =>
      simp [D.py, e1] at e
      subst e
      exact .tup h (Reps.dp r e1)
  | _, _, _, _, .lst (ds := ds) h r, e => by
    cases e1 : D.pys ds with
    | none => simp [D.py, e1] at e
    | some ps =>
      simp [D.py, e1] at e
      subst e
      exact .lst (SqL.of h) (Reps.dp r e1)
  | _, _, _, _, .dk _ _ _, e => by cases e
  | _, _, _, _, .dt _ _ _, e => by cases e
  | _, _, _, _, .dz _ _ _, e => by cases e
  | _, _, _, _, .ptup _ _ _, e => by cases e
  | _, _, _, _, .exc _ _ _ _, e => by cases e
  | _, _, _, _, .isf _ _ _ _, e => by cases e
theorem Reps.dp {K H} : ∀ {v d S p}, Reps K H v d S → D.pys d = some p → DpAll K H v p
  | _, _, _, _, .nil, e => by cases e; exact .nil
  | _, _, _, _, .cons h r, e => by
    obtain ⟨p, qs, e1, e2, rfl⟩ := pys_cons e
    exact .cons (Rep.dp h e1) (Reps.dp r e2)
end
theorem Top.dp {v d S p} (h : Top K H v d S) (e : D.py d = some p) : Dp K H v p := by
  cases h with
  | sc h _ => exact h.dp e
  | lst h1 h2 => exact (Rep.lst h1 h2).dp e
  | dk h1 h2 h3 => cases e
  | dt h1 h2 h3 => cases e
theorem TopB.dp {v d p} (h : TopB K H T v d) (e : D.py d = some p) : Dp K H v p := let ⟨_, h, _⟩ := h; h.dp e
theorem okD_of {d p} (h : okD d = some p) : D.py d = some p ∧ SeqAt.shaped p = true := by
  unfold okD at h
  split at h
  · rename_i q e
    split at h
    · rename_i hs
      cases h
      exact ⟨e, hs⟩
    · cases h
  · cases h
end

/-- what an operation's result is to be -/
def PRes (K : PySem.W.Frag) (H H' : Hp) (T : Addr → Prop) (v : V) : Sl → Prop
  | .no => False
  | .val d => RepB K H' T v d
  | .own d => ∃ a, v = .ref a ∧ H a = none ∧ OwnB K H' (fun b => T b ∧ b ≠ a) a d
def PostP (K : PySem.W.Frag) (H : Hp) (T : Addr → Prop) (Q : VK) : Option Sl → Prop
  | some s => ∀ v H', (∀ a o, H a = some o → H' a = some o) → PRes K H H' T v s → Q v H'
  | none => False
/-- an operation of two data by the hand layer -/
def r2D (K : PySem.W.Frag) (f : D → D → Option Sl) : R2 := fun x y H Q => ∃ T a b, TopB K H T x a ∧ TopB K H T y b ∧ PostP K H T Q (f a b)
def r1D (K : PySem.W.Frag) (f : D → Option Sl) : V → Hp → VK → Prop := fun x H Q => ∃ T a, TopB K H T x a ∧ PostP K H T Q (f a)
def rnD (K : PySem.W.Frag) (f : List D → Option Sl) : List V → Hp → VK → Prop := fun xs H Q => ∃ T ds, TopsB K H T xs ds ∧ PostP K H T Q (f ds)

section
variable {K : PySem.W.Frag} {H H' : Hp} {T : Addr → Prop} {Q : VK}
theorem PostP.v {v d} (h : PostP K H T Q (some (.val d))) (r : RepB K H T v d) : Q v H := h v H (fun _ _ e => e) r
theorem PostP.newTup {p : Addr} {vs ds} (h : PostP K H T Q (some (.val (.tup ds)))) (hp : H p = none) (r : RepsB K H T vs ds) : Q (.ref p) (upd H p (.tup vs)) :=
  h _ _ (ext_upd hp) (RepB.tup (SqT.of upd_same) (r.keep (Kp.of (ext_upd hp))))
theorem PostP.newLst {p : Addr} {vs ds} (h : PostP K H T Q (some (.own (.lst ds)))) (hp : H p = none) (r : RepsB K H T vs ds) : Q (.ref p) (upd H p (.lst vs)) :=
  h _ _ (ext_upd hp) ⟨p, rfl, hp, OwnB.lst upd_same ((r.monoD fun b o e z => ⟨z, ne_of_none e hp⟩ : RepsB K H (fun b => T b ∧ b ≠ p) vs ds).keep (Kp.of (ext_upd hp)))⟩
end

section
variable {X : Cx} {k : Nat}
theorem RepsB.flat {K H T vs ds} (h : RepsB K H T vs ds) : ∀ n : Nat, RepsB K H T (List.replicate n vs).flatten (List.replicate n ds).flatten
  | 0 => .nil
  | n + 1 => by
    rw [List.replicate_succ, List.replicate_succ, List.flatten_cons, List.flatten_cons]
    exact h.append (h.flat n)
theorem bop_ok (o : Operator) : OpR X (binaryOp o) (r2D X.K (bopS o)) := by
  intro pins s σ H x y v u Q I rx ry ⟨T, a, b, ha, hb, h⟩
  unfold bopS at h
  split at h
  · -- int + int
    have ex := ha.int; have ey := hb.int; subst ex; subst ey
    exact op_add pins s σ H _ _ v u Q I rx ry ⟨_, _, rfl, rfl, h.v (.int _)⟩
  · have ex := ha.str; have ey := hb.str; subst ex; subst ey
    split at h
    · exact op_add_str pins s σ H _ _ v u Q I rx ry ⟨_, _, rfl, rfl, by assumption, h.v (.str _)⟩
    · exact h.elim
  · split at h
    · rename_i hz
      obtain ⟨p, xs, rfl, h1, r1⟩ := ha.tup
      obtain ⟨q, ys, rfl, h2, r2⟩ := hb.tup
      refine op_catA pins s σ H _ _ v u Q I rx ry ⟨p, q, xs, ys, rfl, rfl, h1, h2, by rw [r1.length, r2.length]; exact hz, fun e => ?_, fun e e2 => ?_, fun _ _ p hp => h.newTup hp (r1.append r2)⟩
      · refine h.v (.tup h2 ?_)
        have := r1.append r2
        rwa [e, List.nil_append] at this
      · refine h.v (.tup h1 ?_)
        have := r1.append r2
        rwa [e2, List.append_nil] at this
    · exact h.elim
  · split at h
    · rename_i hz
      obtain ⟨p, xs, rfl, h1, r1⟩ := ha.lst
      obtain ⟨q, ys, rfl, h2, r2⟩ := hb.lst
      exact op_cat pins s σ H _ _ v u Q I rx ry ⟨p, q, xs, ys, rfl, rfl, h1, h2, by rw [r1.length, r2.length]; exact hz, fun p hp => h.newLst hp (r1.append r2)⟩
    · exact h.elim
  · have ex := ha.int; have ey := hb.int; subst ex; subst ey
    exact op_sub pins s σ H _ _ v u Q I rx ry ⟨_, _, rfl, rfl, h.v (.int _)⟩
  · have ex := ha.int; have ey := hb.int; subst ex; subst ey
    split at h
    · rename_i hm
      exact op_mulW pins s σ H _ _ v u Q I rx ry ⟨_, _, rfl, rfl, (by have z : _ < 1000000 := of_decide_eq_true hm; exact z), h.v (.int _)⟩
    · exact h.elim
  · split at h
    · rename_i hz
      obtain ⟨p, xs, rfl, h1, r1⟩ := ha.lst
      have ey := hb.int; subst ey
      exact op_rep pins s σ H _ _ v u Q I rx ry ⟨p, _, xs, rfl, rfl, h1, hz.1, hz.2.1, by rw [r1.length]; exact hz.2.2, fun p hp => h.newLst hp (r1.flat _)⟩
    · exact h.elim
  · split at h
    · rename_i hz
      obtain ⟨p, xs, rfl, h1, r1⟩ := ha.tup
      have ey := hb.int; subst ey
      exact op_repT pins s σ H _ _ v u Q I rx ry ⟨p, _, xs, rfl, rfl, h1, fun e => hz.1 (by subst e; exact List.eq_nil_of_length_eq_zero r1.length.symm), hz.2.1, hz.2.2.1, by rw [r1.length]; exact hz.2.2.2, fun p hp => h.newTup hp (r1.flat _)⟩
    · exact h.elim
  · have ex := ha.int; have ey := hb.int; subst ex; subst ey
    split at h
    · rename_i hm
      exact op_fdivW pins s σ H _ _ v u Q I rx ry ⟨_, _, rfl, rfl, hm, h.v (.int _)⟩
    · exact h.elim
  · have ex := ha.int; have ey := hb.int; subst ex; subst ey
    split at h
    · rename_i hm
      exact op_mod pins s σ H _ _ v u Q I rx ry ⟨_, _, rfl, rfl, hm, h.v (.int _)⟩
    · exact h.elim
  · have ex := ha.int; have ey := hb.int; subst ex; subst ey
    split at h
    · rename_i hm
      obtain ⟨t, rfl⟩ := rx
      obtain ⟨t', rfl⟩ := ry
      exact PyProof.Rows.pow_int hm.1 hm.2 ⟨.int _, H, I.tok _, ⟨_, rfl⟩, h.v (.int _)⟩
    · exact h.elim
  · exact h.elim

theorem eqF_V {K H T x y a b} (hx : RepB K H T x a) (hy : RepB K H T y b) (fa : flatD a = true) (fb : flatD b = true) : eqV x y = eqF a b ∧ flatV x = true := by
  obtain ⟨S, hx, _⟩ := hx
  obtain ⟨S', hy, _⟩ := hy
  cases hx <;> simp [flatD] at fa <;> cases hy <;> simp [flatD] at fb <;> simp [eqF, eqV, flatV]
theorem in_flat {K H T y b} (hy : RepB K H T y b) (fb : flatD b = true) : ∀ {xs as}, RepsB K H T xs as → as.all flatD = true → xs.all flatV = true ∧ inV y xs = as.any fun d => eqF d b
  | [], [], _, _ => ⟨rfl, rfl⟩
  | x :: xs, a :: as, h, f => by
    obtain ⟨h1, h2⟩ := h.uncons
    simp only [List.all_cons, Bool.and_eq_true] at f
    obtain ⟨e1, e2⟩ := in_flat hy fb h2 f.2
    obtain ⟨e3, e4⟩ := eqF_V h1 hy f.1 fb
    obtain ⟨e5, e6⟩ := eqF_V hy h1 fb f.1
    refine ⟨by simp [e4, e1], ?_⟩
    show (eqV x y || inV y xs) = _
    rw [e3, e2, List.any_cons]
  | [], a :: as, h, _ => by have := h.length; simp at this
  | x :: xs, [], h, _ => by have := h.length; simp at this
theorem flatTop {K H T x a} (h : TopB K H T x a) (f : flatD a = true) : RepB K H T x a := by
  obtain ⟨S, h, hS⟩ := h
  cases h with
  | sc h _ => exact ⟨S, h, hS⟩
  | lst h1 h2 => cases f
  | dk h1 h2 h3 => cases f
  | dt h1 h2 h3 => cases f
theorem isN_dec {K H T x a} (h : TopB K H T x a) : decide (x = .non) = isNonD a := by
  obtain ⟨S, h, hS⟩ := h
  cases h with
  | sc h _ => cases h <;> rfl
  | lst h1 h2 => rfl
  | dk h1 h2 h3 => rfl
  | dt h1 h2 h3 => rfl
theorem cmp_ok (hr : Room k X.A) (o : CmpOp) : OpR X (compareOp o) (r2D X.K (cmpS o)) := by
  have hu : X.A.units + 65 < cLine := by have := hr.un; omega
  intro pins s σ H x y v u Q I rx ry ⟨T, a, b, ha, hb, h⟩
  cases o with
  | Eq =>
    simp only [cmpS, eqD] at h
    cases e1 : okD a with
    | none => rw [e1] at h; exact h.elim
    | some p => cases e2 : okD b with
      | none => rw [e1, e2] at h; exact h.elim
      | some q =>
        rw [e1, e2] at h
        exact op_eqD (by omega) pins s σ H _ _ v u Q I rx ry ⟨p, q, ha.dp (okD_of e1).1, hb.dp (okD_of e2).1, (okD_of e1).2, (okD_of e2).2, PostP.v h (.bl _)⟩
  | NotEq =>
    simp only [cmpS, eqD] at h
    cases e1 : okD a with
    | none => rw [e1] at h; exact h.elim
    | some p => cases e2 : okD b with
      | none => rw [e1, e2] at h; exact h.elim
      | some q =>
        rw [e1, e2] at h
        exact op_neD (by omega) pins s σ H _ _ v u Q I rx ry ⟨p, q, ha.dp (okD_of e1).1, hb.dp (okD_of e2).1, (okD_of e1).2, (okD_of e2).2, PostP.v h (.bl _)⟩
  | Lt =>
    simp only [cmpS] at h
    split at h
    · have ex := ha.int; have ey := hb.int; subst ex; subst ey
      exact op_lt pins s σ H _ _ v u Q I rx ry ⟨_, _, rfl, rfl, PostP.v h (.bl _)⟩
    · exact h.elim
  | LtE =>
    simp only [cmpS] at h
    split at h
    · have ex := ha.int; have ey := hb.int; subst ex; subst ey
      exact op_le pins s σ H _ _ v u Q I rx ry ⟨_, _, rfl, rfl, PostP.v h (.bl _)⟩
    · exact h.elim
  | Gt =>
    simp only [cmpS] at h
    split at h
    · have ex := ha.int; have ey := hb.int; subst ex; subst ey
      exact op_gt pins s σ H _ _ v u Q I rx ry ⟨_, _, rfl, rfl, PostP.v h (.bl _)⟩
    · exact h.elim
  | GtE =>
    simp only [cmpS] at h
    split at h
    · have ex := ha.int; have ey := hb.int; subst ex; subst ey
      exact op_ge pins s σ H _ _ v u Q I rx ry ⟨_, _, rfl, rfl, PostP.v h (.bl _)⟩
    · exact h.elim
  | Is =>
    simp only [cmpS] at h
    split at h
    · have ey := hb.non; subst ey
      exact op_isN pins s σ H _ _ v u Q I rx ry ⟨rfl, by rw [isN_dec ha]; exact PostP.v h (.bl _)⟩
    · exact h.elim
  | IsNot =>
    simp only [cmpS] at h
    split at h
    · have ey := hb.non; subst ey
      refine op_notN pins s σ H _ _ v u Q I rx ry ⟨rfl, ?_⟩
      rw [isN_dec ha]
      exact PostP.v h (.bl _)
    · exact h.elim
  | In =>
    simp only [cmpS] at h
    split at h
    · rename_i ys
      unfold inD at h
      split at h
      · rename_i p qs e1 e2
        exact op_inD hu pins s σ H _ _ v u Q I rx ry ⟨p, qs, ha.dp (okD_of e1).1, hb.dp (okD_of e2).1, (okD_of e1).2, (okD_of e2).2, PostP.v h (.bl _)⟩
      · exact h.elim
    · split at h
      · rename_i ys hf
        simp only [Bool.and_eq_true] at hf
        obtain ⟨q, vs, rfl, h2, r2⟩ := hb.tup
        obtain ⟨e1, e2⟩ := in_flat (flatTop ha hf.1) hf.1 r2 hf.2
        refine op_in_seq pins s σ H _ _ v u Q I rx ry ⟨q, vs, rfl, .inr h2, (eqF_V (flatTop ha hf.1) (flatTop ha hf.1) hf.1 hf.1).2, e1, ?_⟩
        rw [e2]
        exact PostP.v h (.bl _)
      · exact h.elim
    · cases e : inK a b with
      | none => rw [e] at h; exact h.elim
      | some q =>
        rw [e] at h
        unfold inK at e
        split at e
        · rename_i ks vs0 k e1 e2
          cases e
          obtain ⟨p, vs, rfl, h2, h3, _⟩ := hb.dict e1
          have ek := ha.key e2
          subst ek
          have g := dget_of (k := k) h2
          obtain rfl : u = Value.ref p := ry
          refine d_in (by omega) I g rx fun s' I' => ⟨.bl (valV (ks.zip vs) k).isSome, H, I', rfl, ?_⟩
          rw [val_in h3]
          exact PostP.v h (.bl _)
        · cases e
  | NotIn =>
    simp only [cmpS] at h
    split at h
    · rename_i ys
      unfold inD at h
      split at h
      · rename_i p qs e1 e2
        exact op_notInD hu pins s σ H _ _ v u Q I rx ry ⟨p, qs, ha.dp (okD_of e1).1, hb.dp (okD_of e2).1, (okD_of e1).2, (okD_of e2).2, PostP.v h (.bl _)⟩
      · exact h.elim
    · split at h
      · rename_i ys hf
        simp only [Bool.and_eq_true] at hf
        obtain ⟨q, vs, rfl, h2, r2⟩ := hb.tup
        obtain ⟨e1, e2⟩ := in_flat (flatTop ha hf.1) hf.1 r2 hf.2
        refine op_notIn_seq pins s σ H _ _ v u Q I rx ry ⟨q, vs, rfl, .inr h2, (eqF_V (flatTop ha hf.1) (flatTop ha hf.1) hf.1 hf.1).2, e1, ?_⟩
        rw [e2]
        exact PostP.v h (.bl _)
      · exact h.elim
    · cases e : inK a b with
      | none => rw [e] at h; exact h.elim
      | some q =>
        rw [e] at h
        unfold inK at e
        split at e
        · rename_i ks vs0 k e1 e2
          cases e
          obtain ⟨p, vs, rfl, h2, h3, _⟩ := hb.dict e1
          have ek := ha.key e2
          subst ek
          have g := dget_of (k := k) h2
          obtain rfl : u = Value.ref p := ry
          refine d_notIn (by omega) I g rx fun s' I' => ⟨.bl (!(valV (ks.zip vs) k).isSome), H, I', rfl, ?_⟩
          rw [val_in h3]
          exact PostP.v h (.bl _)
        · cases e
end
end Lw
end

section
set_option Elab.async false
set_option linter.all false
set_option maxRecDepth 100000
set_option maxHeartbeats 4000000
/-! L4: built-in functions and classes upon data -/
namespace Lw
open PySem L2 PyProof.Rows
variable [TabInfo]

def intsOf : List D → Option (List Int)
  | [] => some []
  | .int i :: r => (intsOf r).map (i :: ·)
  | _ :: _ => none
def blsOf : List D → Option (List Bool)
  | [] => some []
  | .bl i :: r => (blsOf r).map (i :: ·)
  | _ :: _ => none
def keyPy : Key → PyData
  | .inl i => .int i
  | .inr x => .str x
mutual
/-- as the library's data, dicts too -/
def D.pd : D → Option PyData
  | .non => some .none
  | .bl b => some (.bool b)
  | .int i => some (.int i)
  | .str x => some (.str x)
  | .tup xs => (D.pds xs).map .tuple
  | .ptup xs => (D.pds xs).map .tuple
  | .lst xs => (D.pds xs).map .list
  | .scr ns => some (.list (ns.map .int))
  | .dk ks vs => (D.pds vs).map fun ps => .dict ((ks.map keyPy).zip ps)
  | _ => none
def D.pds : List D → Option (List PyData)
  | [] => some []
  | d :: ds => match D.pd d, D.pds ds with
    | some p, some ps => some (p :: ps)
    | _, _ => none
end
mutual
def D.noLst : D → Bool
  | .lst _ => false
  | .scr _ => false
  | .tup xs => D.noLsts xs
  | .ptup xs => D.noLsts xs
  | .dk _ vs => D.noLsts vs
  | _ => true
def D.noLsts : List D → Bool
  | [] => true
  | d :: ds => D.noLst d && D.noLsts ds
end
/-- repr -/
def reprD (d : D) : Option Str := match d.pd with
  | some p => if p.showable && (!p.hasDict || d.noLst) && decide (p.depth ≤ 60) && decide (p.shown.length ≤ sizeLine) then some p.shown else none
  | none => none
def tyD : D → Option String
  | .non => some "NoneType"
  | .bl _ => some "bool"
  | .int _ => some "int"
  | .str _ => some "str"
  | .tup _ => some "tuple"
  | .lst _ => some "list"
  | .dk _ _ => some "dict"
  | .dt _ _ => some "dict"
  | _ => none
def isiTys : List String := ["NoneType", "bool", "int", "str", "tuple", "list", "dict"]
def isiS (t n : String) : Bool := t == n || (t == "bool" && n == "int")
theorem isi_all : ∀ t ∈ isiTys, ∀ n ∈ isiTys, n ≠ "NoneType" → kitB t n = some (isiS t n) := by decide +kernel
def isiD (d : D) (n : String) : Option Bool := match tyD d with
  | some t => if isiTys.contains n && n != "NoneType" then some (isiS t n) else none
  | none => none
def lenD : D → Option Nat
  | .str x => if x.length ≤ sizeLine then some x.length else none
  | .tup xs => some xs.length
  | .lst xs => some xs.length
  | .scr ns => some ns.length
  | .dk ks _ => some ks.length
  | _ => none
def maxL : List Int → Int
  | [] => 0
  | [a] => a
  | a :: r => max a (maxL r)
def minL : List Int → Int
  | [] => 0
  | [a] => a
  | a :: r => min a (minL r)
/-- the order of alike data -/
def leD (a b : D × PyData) : Bool := PySem.W.dataLe false (fun x : D × PyData => x.2) a b
def sortableB (ps : List PyData) : Bool := (ps.all fun p => match p with | .tuple (_ :: _) => true | _ => false) || (ps.all fun p => match p with | .none => false | .tuple _ => false | _ => true)
def alikeB (ps : List PyData) : Bool := ps.all fun p => ps.all fun q => PySem.W.alike p q
/-- sorted(xs) -/
def sortD (xs : List D) : Option (List D) := match D.pys xs with
  | some ps => if sortableB ps && alikeB ps && ps.all (fun p => decide (p.depth ≤ 60)) then some (((xs.zip ps).mergeSort leD).map (·.1)) else none
  | none => none

/-- keys that are ints -/
def keyInts : List Key → Option (List Int)
  | [] => some []
  | .inl i :: r => (keyInts r).map (i :: ·)
  | .inr _ :: _ => none
def sortI (ns : List Int) : List Int := ns.mergeSort fun a b => decide (a ≤ b)
theorem keyInts_map : ∀ {ks : List Key} {ns : List Int}, keyInts ks = some ns → ks = ns.map Sum.inl
  | [], _, e => by cases e; rfl
  | .inl i :: r, ns, e => by
    unfold keyInts at e
    cases h : keyInts r with
    | none => rw [h] at e; cases e
    | some l =>
      rw [h] at e; cases e
      rw [keyInts_map h]; rfl
  | .inr _ :: _, _, e => by cases e
theorem sortI_pairwise (ns : List Int) : (sortI ns).Pairwise (· ≤ ·) := by
  have := List.pairwise_mergeSort (le := fun a b : Int => decide (a ≤ b)) (fun a b c h1 h2 => by simp only [decide_eq_true_eq] at *; omega) (fun a b => by simp only [Bool.or_eq_true, decide_eq_true_eq]; omega) ns
  exact this.imp fun h => of_decide_eq_true h
theorem sortI_perm (ns : List Int) : (sortI ns).Perm ns := List.mergeSort_perm _ _
theorem sortI_uniq {ns ys : List Int} (hp : ys.Perm ns) (hs : ys.Pairwise (· ≤ ·)) : ys = sortI ns :=
  (hp.trans (sortI_perm ns).symm).eq_of_pairwise (fun a b _ _ h1 h2 => Int.le_antisymm h1 h2) hs (sortI_pairwise ns)
/-- built-in functions -/
inductive Bi where
  | len | abs | max | min | sum | all | any | sorted | repr | isinstance
  deriving DecidableEq
def Bi.id : Bi → String
  | .len => "len" | .abs => "abs" | .max => "max" | .min => "min" | .sum => "sum" | .all => "all" | .any => "any" | .sorted => "sorted" | .repr => "repr" | .isinstance => "isinstance"
/-- built-in classes that are called -/
inductive Bt where
  | int | str | list | tuple
  deriving DecidableEq
def Bt.id : Bt → String
  | .int => "int" | .str => "str" | .list => "list" | .tuple => "tuple"
def biS (b : Bi) (ds : List D) : Option Sl := match b, ds with
  | .len, [d] => (lenD d).map fun n => vI n
  | .abs, [.int i] => some (vI (if i < 0 then -i else i))
  | .max, [.int i, .int j] => some (vI (if j > i then j else i))
  | .min, [.int i, .int j] => some (vI (if j < i then j else i))
  | .max, [.lst xs] => match intsOf xs with
    | some (i :: r) => some (vI (maxL (i :: r)))
    | _ => none
  | .min, [.lst xs] => match intsOf xs with
    | some (i :: r) => some (vI (minL (i :: r)))
    | _ => none
  | .sum, [.lst xs] => (intsOf xs).map fun ns => vI ns.sum
  | .sum, [.tup xs] => (intsOf xs).map fun ns => vI ns.sum
  | .all, [.lst xs] => (blsOf xs).map fun bs => vB (bs.all id)
  | .any, [.lst xs] => (blsOf xs).map fun bs => vB (bs.any id)
  | .sorted, [.lst xs] => (sortD xs).map fun ys => .own (.lst ys)
  | .sorted, [.dk ks _] => match keyInts ks with
    | some ns => if ns.length < 64 then some (.own (.lst ((sortI ns).map .int))) else none
    | none => none
  | .repr, [d] => (reprD d).map fun x => .val (.str x)
  | .isinstance, [d, .ty n] => (isiD d n).map vB
  | _, _ => none
def tyS (T : Bt) (ds : List D) : Option Sl := match T, ds with
  | .int, [.int i] => some (vI i)
  | .int, [.bl b] => some (vI (if b then 1 else 0))
  | .str, [.int i] => if i.natAbs.log2 < 1920 then some (.val (.str (toString i))) else none
  | .list, [.lst xs] => some (.own (.lst xs))
  | .list, [.tup xs] => some (.own (.lst xs))
  | .tuple, [.lst xs] => some (.val (.tup xs))
  | .tuple, [.tup xs] => some (.val (.tup xs))
  | _, _ => none

section
variable {K : PySem.W.Frag} {H : Hp} {T : Addr → Prop}
theorem intsOf_map : ∀ ns : List Int, intsOf (ns.map .int) = some ns
  | [] => rfl
  | n :: ns => by simp [intsOf, intsOf_map ns]
theorem blsOf_map : ∀ ns : List Bool, blsOf (ns.map .bl) = some ns
  | [] => rfl
  | n :: ns => by simp [blsOf, blsOf_map ns]
theorem RepB.int_v {v i} (h : RepB K H T v (.int i)) : v = .int i := by
  obtain ⟨S, h, _⟩ := h
  cases h; rfl
theorem RepB.bl_v {v i} (h : RepB K H T v (.bl i)) : v = .bl i := by
  obtain ⟨S, h, _⟩ := h
  cases h; rfl
theorem ints_v : ∀ {xs : List D} {vs ns}, RepsB K H T vs xs → intsOf xs = some ns → vs = ns.map V.int
  | [], [], _, _, e => by cases e; rfl
  | .int i :: xs, v :: vs, ns, h, e => by
    obtain ⟨h1, h2⟩ := h.uncons
    cases e1 : intsOf xs with
    | none => simp [intsOf, e1] at e
    | some ms =>
      simp [intsOf, e1] at e
      subst e
      rw [h1.int_v, ints_v h2 e1]; rfl
  | d :: xs, [], _, h, _ => by have := h.length; simp at this
  | [], v :: vs, _, h, _ => by have := h.length; simp at this
  | .non :: xs, _ :: _, _, _, e => by cases e
  | .bl _ :: xs, _ :: _, _, _, e => by cases e
  | .str _ :: xs, _ :: _, _, _, e => by cases e
  | .ty _ :: xs, _ :: _, _, _, e => by cases e
  | .tup _ :: xs, _ :: _, _, _, e => by cases e
  | .lst _ :: xs, _ :: _, _, _, e => by cases e
  | .scr _ :: xs, _ :: _, _, _, e => by cases e
  | .dk _ _ :: xs, _ :: _, _, _, e => by cases e
  | .dt _ _ :: xs, _ :: _, _, _, e => by cases e
  | .dz _ _ :: xs, _ :: _, _, _, e => by cases e
  | .ptup _ :: xs, _ :: _, _, _, e => by cases e
  | .exc _ _ :: xs, _ :: _, _, _, e => by cases e
  | .isf _ :: xs, _ :: _, _, _, e => by cases e
theorem bls_v : ∀ {xs : List D} {vs ns}, RepsB K H T vs xs → blsOf xs = some ns → vs = ns.map V.bl
  | [], [], _, _, e => by cases e; rfl
  | .bl i :: xs, v :: vs, ns, h, e => by
    obtain ⟨h1, h2⟩ := h.uncons
    cases e1 : blsOf xs with
    | none => simp [blsOf, e1] at e
    | some ms =>
      simp [blsOf, e1] at e
      subst e
      rw [h1.bl_v, bls_v h2 e1]; rfl
  | d :: xs, [], _, h, _ => by have := h.length; simp at this
  | [], v :: vs, _, h, _ => by have := h.length; simp at this
  | .non :: xs, _ :: _, _, _, e => by cases e
  | .int _ :: xs, _ :: _, _, _, e => by cases e
  | .str _ :: xs, _ :: _, _, _, e => by cases e
  | .ty _ :: xs, _ :: _, _, _, e => by cases e
  | .tup _ :: xs, _ :: _, _, _, e => by cases e
  | .lst _ :: xs, _ :: _, _, _, e => by cases e
  | .scr _ :: xs, _ :: _, _, _, e => by cases e
  | .dk _ _ :: xs, _ :: _, _, _, e => by cases e
  | .dt _ _ :: xs, _ :: _, _, _, e => by cases e
  | .dz _ _ :: xs, _ :: _, _, _, e => by cases e
  | .ptup _ :: xs, _ :: _, _, _, e => by cases e
  | .exc _ _ :: xs, _ :: _, _, _, e => by cases e
  | .isf _ :: xs, _ :: _, _, _, e => by cases e
theorem maxL_mem : ∀ (a : Int) (r : List Int), maxL (a :: r) ∈ a :: r ∧ ∀ y ∈ a :: r, y ≤ maxL (a :: r)
  | a, [] => by simp [maxL]
  | a, b :: r => by
    obtain ⟨h1, h2⟩ := maxL_mem b r
    have e : maxL (a :: b :: r) = max a (maxL (b :: r)) := rfl
    rw [e]
    constructor
    · by_cases h : a ≤ maxL (b :: r)
      · rw [Int.max_eq_right h]; exact List.mem_cons_of_mem _ h1
      · rw [Int.max_eq_left (by omega)]; exact List.mem_cons_self ..
    · intro y hy
      rcases List.mem_cons.mp hy with rfl | hy
      · omega
      · have := h2 y hy; omega
theorem minL_mem : ∀ (a : Int) (r : List Int), minL (a :: r) ∈ a :: r ∧ ∀ y ∈ a :: r, minL (a :: r) ≤ y
  | a, [] => by simp [minL]
  | a, b :: r => by
    obtain ⟨h1, h2⟩ := minL_mem b r
    have e : minL (a :: b :: r) = min a (minL (b :: r)) := rfl
    rw [e]
    constructor
    · by_cases h : a ≤ minL (b :: r)
      · rw [Int.min_eq_left h]; exact List.mem_cons_self ..
      · rw [Int.min_eq_right (by omega)]; exact List.mem_cons_of_mem _ h1
    · intro y hy
      rcases List.mem_cons.mp hy with rfl | hy
      · omega
      · have := h2 y hy; omega
theorem TopsB.one {vs d} (h : TopsB K H T vs [d]) : ∃ v, vs = [v] ∧ TopB K H T v d := by
  cases h with
  | cons h r => cases r; exact ⟨_, rfl, h⟩
theorem TopsB.two {vs d e} (h : TopsB K H T vs [d, e]) : ∃ v w, vs = [v, w] ∧ TopB K H T v d ∧ TopB K H T w e := by
  cases h with
  | cons h r => cases r with
    | cons h' r => cases r; exact ⟨_, _, rfl, h, h'⟩
theorem sum_tup_raw {prog : Program} {w : World} {A : Around} {E : Value → Shared → Prop} {s : Shared} {l : Addr} {its : List Value} {ns : List Int} {Q : Value → Shared → Prop} (hh : A.handled = none) (hl : s.heap.IsTuple l its.toArray) (hi : IntsAre its ns)
    (h : ∀ h' tk t', (∀ b o, s.heap.get? b = some o → h'.get? b = some o) → Q (.int ns.sum t') { s with heap := h', toks := tk }) : wpAny (model prog w) A (call (.builtin "sum") [.ref l]) Q E s := by
  obtain ⟨xs, e⟩ := hi.allInts.items
  have hn : numsOf (intItems xs).toList = ns := by rw [← e]; exact hi.numsOf
  rw [nums_intItems] at hn
  rw [e] at hl
  have hlt : l < s.heap.objs.size := by obtain ⟨_, q, _⟩ := hl; exact Heap.lt_size q
  refine call_sum_walkG (wpAny_pyIter_tuple hl ?_)
  refine ⟨_, _, _, _, _, _, numAt xs, rfl, Walks.tuple (A := A.in1) hh s.heap.objs.size l (Nat.ne_of_lt hlt) (intItems xs), ⟨⟨_, Heap.get?_push_size _ rfl, rfl, rfl⟩, ?_⟩, fun b hb => ?_, (fun _ _ => intItems_at), fun h' tk t' hk => ?_⟩
  · obtain ⟨o, q, r⟩ := hl
    exact ⟨o, Heap.get?_push_of_some _ q, r⟩
  · show b < (s.heap.push _).objs.size
    rw [Heap.size_push]
    rcases List.mem_cons.mp hb with rfl | hb
    · exact Nat.lt_succ_self _
    · rcases List.mem_cons.mp hb with rfl | hb
      · exact Nat.lt_succ_of_lt hlt
      · cases hb
  · have := h h' tk t' fun b o q => hk b o (fun hm => by
      have e2 : b = s.heap.objs.size := by simpa using hm
      rw [e2] at q
      exact Nat.lt_irrefl _ (Heap.lt_size q)) (Heap.get?_push_of_some _ q)
    rw [preSum_eq, List.take_of_length_le (by simp [intItems]), hn]
    exact this
end

section
variable {X : Cx} {k : Nat}
theorem tyD_x {K H T v d t} (h : TopB K H T v d) (e : tyD d = some t) : TyX K H v (.type t) := by
  cases d with
  | non => cases e; have := h.non; subst this; exact .base .non
  | bl b => cases e; have := h.bl; subst this; exact .base (.bl b)
  | int b => cases e; have := h.int; subst this; exact .base (.int b)
  | str b => cases e; have := h.str; subst this; exact .base (.str b)
  | ty n => cases e
  | tup ds =>
    cases e
    obtain ⟨a, vs, rfl, hs, _⟩ := h.tup
    rcases hs with (hs | ⟨o, hs⟩) | ⟨o, its, n, hk, hc, _⟩
    · exact .base (.tup hs)
    · exact .fTuple hs
    · exact .kTuple hk hc
  | lst ds =>
    cases e
    obtain ⟨a, vs, rfl, hs, _⟩ := h.lst
    exact .base (.lst hs)
  | scr ns => cases e
  | dk ks vs =>
    cases e
    obtain ⟨a, ws, rfl, hs, _⟩ := h.dk
    exact .base (.dK hs)
  | dt ks vs =>
    cases e
    obtain ⟨a, ws, rfl, hs, _⟩ := h.dt
    exact .base (.dT hs)
  | exc C x => cases e
  | isf C => cases e
  | dz ks vs => cases e
  | ptup xs => cases e
theorem tyD_mem {d t} (e : tyD d = some t) : t ∈ isiTys := by
  cases d <;> cases e <;> decide
theorem lenD_v {K H T v d n} (h : TopB K H T v d) (e : lenD d = some n) : (∃ z, v = .str z ∧ z.length ≤ sizeLine ∧ n = z.length) ∨ (∃ p ys, v = .ref p ∧ (SqL K H p ys ∨ SqT K H p ys) ∧ n = ys.length) ∨ ∃ (p : Addr) (kvs : List (Key × V)), v = .ref p ∧ H p = some (.dK kvs) ∧ n = kvs.length := by
  cases d with
  | str x =>
    simp only [lenD] at e
    split at e
    · cases e; exact .inl ⟨x, h.str, by assumption, rfl⟩
    · cases e
  | tup ds => cases e; obtain ⟨a, vs, rfl, hs, r⟩ := h.tup; exact .inr (.inl ⟨a, vs, rfl, .inr hs, r.length.symm⟩)
  | lst ds => cases e; obtain ⟨a, vs, rfl, hs, r⟩ := h.lst; exact .inr (.inl ⟨a, vs, rfl, .inl (SqL.of hs), r.length.symm⟩)
  | scr ns => cases e; obtain ⟨a, rfl, hs⟩ := h.scr; exact .inr (.inl ⟨a, _, rfl, .inl hs.sq, by simp⟩)
  | dk ks vs => cases e; obtain ⟨a, ws, rfl, hs, hl, _⟩ := h.dk; exact .inr (.inr ⟨a, _, rfl, hs, by rw [List.length_zip]; omega⟩)
  | _ => cases e

/-! ### repr -/
theorem pds_cons {d : D} {ds : List D} {ps : List PyData} (h : D.pds (d :: ds) = some ps) : ∃ p qs, D.pd d = some p ∧ D.pds ds = some qs ∧ ps = p :: qs := by
  unfold D.pds at h
  split at h
  · rename_i p qs h1 h2
    exact ⟨p, qs, h1, h2, (Option.some.inj h).symm⟩
  · cases h
theorem readsAll_ints {h : Heap} : ∀ {ns : List Int} {us : List Value}, Vals (ns.map V.int) us → ∃ as, ReadsAll h us (ns.map .int) as ∧ as = []
  | [], _, .nil => ⟨[], .nil, rfl⟩
  | n :: ns, _, .cons r rs => by
    obtain ⟨t, rfl⟩ := r
    obtain ⟨as, h1, rfl⟩ := readsAll_ints rs
    exact ⟨_, .cons (.int n t) h1, rfl⟩
theorem dictReads {prog : Program} {w : World} {h : Heap} : ∀ {es : List DictEntry} {kvs : List (Key × Value)}, Pairs (mixKind prog w) es kvs → ReadsAll h (es.map (·.key)) (kvs.map fun p => keyPy p.1) [] ∧ es.map (·.val) = kvs.map (·.2)
  | _, _, .nil => ⟨.nil, rfl⟩
  | _, _, .cons (kv := (k, v)) h1 h2 r => by
    obtain ⟨q1, q2⟩ := dictReads (h := h) r
    refine ⟨?_, by simp only [List.map_cons]; rw [h2, q2]⟩
    rcases keyIs_shape (show keyIs k _ = true from h1) with ⟨i, t, rfl, e⟩ | ⟨x, t, rfl, e⟩
    · simp only [List.map_cons]; rw [e]; exact ReadsAll.cons (as := []) (.int i t) q1
    · simp only [List.map_cons]; rw [e]; exact ReadsAll.cons (as := []) (.str x t) q1
theorem kv_split : ∀ {ks : List Key} {vs : List V} {kvs : List (Key × Value)}, ks.length = vs.length → KV (ks.zip vs) kvs → kvs.map (·.1) = ks ∧ Vals vs (kvs.map (·.2))
  | [], [], _, _, .nil => ⟨rfl, .nil⟩
  | k :: ks, v :: vs, _, h, .cons ⟨e, r⟩ t => by
    obtain ⟨q1, q2⟩ := kv_split (by simpa using h) t
    exact ⟨by simp only [List.map_cons]; rw [q1, ← e], .cons r q2⟩
  | [], v :: vs, _, h, _ => by simp at h
  | k :: ks, [], _, h, _ => by simp at h
theorem zip_key (ks : List Key) (ps : List PyData) (h : ks.length = ps.length) : ((ks.map keyPy).zip ps).map (·.1) = ks.map keyPy ∧ ((ks.map keyPy).zip ps).map (·.2) = ps := by
  constructor
  · rw [List.map_fst_zip]; simp [h]
  · rw [List.map_snd_zip]; simp [h]
theorem pds_length : ∀ {ds : List D} {ps}, D.pds ds = some ps → ds.length = ps.length
  | [], _, e => by cases e; rfl
  | d :: ds, _, e => by
    obtain ⟨p, qs, _, e2, rfl⟩ := pds_cons e
    simp [pds_length e2]
section
variable {pins : List (Addr × Obj)} {σ : L2.St} {H : Hp} {s : Shared}
mutual
theorem Rep.rd (I : Inv X pins σ H s) : ∀ {v d S p u}, Rep X.K H v d S → RelV v u → D.pd d = some p → ∃ as, Reads s.heap u p as ∧ (d.noLst = true → sysModules ∉ as)
  | _, _, _, _, _, .non, r, e => by cases e; cases r; exact ⟨_, .none, fun _ => by simp⟩
  | _, _, _, _, _, .bl b, r, e => by cases e; cases r; exact ⟨_, .bool b, fun _ => by simp⟩
  | _, _, _, _, _, .int b, r, e => by cases e; obtain ⟨t, rfl⟩ := r; exact ⟨_, .int b t, fun _ => by simp⟩
  | _, _, _, _, _, .str b, r, e => by cases e; obtain ⟨t, rfl⟩ := r; exact ⟨_, .str b t, fun _ => by simp⟩
  | _, _, _, _, _, .ty b, r, e => by cases e
  | _, _, _, _, _, .scr h, r, e => by
    cases e
    cases r
    obtain ⟨its, rv, ⟨o, n, ho, hc, _, hd⟩, _⟩ := I.list h.sq
    obtain ⟨as, q, _⟩ := readsAll_ints (h := s.heap) rv
    exact ⟨_, .list ho hc hd q, fun z => by cases z⟩
  | _, _, _, _, _, .tup (ds := ds) h hr, r, e => by
    cases e1 : D.pds ds with
    | none => simp [D.pd, e1] at e
    | some ps =>
      simp [D.pd, e1] at e
      subst e
      cases r
      obtain ⟨its, rv, ⟨o, ho, hc, n, hd⟩, _⟩ := I.tuple h
      obtain ⟨as, q, hs⟩ := Reps.rd I hr rv e1
      exact ⟨_, .tuple ho hc hd q, fun z => hs (by simpa [D.noLst] using z)⟩
  | _, _, _, _, _, .lst (ds := ds) h hr, r, e => by
    cases e1 : D.pds ds with
    | none => simp [D.pd, e1] at e
    | some ps =>
      simp [D.pd, e1] at e
      subst e
      cases r
      obtain ⟨its, rv, ⟨o, n, ho, hc, _, hd⟩, _⟩ := I.list (SqL.of h)
      obtain ⟨as, q, hs⟩ := Reps.rd I hr rv e1
      exact ⟨_, .list ho hc hd q, fun z => by cases z⟩
  | _, _, _, _, _, .dk (a := a) (ks := ks) (vs := vs) (ds := ds) h hl hr, r, e => by
    cases e1 : D.pds ds with
    | none => simp [D.pd, e1] at e
    | some ps =>
      simp [D.pd, e1] at e
      subst e
      cases r
      obtain ⟨z, y, kvs, kv, o, es, ep, ho, ex, hd, hk, hp, hnd⟩ := I.hok a _ h
      obtain ⟨k1, k2⟩ := kv_split hl kv
      obtain ⟨as, q, hs⟩ := Reps.rd I hr k2 e1
      obtain ⟨p1, p2⟩ := dictReads (h := s.heap) hp
      have hlen : ks.length = ps.length := by rw [hl, hr.length, pds_length e1]
      obtain ⟨z1, z2⟩ := zip_key ks ps hlen
      refine ⟨_, .dict (kvs := (ks.map keyPy).zip ps) (as := []) (bs := as) ho ex.1 hd ?_ ?_, fun zz => ?_⟩
      · rw [z1, ← k1, List.map_map]
        exact p1
      · rw [z2, p2]; exact q
      · have h1 := hs (by simpa [D.noLst] using zz)
        intro hm
        rcases List.mem_cons.mp (by simpa using hm) with q1 | q1
        · rw [← q1] at y; simp at y
        · exact h1 (by simpa using q1)
  | _, _, _, _, _, .dt _ _ _, _, e => by cases e
  | _, _, _, _, _, .ptup (ds := ds) h hd0 hr, r, e => by
    cases e1 : D.pds ds with
    | none => simp [D.pd, e1] at e
    | some ps =>
      simp [D.pd, e1] at e
      subst e
      cases r
      obtain ⟨its, rv, ⟨o, ho, hc, n, hd⟩, _⟩ := I.tuple (.inl (.inr ⟨_, h⟩))
      obtain ⟨as, q, hs⟩ := Reps.rd I hr rv e1
      exact ⟨_, .tuple ho hc hd q, fun z => hs (by simpa [D.noLst] using z)⟩
  | _, _, _, _, _, .dz _ _ _, _, e => by cases e
  | _, _, _, _, _, .exc _ _ _ _, _, e => by cases e
  | _, _, _, _, _, .isf _ _ _ _, _, e => by cases e
theorem Reps.rd (I : Inv X pins σ H s) : ∀ {v d S p u}, Reps X.K H v d S → Vals v u → D.pds d = some p → ∃ as, ReadsAll s.heap u p as ∧ (D.noLsts d = true → sysModules ∉ as)
  | _, _, _, _, _, .nil, r, e => by cases e; cases r; exact ⟨_, .nil, fun _ => by simp⟩
  | _, _, _, _, _, .cons h hr, r, e => by
    obtain ⟨p, qs, e1, e2, rfl⟩ := pds_cons e
    cases r with
    | cons r1 r2 =>
      obtain ⟨as, q1, n1⟩ := Rep.rd I h r1 e1
      obtain ⟨bs, q2, n2⟩ := Reps.rd I hr r2 e2
      refine ⟨_, .cons q1 q2, fun z => ?_⟩
      simp only [D.noLsts, Bool.and_eq_true] at z
      intro hm
      exact (List.mem_append.mp hm).elim (n1 z.1) (n2 z.2)
end
theorem Top.full {K H v d S} (h : Top K H v d S) : ∃ S', Rep K H v d S' := by
  cases h with
  | sc h _ => exact ⟨_, h⟩
  | lst h1 h2 => exact ⟨_, .lst h1 h2⟩
  | dk h1 h2 h3 => exact ⟨_, .dk h1 h2 h3⟩
  | dt h1 h2 h3 => exact ⟨_, .dt h1 h2 h3⟩
end
theorem repr_ok (hr : Room k X.A) (hg : X.A.guards = some []) {pins : List (Addr × Obj)} {s : Shared} {σ : L2.St} {H : Hp} {v : V} {u : Value} {d : D} {x : Str} {T : Addr → Prop} {Q : VK} (I : Inv X pins σ H s) (r : RelV v u) (h : TopB X.K H T v d) (e : reprD d = some x)
    (q : Q (.str x) H) : wpAny (model X.prog X.w) X.A (call (.builtin "repr") [u]) (EP X pins σ Q) X.xe s := by
  have hu : X.A.units + 65 < cLine := by have := hr.un; omega
  unfold reprD at e
  split at e
  case h_2 => cases e
  rename_i p ep
  split at e
  case isFalse => cases e
  rename_i hc
  cases e
  simp only [Bool.and_eq_true, Bool.or_eq_true, Bool.not_eq_true', decide_eq_true_eq] at hc
  obtain ⟨⟨⟨c1, c2⟩, c3⟩, c4⟩ := hc
  obtain ⟨S, ht, hS⟩ := h
  obtain ⟨S', hrp⟩ := ht.full
  obtain ⟨as, rd, hn⟩ := hrp.rd I r ep
  have fin : ∀ h' (t : Tok) tk, (∀ b o, s.heap.get? b = some o → h'.get? b = some o) → EP X pins σ Q (.str p.shown t) { s with heap := h', toks := tk } := fun h' t tk hk => ⟨.str p.shown, H, I.kept hk, ⟨_, rfl⟩, q⟩
  have fin0 : EP X pins σ Q (.str p.shown s.toks) { s with toks := s.toks + 1 } := fin s.heap _ _ fun _ _ z => z
  cases rd with
  | none => exact PySem.P.repr_of_none (by simpa [PyData.shown] using fin0)
  | bool b => exact PySem.P.repr_of_bool (by simpa [PyData.shown] using fin0)
  | int i t => exact PySem.P.repr_of_int (by simpa [PyData.showable] using c1) (by simpa [PyData.shown] using fin0)
  | str x t => exact PySem.P.repr_of_str (by simpa [PyData.shown] using fin0) (by simpa [PyData.shown] using c4)
  | list h1 h2 h3 h4 => exact repr_of_reads' (.list h1 h2 h3 h4) c1 (fun z => hn (c2.resolve_left (by rw [z]; simp))) hg (by omega) (fun _ _ z => z) fin c4
  | tuple h1 h2 h3 h4 => exact repr_of_reads' (.tuple h1 h2 h3 h4) c1 (fun z => hn (c2.resolve_left (by rw [z]; simp))) hg (by omega) (fun _ _ z => z) fin c4
  | dict h1 h2 h3 h4 h5 => exact repr_of_reads' (.dict h1 h2 h3 h4 h5) c1 (fun z => hn (c2.resolve_left (by rw [z]; simp))) hg (by omega) (fun _ _ z => z) fin c4

/-! ### sorted -/
theorem sort_ok (hr : Room k X.A) {pins : List (Addr × Obj)} {s : Shared} {σ : L2.St} {H : Hp} {a : Addr} {vs : List V} {xs ys : List D} {T : Addr → Prop} {Q : VK} (I : Inv X pins σ H s) (ha : H a = some (.lst vs)) (h : RepsB X.K H T vs xs) (e : sortD xs = some ys)
    (q : ∀ p zs, H p = none → RepsB X.K H T zs ys → Q (.ref p) (upd H p (.lst zs))) : wpAny (model X.prog X.w) X.A (call (.builtin "sorted") [.ref a]) (EP X pins σ Q) X.xe s := by
  have hu : X.A.units + 65 < cLine := by have := hr.un; omega
  unfold sortD at e
  split at e
  case h_2 => cases e
  rename_i ps eps
  split at e
  case isFalse => cases e
  rename_i hc
  cases e
  simp only [Bool.and_eq_true] at hc
  obtain ⟨⟨c1, c2⟩, c3⟩ := hc
  obtain ⟨its, rv, hl, hz⟩ := I.list (SqL.of ha)
  -- the items, with their values and data
  have pack : ∀ {vs : List V} {xs : List D} {ps : List PyData} {its : List Value}, RepsB X.K H T vs xs → D.pys xs = some ps → Vals vs its → ∃ bs : List (V × D × PyData), bs.map (·.2) = xs.zip ps ∧ bs.map (·.2.2) = ps ∧ bs.length = its.length ∧
      PySem.W.EachIs (fun u b => RelV b.1 u) its bs ∧ PySem.W.EachIs (fun u (b : V × D × PyData) => ∃ as, Reads s.heap u b.2.2 as) its bs ∧ ∀ b ∈ bs, RepB X.K H T b.1 b.2.1 := by
    intro vs xs ps its h e rv
    induction xs generalizing vs ps its with
    | nil =>
      cases e
      cases vs with
      | nil => cases rv; exact ⟨[], rfl, rfl, rfl, .nil, .nil, fun _ z => nomatch z⟩
      | cons v vs => have := h.length; simp at this
    | cons x xs ih =>
      obtain ⟨p, qs, e1, e2, rfl⟩ := pys_cons e
      cases vs with
      | nil => have := h.length; simp at this
      | cons v vs =>
        obtain ⟨h1, h2⟩ := h.uncons
        cases rv with
        | cons r1 r2 =>
          obtain ⟨bs, b1, b1', b2, b3, b4, b5⟩ := ih h2 e2 r2
          obtain ⟨S, hrp, hS⟩ := id h1
          obtain ⟨as, rd⟩ := Dp.reads I p v _ (hrp.dp e1) r1
          exact ⟨(v, x, p) :: bs, by simp [b1], by simp [b1'], by simp [b2], .cons r1 b3, .cons ⟨as, rd⟩ b4, fun b hb => (List.mem_cons.mp hb).elim (fun z => by rw [z]; exact h1) (b5 b)⟩
  obtain ⟨bs, b1, b1', b2, b3, b4, b5⟩ := pack h eps rv
  refine PySem.W.sorted_data (enc := fun b : V × D × PyData => b.2.2) hl.isList b3 b4 ?_ ?_ (by rw [b2, ← rv.length]; exact hz) (fun b hb => ?_) fun out ho hout => ?_
  · rw [b1']
    intro d hd d' hd'
    exact List.all_eq_true.mp (List.all_eq_true.mp c2 d hd) d' hd'
  · rw [b1']
    unfold sortableB at c1
    rcases Bool.or_eq_true_iff.mp c1 with c | c
    · refine .inl fun d hd => ?_
      have := List.all_eq_true.mp c d hd
      split at this
      · exact ⟨_, _, rfl⟩
      · cases this
    · refine .inr fun d hd => ?_
      have := List.all_eq_true.mp c d hd
      refine ⟨fun z => (by rw [z] at this; cases this), fun xs z => (by rw [z] at this; cases this)⟩
  · have := of_decide_eq_true (List.all_eq_true.mp c3 b.2.2 (by rw [← b1']; exact List.mem_map.mpr ⟨b, hb, rfl⟩))
    omega
  · obtain ⟨ep, he'⟩ := PyProof.Rows.sortedAll_at s.heap its out.toArray
    -- the values
    have vals : ∀ {out : List Value} {cs : List (V × D × PyData)}, PySem.W.EachIs (fun u b => RelV b.1 u) out cs → Vals (cs.map (·.1)) out := by
      intro out cs h
      induction h with
      | nil => exact .nil
      | cons h1 _ ih => exact .cons h1 ih
    have hv := vals hout
    have reps : ∀ {cs : List (V × D × PyData)}, (∀ b ∈ cs, RepB X.K H T b.1 b.2.1) → RepsB X.K H T (cs.map (·.1)) (cs.map (·.2.1)) := by
      intro cs
      induction cs with
      | nil => intro _; exact .nil
      | cons c cs ih => intro h; exact .cons (h c (List.mem_cons_self ..)) (ih fun b hb => h b (List.mem_cons_of_mem _ hb))
    have hrs := reps (cs := bs.mergeSort (PySem.W.dataLe false fun b : V × D × PyData => b.2.2)) fun b hb => b5 b ((List.mergeSort_perm bs _).mem_iff.mp hb)
    have em : (bs.mergeSort (PySem.W.dataLe false fun b : V × D × PyData => b.2.2)).map (·.2.1) = ((xs.zip ps).mergeSort leD).map (·.1) := by
      rw [← b1, ← List.map_mergeSort (r := PySem.W.dataLe false fun b : V × D × PyData => b.2.2) (s := leD) (f := (·.2)) (hl := fun _ _ _ _ => rfl), List.map_map]
      rfl
    rw [em] at hrs
    have hlen : ((bs.mergeSort (PySem.W.dataLe false fun b : V × D × PyData => b.2.2)).map (·.1)).length ≤ sizeLine := by
      rw [List.length_map, List.length_mergeSort, b2, ← rv.length]; exact hz
    exact ⟨.ref _, _, I.laid (t' := s.toks) (o := .lst ((bs.mergeSort (PySem.W.dataLe false fun b : V × D × PyData => b.2.2)).map (·.1))) (fun _ _ => PyProof.Rows.sortedAll_old) (Nat.le_succ _) ⟨hlen, out, ep, hv, he'⟩, rfl, q _ _ (I.hok.fresh (Nat.le_succ _)) hrs⟩
end
end Lw
end

section
set_option Elab.async false
set_option linter.all false
set_option maxRecDepth 100000
set_option maxHeartbeats 4000000
/-! L5: the calls of built-ins keep biS, tyS; subscripts, slices -/
namespace Lw
open PySem L2 PyProof.Rows
variable [TabInfo]
section
variable {X : Cx} {k : Nat}
theorem reps_intsB {K H T} : ∀ ns : List Int, RepsB K H T (ns.map V.int) (ns.map D.int)
  | [] => .nil
  | n :: ns => .cons (.int n) (reps_intsB ns)
theorem bi_ok (hr : Room k X.A) (hc : X.calm = true) (hg : X.A.guards = some []) (b : Bi) : CallR X (.builtin b.id) (rnD X.K (biS b)) := by
  intro pins s σ H xs us Q I rs ⟨T, ds, ht, h⟩
  unfold biS at h
  split at h
  · -- len
    rename_i d
    obtain ⟨v, rfl, tv⟩ := ht.one
    cases e : lenD d with
    | none => rw [e] at h; exact h.elim
    | some n =>
      rw [e] at h
      have q : Q (.int n) H := PostP.v h (.int _)
      rcases lenD_v tv e with ⟨z, rfl, hz, rfl⟩ | ⟨p, ys, rfl, hs, rfl⟩ | ⟨p, kvs, rfl, hs, rfl⟩
      · exact call_len_str pins s σ H _ us Q I rs ⟨z, rfl, hz, q⟩
      · exact call_len_seq pins s σ H _ us Q I rs ⟨p, ys, rfl, hs, q⟩
      · exact call_lenD pins s σ H _ us Q I rs ⟨p, kvs, rfl, hs, q⟩
  · obtain ⟨v, rfl, tv⟩ := ht.one
    have := tv.int; subst this
    exact call_abs pins s σ H _ us Q I rs ⟨_, rfl, PostP.v h (.int _)⟩
  · obtain ⟨v, w, rfl, tv, tw⟩ := ht.two
    have := tv.int; subst this
    have := tw.int; subst this
    exact call_max2 hc pins s σ H _ us Q I rs ⟨_, _, rfl, PostP.v h (.int _)⟩
  · obtain ⟨v, w, rfl, tv, tw⟩ := ht.two
    have := tv.int; subst this
    have := tw.int; subst this
    exact call_min2 hc pins s σ H _ us Q I rs ⟨_, _, rfl, PostP.v h (.int _)⟩
  · split at h
    · rename_i xs i r e
      obtain ⟨v, rfl, tv⟩ := ht.one
      obtain ⟨a, vs, rfl, ha, hrs⟩ := tv.lst
      have ev := ints_v hrs e
      subst ev
      refine cr_max hc pins s σ H _ us Q I rs ⟨a, i :: r, rfl, SqL.of ha, by simp, fun m hm hle => ?_⟩
      obtain ⟨m1, m2⟩ := maxL_mem i r
      have em : m = maxL (i :: r) := by have h1 := m2 m hm; have h2 := hle _ m1; omega
      rw [em]
      exact PostP.v h (.int _)
    · exact h.elim
  · split at h
    · rename_i xs i r e
      obtain ⟨v, rfl, tv⟩ := ht.one
      obtain ⟨a, vs, rfl, ha, hrs⟩ := tv.lst
      have ev := ints_v hrs e
      subst ev
      refine cr_min hc pins s σ H _ us Q I rs ⟨a, i :: r, rfl, SqL.of ha, by simp, fun m hm hle => ?_⟩
      obtain ⟨m1, m2⟩ := minL_mem i r
      have em : m = minL (i :: r) := by have h1 := m2 m hm; have h2 := hle _ m1; omega
      rw [em]
      exact PostP.v h (.int _)
    · exact h.elim
  · rename_i xs
    cases e : intsOf xs with
    | none => rw [e] at h; exact h.elim
    | some ns =>
      rw [e] at h
      obtain ⟨v, rfl, tv⟩ := ht.one
      obtain ⟨a, vs, rfl, ha, hrs⟩ := tv.lst
      have ev := ints_v hrs e
      subst ev
      exact cr_sum hc pins s σ H _ us Q I rs ⟨a, ns, rfl, SqL.of ha, PostP.v h (.int _)⟩
  · rename_i xs
    cases e : intsOf xs with
    | none => rw [e] at h; exact h.elim
    | some ns =>
      rw [e] at h
      obtain ⟨v, rfl, tv⟩ := ht.one
      obtain ⟨a, vs, rfl, ha, hrs⟩ := tv.tup
      have ev := ints_v hrs e
      subst ev
      obtain ⟨its, rv, hl, _⟩ := I.tuple ha
      rw [Vals.ref1 rs]
      refine sum_tup_raw (I.ok.hd hc) (show s.heap.IsTuple a its.toArray from hl) rv.ints fun h' tk t' hk => ?_
      exact ⟨.int _, H, I.kept hk, ⟨_, rfl⟩, PostP.v h (.int _)⟩
  · rename_i xs
    cases e : blsOf xs with
    | none => rw [e] at h; exact h.elim
    | some ns =>
      rw [e] at h
      obtain ⟨v, rfl, tv⟩ := ht.one
      obtain ⟨a, vs, rfl, ha, hrs⟩ := tv.lst
      have ev := bls_v hrs e
      subst ev
      exact cr_all hc pins s σ H _ us Q I rs ⟨a, ns, rfl, SqL.of ha, PostP.v h (.bl _)⟩
  · rename_i xs
    cases e : blsOf xs with
    | none => rw [e] at h; exact h.elim
    | some ns =>
      rw [e] at h
      obtain ⟨v, rfl, tv⟩ := ht.one
      obtain ⟨a, vs, rfl, ha, hrs⟩ := tv.lst
      have ev := bls_v hrs e
      subst ev
      exact cr_any hc pins s σ H _ us Q I rs ⟨a, ns, rfl, SqL.of ha, PostP.v h (.bl _)⟩
  · rename_i xs
    cases e : sortD xs with
    | none => rw [e] at h; exact h.elim
    | some ys =>
      rw [e] at h
      obtain ⟨v, rfl, tv⟩ := ht.one
      obtain ⟨a, vs, rfl, ha, hrs⟩ := tv.lst
      rw [Vals.ref1 rs]
      exact sort_ok hr I ha hrs e fun p zs hp hz => PostP.newLst h hp hz
  · rename_i ks ds
    split at h
    · rename_i ns en
      split at h
      · rename_i h64
        obtain ⟨v, rfl, tv⟩ := ht.one
        obtain ⟨a, vs, rfl, ha, hl, _⟩ := tv.dkv
        refine call_sortedDI hc pins s σ H _ us Q I rs ⟨a, _, ns, rfl, .inl ha, ?_, h64, fun ys p hp hs hn => ?_⟩
        · rw [List.map_fst_zip (Nat.le_of_eq hl)]; exact keyInts_map en
        · rw [sortI_uniq hp hs]; exact PostP.newLst h hn (reps_intsB _)
      · exact h.elim
    · exact h.elim
  · rename_i d
    cases e : reprD d with
    | none => rw [e] at h; exact h.elim
    | some x =>
      rw [e] at h
      obtain ⟨v, rfl, tv⟩ := ht.one
      obtain ⟨u, rfl, r⟩ := vals1 rs
      exact repr_ok hr hg I r tv e (PostP.v h (.str _))
  · rename_i d n
    unfold isiD at h
    split at h
    · rename_i t et
      split at h
      · rename_i hn
        obtain ⟨v, w, rfl, tv, tw⟩ := ht.two
        have := tw.ty; subst this
        simp only [Bool.and_eq_true, bne_iff_ne] at hn
        have hk := isi_all t (tyD_mem et) n (List.contains_iff_mem.mp hn.1) hn.2
        exact call_isi pins s σ H _ us Q I rs ⟨v, .ty n, _, _, _, rfl, .ty n, tyD_x tv et, kit_ty hk, PostP.v h (.bl _)⟩
      · exact h.elim
    · exact h.elim
  · exact h.elim
theorem ty_ok (b : Bt) : CallR X (.type b.id) (rnD X.K (tyS b)) := by
  intro pins s σ H xs us Q I rs ⟨T, ds, ht, h⟩
  unfold tyS at h
  split at h
  · obtain ⟨v, rfl, tv⟩ := ht.one
    have := tv.int; subst this
    exact call_int1 pins s σ H _ us Q I rs (.inl ⟨_, rfl, PostP.v h (.int _)⟩)
  · obtain ⟨v, rfl, tv⟩ := ht.one
    have := tv.bl; subst this
    exact call_int1 pins s σ H _ us Q I rs (.inr ⟨_, rfl, PostP.v h (.int _)⟩)
  · split at h
    · obtain ⟨v, rfl, tv⟩ := ht.one
      have := tv.int; subst this
      exact call_str_int pins s σ H _ us Q I rs ⟨_, rfl, by assumption, PostP.v h (.str _)⟩
    · exact h.elim
  · obtain ⟨v, rfl, tv⟩ := ht.one
    obtain ⟨a, vs, rfl, ha, hrs⟩ := tv.lst
    exact call_list_of pins s σ H _ us Q I rs ⟨a, vs, rfl, .inl (SqL.of ha), fun l hl => PostP.newLst h hl hrs⟩
  · obtain ⟨v, rfl, tv⟩ := ht.one
    obtain ⟨a, vs, rfl, ha, hrs⟩ := tv.tup
    exact call_list_of pins s σ H _ us Q I rs ⟨a, vs, rfl, .inr ha, fun l hl => PostP.newLst h hl hrs⟩
  · obtain ⟨v, rfl, tv⟩ := ht.one
    obtain ⟨a, vs, rfl, ha, hrs⟩ := tv.lst
    exact call_tuple_of pins s σ H _ us Q I rs ⟨a, vs, rfl, .inl ⟨SqL.of ha, fun l hl => PostP.newTup h hl hrs⟩⟩
  · obtain ⟨v, rfl, tv⟩ := ht.one
    obtain ⟨a, vs, rfl, ha, hrs⟩ := tv.tup
    exact call_tuple_of pins s σ H _ us Q I rs ⟨a, vs, rfl, .inr ⟨ha, PostP.v h (.tup ha hrs)⟩⟩
  · exact h.elim
/-! ### subscripts -/
def ixS (a b : D) : Option Sl := match a, b with
  | .lst xs, .int i => (atI xs i).map .val
  | .tup xs, .int i => (atI xs i).map .val
  | .scr ns, .int i => (atI ns i).map vI
  | .str z, .int i => if z.length ≤ sizeLine then (atI z.cps.toList i).map fun c => .val (.str ⟨#[c]⟩) else none
  | a, b => match dictD a, keyD b with
    | some (ks, ds), some k => (valZ ks ds k).map .val
    | _, _ => none
theorem atI_reps {K H T} {vs : List V} {xs : List D} {i : Int} {d : D} (h : RepsB K H T vs xs) (e : atI xs i = some d) : ∃ v, atI vs i = some v ∧ RepB K H T v d := by
  unfold atI at e ⊢
  rw [h.length]
  cases e1 : ixN xs.length i with
  | none => rw [e1] at e; cases e
  | some j =>
    rw [e1] at e
    obtain ⟨v, e2, r⟩ := h.get e
    exact ⟨v, e2, r⟩
theorem ix_ok {k : Nat} (hr : Room k X.A) : IxR X (r2D X.K ixS) := by
  intro value slice pins s σ H x y v u Q I rx ry ⟨T, a, b, ha, hb, h⟩ hs
  unfold ixS at h
  split at h
  · rename_i xs i
    cases e : atI xs i with
    | none => rw [e] at h; exact h.elim
    | some d =>
      rw [e] at h
      obtain ⟨p, vs, rfl, hl, hrs⟩ := ha.lst
      have := hb.int; subst this
      obtain ⟨w, e2, r⟩ := atI_reps hrs e
      exact ix_list value slice pins s σ H _ _ v u Q I rx ry ⟨p, vs, i, w, rfl, rfl, SqL.of hl, e2, PostP.v h r⟩ hs
  · rename_i xs i
    cases e : atI xs i with
    | none => rw [e] at h; exact h.elim
    | some d =>
      rw [e] at h
      obtain ⟨p, vs, rfl, hl, hrs⟩ := ha.tup
      have := hb.int; subst this
      obtain ⟨w, e2, r⟩ := atI_reps hrs e
      exact ix_tup value slice pins s σ H _ _ v u Q I rx ry ⟨p, vs, i, w, rfl, rfl, hl, e2, PostP.v h r⟩ hs
  · rename_i ns i
    cases e : atI ns i with
    | none => rw [e] at h; exact h.elim
    | some n =>
      rw [e] at h
      obtain ⟨p, rfl, hl⟩ := ha.scr
      have := hb.int; subst this
      refine ix_list value slice pins s σ H _ _ v u Q I rx ry ⟨p, _, i, .int n, rfl, rfl, hl.sq, ?_, PostP.v h (.int _)⟩ hs
      unfold atI at e ⊢
      rw [List.length_map]
      cases e1 : ixN ns.length i with
      | none => rw [e1] at e; cases e
      | some j =>
        rw [e1] at e
        have e' : ns[j]? = some n := e
        show (ns.map V.int)[j]? = _
        rw [List.getElem?_map, e']; rfl
  · rename_i z i
    split at h
    · cases e : atI z.cps.toList i with
      | none => rw [e] at h; exact h.elim
      | some c =>
        rw [e] at h
        have := ha.str; subst this
        have := hb.int; subst this
        exact ix_str value slice pins s σ H _ _ v u Q I rx ry ⟨z, i, c, rfl, rfl, by assumption, e, PostP.v h (.str _)⟩ hs
    · exact h.elim
  · split at h
    · rename_i ks ds k e1 e2
      cases e : valZ ks ds k with
      | none => rw [e] at h; exact h.elim
      | some d =>
        rw [e] at h
        obtain ⟨p, vs, rfl, h2, h3, h4⟩ := ha.dict e1
        have ek := hb.key e2
        subst ek
        obtain ⟨w, e5, r⟩ := (val_reps (k := k) h3 h4).1 d e
        have g := dget_of (k := k) h2
        rw [e5] at g
        obtain rfl : v = Value.ref p := rx
        exact tail_any (dict_typeIs I g) PySem.F.slot_dict_getitem.lookup (d_getItem (by have := hr.un; omega) I g ry fun w' s' I' rw' => ⟨w, H, I', rw', PostP.v h r⟩) hs
    · exact h.elim
/-! ### slices -/
def cutD {α : Type} (xs : List α) (lo hi : Option Int) : List α := (xs.drop (HT.sIx xs.length 0 lo)).take (HT.sIx xs.length xs.length hi - HT.sIx xs.length 0 lo)
def slS (a : D) (lo hi : Option Int) : Option Sl := match a with
  | .lst xs => some (.own (.lst (cutD xs lo hi)))
  | .tup xs => some (.val (.tup (cutD xs lo hi)))
  | .scr ns => some (.own (.lst ((cutD ns lo hi).map .int)))
  | .str z => if z.length ≤ sizeLine then some (.val (.str (cutS z lo hi))) else none
  | _ => none
theorem cut_reps {K H T} {vs : List V} {xs : List D} (h : RepsB K H T vs xs) (lo hi : Option Int) : RepsB K H T (cutV vs lo hi) (cutD xs lo hi) := by
  unfold cutV cutD
  rw [h.length]
  exact (h.drop _).take _
def rsD (K : PySem.W.Frag) : V → Option Int → Option Int → Hp → VK → Prop := fun x lo hi H Q => ∃ T a, TopB K H T x a ∧ PostP K H T Q (slS a lo hi)
theorem reps_ints {K H T} : ∀ ns : List Int, RepsB K H T (ns.map V.int) (ns.map D.int)
  | [] => .nil
  | n :: ns => .cons (.int n) (reps_ints ns)

theorem sl_ok : SlR X (rsD X.K) := by
  intro pins s σ H x v vl vu lo hi sl Q I rx hs pl pu ⟨T, a, ha, h⟩
  unfold slS at h
  split at h
  · obtain ⟨p, vs, rfl, hl, hrs⟩ := ha.lst
    exact sl_list pins s σ H _ v vl vu lo hi sl Q I rx hs pl pu ⟨p, vs, rfl, SqL.of hl, fun q hq => PostP.newLst h hq (cut_reps hrs lo hi)⟩
  · rename_i xs
    obtain ⟨p, vs, rfl, hl, hrs⟩ := ha.tup
    refine sl_tupA pins s σ H _ v vl vu lo hi sl Q I rx hs pl pu ⟨p, vs, rfl, hl, fun ⟨e1, e2⟩ => ?_, fun _ q hq => PostP.newTup h hq (cut_reps hrs lo hi)⟩
    have e : cutD xs lo hi = xs := by
      unfold cutD
      rw [← hrs.length, e1, e2, List.drop_zero, Nat.sub_zero, List.take_of_length_le (Nat.le_of_eq hrs.length.symm)]
    rw [e] at h
    exact PostP.v h (.tup hl hrs)
  · rename_i ns
    obtain ⟨p, rfl, hl⟩ := ha.scr
    refine sl_list pins s σ H _ v vl vu lo hi sl Q I rx hs pl pu ⟨p, _, rfl, hl.sq, fun q hq => ?_⟩
    have e : cutV (ns.map V.int) lo hi = (cutD ns lo hi).map V.int := by
      unfold cutV cutD
      rw [List.length_map, List.map_take, List.map_drop]
    rw [e]
    exact PostP.newLst h hq (reps_ints _)
  · split at h
    · have := ha.str; subst this
      exact sl_str pins s σ H _ v vl vu lo hi sl Q I rx hs pl pu ⟨_, rfl, by assumption, PostP.v h (.str _)⟩
    · exact h.elim
  · exact h.elim
end
end Lw
end

section
set_option Elab.async false
set_option linter.all false
set_option maxRecDepth 100000
set_option maxHeartbeats 4000000
/-! LD0: tuples of which the object is known to have no dict of its own -/
namespace Lw
open PySem PySem.Spec PyProof.Rows L2
section
variable {X : Cx}
/-- tuple(list): the new object is known -/
theorem call_tuple_plain : CallR X (.type "tuple") (fun xs H Q => ∃ p ys, xs = [.ref p] ∧ SqL X.K H p ys ∧ ∀ (l : Addr) (o : Obj), H l = none → o.dict = none → Q (.ref l) (upd H l (.frz o (.tup ys)))) := by
  intro pins s σ H xs us Q I r h
  obtain ⟨p, ys, rfl, hq, q⟩ := h
  obtain ⟨u, rfl, rx⟩ := vals1 r
  cases rx
  obtain ⟨its, r', pl, hz⟩ := I.list hq
  have hlen := r'.length
  refine call_tuple_list pl.isList (fun h' kp => ?_) (by simp only [List.size_toArray] <;> omega)
  have J1 : Inv X pins σ H { s with heap := h' } := I.kept (t' := s.toks) kp
  have J2 : Inv X pins σ (upd H h'.objs.size (.frz { cls := .type "tuple", data := .seq its.toArray } (.tup ys))) { s with heap := h'.push { cls := .type "tuple", data := .seq its.toArray } } :=
    J1.laid (t' := s.toks) (fun b o e => Heap.get?_push_of_some _ e) (Nat.le_refl _) (show ObjOk X.prog X.w _ _ _ (.frz _ (.tup ys)) from ⟨Heap.get?_push_size _ rfl, hz, its, r', IsTup.new _ _⟩)
  exact ⟨.ref h'.objs.size, _, J2, rfl, q _ _ (J1.hok.fresh (Nat.le_refl _)) rfl⟩
/-- t + u, of such tuples -/
def rCatP : R2 := fun x y H Q => ∃ (a b : Addr) (oa ob : Obj) (xs ys : List V), x = .ref a ∧ y = .ref b ∧ H a = some (.frz oa (.tup xs)) ∧ H b = some (.frz ob (.tup ys)) ∧ xs.length + ys.length ≤ sizeLine ∧
  (xs = [] → Q (.ref b) H) ∧ (ys = [] → Q (.ref a) H) ∧ ∀ (p : Addr) (o : Obj), H p = none → o.dict = none → Q (.ref p) (upd H p (.frz o (.tup (xs ++ ys))))
theorem op_catP : OpR X (binaryOp .Add) rCatP := by
  intro pins s σ H x y v u Q I rx ry h
  obtain ⟨a, b, oa, ob, xs, ys, rfl, rfl, ha, hb, hz, q0, q1, q2⟩ := h
  have sa : SqT X.K H a xs := .inl (.inr ⟨_, ha⟩)
  have sb : SqT X.K H b ys := .inl (.inr ⟨_, hb⟩)
  cases rx
  cases ry
  obtain ⟨its, r1, p1, _⟩ := I.tuple sa
  obtain ⟨its2, r2, p2, _⟩ := I.tuple sb
  by_cases hx : xs = []
  · subst hx
    cases r1
    exact cat_tup0 p1 p2 ⟨.ref b, H, I, rfl, q0 rfl⟩
  · refine HT.cat_tup p1 p2 (fun z => hx (r1.nil_iff.mp z)) (fun z => ⟨.ref a, H, I, rfl, q1 (r2.nil_iff.mp z)⟩) (fun z => ?_) (by rw [← r1.length, ← r2.length]; exact hz)
    refine ⟨.ref s.heap.objs.size, _, I.laid (t' := s.toks) (o := .frz { cls := .type "tuple", data := .seq (its ++ its2).toArray } (.tup (xs ++ ys))) (fun b ob q => Heap.get?_push_of_some _ q) (Nat.le_refl _) ?_, rfl, q2 _ _ (I.hok.fresh (Nat.le_refl _)) rfl⟩
    exact ⟨Heap.get?_push_size _ rfl, by rw [List.length_append]; exact hz, _, r1.append r2, IsTup.new _ _⟩
/-- dict(t) of such a tuple of pairs -/
theorem call_dictPT (hcalm : X.calm = true) : CallR X (.type "dict") (fun xs H Q => ∃ (a : Addr) (oa : Obj) (ps : List Addr) (kvs : List (Key × V)), xs = [.ref a] ∧ H a = some (.frz oa (.tup (ps.map V.ref))) ∧ oa.dict = none ∧ Paired (fun p kv => SqT X.K H p [kV kv.1, kv.2]) ps kvs ∧
    ∀ p, H p = none → Q (.ref p) (upd H p (.dK (mergeK [] kvs)))) := by
  intro pins s σ H xs us Q I r q
  obtain ⟨a, oa, ps, kvs, ex, hq, hd0, hp, q⟩ := q
  subst ex
  obtain ⟨u, eu, rx⟩ := vals1 r
  subst eu
  cases rx
  have hok : ObjOk X.prog X.w H s.heap a (.frz oa (.tup (ps.map V.ref))) := I.hok a _ hq
  obtain ⟨hg, hz, its, rv, o', ho', hc, n, hdat⟩ := hok
  rw [hg] at ho'
  cases ho'
  have ei := refs_at rv
  subst ei
  rw [List.length_map] at hz
  obtain ⟨prs, rel, hl, hpr⟩ := pairs_of I hp
  obtain ⟨Ts, hTs⟩ : ∃ Ts : Nat → Addr, ∀ j b, ps[j]? = some b → Ts j = b := ⟨fun j => ps.getD j 0, fun j b e => by simp [List.getD, e]⟩
  have keys : ∃ kv : List (Value × Value), kv.length = prs.length ∧ ∀ (j : Nat) (u y : Value), kv[j]? = some (u, y) → ∃ (b : Addr) (k : Key), ps[j]? = some b ∧ IsTup s.heap b #[u, y] ∧ prs[j]? = some (k, y) ∧ keyIs k u = true := by
    have : ∀ (prs : List (Key × Value)) (ps : List Addr), (∀ (j : Nat) (q : Key × Value), prs[j]? = some q → ∃ (b : Addr) (u : Value), ps[j]? = some b ∧ IsTup s.heap b #[u, q.2] ∧ keyIs q.1 u = true) →
        ∃ kv : List (Value × Value), kv.length = prs.length ∧ ∀ (j : Nat) (u y : Value), kv[j]? = some (u, y) → ∃ (b : Addr) (k : Key), ps[j]? = some b ∧ IsTup s.heap b #[u, y] ∧ prs[j]? = some (k, y) ∧ keyIs k u = true := by
      intro prs
      induction prs with
      | nil => intro ps _; exact ⟨[], rfl, fun j u y e => by simp at e⟩
      | cons q prs ih =>
        intro ps h
        obtain ⟨b, u, e1, e2, e3⟩ := h 0 q rfl
        cases ps with
        | nil => simp at e1
        | cons p ps =>
          obtain ⟨kv, l1, l2⟩ := ih ps fun j q' e => by
            obtain ⟨b', u', f1, f2, f3⟩ := h (j + 1) q' (by simpa using e)
            exact ⟨b', u', by simpa using f1, f2, f3⟩
          refine ⟨(u, q.2) :: kv, by simp [l1], fun j u' y e => ?_⟩
          cases j with
          | zero =>
            simp at e
            obtain ⟨rfl, rfl⟩ := e
            exact ⟨b, q.1, e1, e2, rfl, e3⟩
          | succ j =>
            obtain ⟨b', k, f1, f2, f3, f4⟩ := l2 j u' y (by simpa using e)
            exact ⟨b', k, by simpa using f1, f2, by simpa using f3, f4⟩
    exact this prs ps hpr
  obtain ⟨kv, lk, hkv⟩ := keys
  have items : PairItems s.heap (ps.map Value.ref).toArray Ts kv := ⟨by simp [lk, hl], fun j k v e => by
    obtain ⟨b, key, f1, f2, _, _⟩ := hkv j k v e
    rw [hTs j b f1]
    exact ⟨by simp [f1], .inl f2⟩⟩
  refine PySem.call_dict_pairs (knd := mixKind X.prog X.w) (kvs := prs) (PairArg.tuple a (ps.map Value.ref).toArray Ts kv) (I.ok.hd hcalm) ⟨⟨oa, n, hg, hc, hd0, hdat⟩, items⟩ ⟨by rw [lk], fun i key v e => ?_⟩ (by rw [lk, hl]; exact hz) fun h' tk hd' k => ?_
  · obtain ⟨b, k, f1, f2, f3, f4⟩ := hkv i key v e
    exact ⟨k, f3, f4⟩
  · have hm : (s.heap.objs.size == sysModules) = false := beq_eq_false_iff_ne.mpr (Nat.ne_of_gt I.big)
    have hlen : (mergeK [] kvs).length ≤ sizeLine := by
      refine Nat.le_trans (length_mergeK kvs []) ?_
      rw [List.length_nil, Nat.zero_add, rel.length, hl]
      exact hz
    exact ⟨.ref s.heap.objs.size, upd H s.heap.objs.size (.dK (mergeK [] kvs)), I.laid (t' := tk) (fun b o e => k b o (fun z => by cases z) e) (Nat.le_refl _) (show ObjOk X.prog X.w _ _ _ (.dK (mergeK [] kvs)) from ⟨hlen, hm, merged [] prs, KV.merge rel .nil, hd'⟩), rfl, q _ (I.hok.fresh (Nat.le_refl _))⟩
/-- t.count(i), a tuple of whole numbers -/
def rTCount : V → List V → Hp → VK → Prop := fun x xs H Q => ∃ (p : Addr) (op : Obj) (ns : List Int) (k : Int), x = .ref p ∧ xs = [.int k] ∧ H p = some (.frz op (.tup (ns.map V.int))) ∧ op.dict = none ∧ Q (.int (ns.count k : Nat)) H
theorem mt_tcount : MtR X "tuple.count" rTCount := by
  intro pins s σ H x xs v us Q I rx rxs h
  obtain ⟨p, op, ns, k, rfl, rfl, hs, _, q⟩ := h
  cases rx
  obtain ⟨u, rfl, ru⟩ := rxs.one
  obtain ⟨t, rfl⟩ := ru
  obtain ⟨its, rv, ⟨⟨cls, dd, data, sl⟩, ho, hc, n, hd⟩, hlen⟩ := I.tuple (.inl (.inr ⟨_, hs⟩))
  simp only at hc hd
  subst hc hd
  have hi := ints_of_vals rv
  refine call_meets PySem.F.slot_tuple_count ⟨_, ho, rfl⟩ PySem.F.entry_tuple_count (PySem.F.args_tuple_count_2 _ _)
    (SeqAt.tuple_countAt p its.toArray n dd sl (.int k t) (eqk k)) ⟨ho, fun y hy => (eqk_gives hi y (by simpa using hy)).at _ _, ?_⟩
  have ec : its.toArray.toList.countP (eqk k) = ns.count k := eqk_count hi
  refine ⟨.int (ns.count k : Nat), H, I.tok _, ⟨s.toks, ?_⟩, q⟩
  show Value.int ((its.toArray.toList.countP (eqk k) : Nat) : Int) s.toks = Value.int ((ns.count k : Nat) : Int) s.toks
  rw [ec]
end
end Lw
end

section
set_option Elab.async false
set_option linter.all false
set_option maxRecDepth 100000
set_option maxHeartbeats 4000000
/-! LD2: sorted(d.items()), whole numbers -/
namespace Lw
open PySem PySem.Spec PyProof.Rows L2
def leII (p q : Int × Int) : Bool := decide (p.1 < q.1 ∨ (p.1 = q.1 ∧ p.2 ≤ q.2))
/-- the new list and its pairs -/
def rSItems : V → Hp → VK → Prop := fun x H Q => ∃ (d : Addr) (ps : List (Int × Int)), x = .ref d ∧ Rd H d (.dK (ps.map fun p => ((Sum.inl p.1 : Key), V.int p.2))) ∧ ps.length ≤ 1000 ∧
  ∀ (H' : Hp) (l : Addr) (zs : List (Addr × Int × Int)), (∀ b o, H b = some o → H' b = some o) → H l = none → zs.map (·.2) = ps.mergeSort leII → H' l = some (.lst (zs.map fun z => V.ref z.1)) →
    (∀ z ∈ zs, H' z.1 = some (.tup [.int z.2.1, .int z.2.2])) → Q (.ref l) H'
section
variable {X : Cx}
theorem entries_int {P : Program} {w : World} : ∀ {es : List DictEntry} {ps : List (Int × Int)} {vs : List (Key × Value)}, KV (ps.map fun p => ((Sum.inl p.1 : Key), V.int p.2)) vs → Pairs (mixKind P w) es vs →
    es.length = ps.length ∧ ∀ (j : Nat) (e : DictEntry), es[j]? = some e → ∃ p, ps[j]? = some p ∧ RelV (.int p.1) e.key ∧ RelV (.int p.2) e.val
  | [], [], _, _, _ => ⟨rfl, fun j e h => by simp at h⟩
  | e :: es, [], _, k, h => by cases k; cases h
  | [], p :: ps, _, k, h => by cases k; cases h
  | e :: es, p :: ps, _, .cons ⟨k1, k2⟩ kt, .cons h1 h2 ht => by
    obtain ⟨l, q⟩ := entries_int kt ht
    refine ⟨by simp [l], fun j e' he => ?_⟩
    cases j with
    | zero =>
      simp at he
      subst he
      refine ⟨p, rfl, ?_, by rw [h2]; exact k2⟩
      rw [← k1] at h1
      exact relV_key (k := Sum.inl p.1) (show keyIs _ _ = true from h1)
    | succ j =>
      obtain ⟨p', e1, e2⟩ := q j e' (by simpa using he)
      exact ⟨p', by simpa using e1, e2⟩
theorem sitems_run (hc : X.calm = true) (hu : X.A.units + 20 < cLine) {pins : List (Addr × Obj)} {σ : L2.St} {H : Hp} {s : Shared} {Q : VK} {r d : Addr} {ps : List (Int × Int)} (I : Inv X pins σ H s) (hv : s.heap.IsItemsView r d)
    (hd : Rd H d (.dK (ps.map fun p => ((Sum.inl p.1 : Key), V.int p.2)))) (hz : ps.length ≤ 1000)
    (q : ∀ (H' : Hp) (l : Addr) (zs : List (Addr × Int × Int)), (∀ b o, H b = some o → H' b = some o) → H l = none → zs.map (·.2) = ps.mergeSort leII → H' l = some (.lst (zs.map fun z => V.ref z.1)) →
      (∀ z ∈ zs, H' z.1 = some (.tup [.int z.2.1, .int z.2.2])) → Q (.ref l) H') :
    wpAny (model X.prog X.w) X.A (call (.builtin "sorted") [.ref r]) (EP X pins σ Q) X.xe s := by
  obtain ⟨_, _, vs, rel, o, es, ep, ho, hx, hdt, _, hp, _⟩ := dk_rd I.hok hd
  obtain ⟨l1, ent⟩ := entries_int rel hp
  have l1 : es.size = ps.length := by rw [← l1]; simp
  refine DT.sortedI (es := es) (ep := ep) (I.ok.hd hc) hv ⟨o, ho, hx, hdt⟩ (by rw [sizeLine_eq]; omega) fun h' tk as hk hlt hl hG => ?_
  have lak : as.length = ps.length := by omega
  have nd : as.Nodup := List.Pairwise.imp (fun h => Nat.ne_of_lt h) hG.rise
  have pr : ∀ (j : Nat) (b : Addr), as[j]? = some b → ∃ (p : Int × Int) (u y : Value), ps[j]? = some p ∧ RelV (.int p.1) u ∧ RelV (.int p.2) y ∧ h'.get? b = some { cls := .type "tuple", data := .seq #[u, y] } := by
    intro j b hj
    obtain ⟨en, he, hg⟩ := hG.pairs j b hj
    obtain ⟨p, e1, e2, e3⟩ := ent j en (by rw [Array.getElem?_toList]; exact he)
    exact ⟨p, en.key, en.val, e1, e2, e3, hg⟩
  have hob : (h'.push { cls := .type "list", data := .seq (as.map Value.ref).toArray }).get? h'.objs.size = some (seqObj "list" (as.map Value.ref).toArray 0) := Heap.get?_push_size _ rfl
  have kb : ∀ b o, s.heap.get? b = some o → (h'.push { cls := .type "list", data := .seq (as.map Value.ref).toArray }).get? b = some o := fun b o e => Heap.get?_push_of_some _ (hk b o e)
  have ne0 : ∀ b o, h'.get? b = some o → b ≠ h'.objs.size := fun b o e => Nat.ne_of_lt (Heap.lt_size e)
  generalize hh2 : h'.push { cls := .type "list", data := .seq (as.map Value.ref).toArray } = h2 at hob kb ⊢
  have ka : ∀ b o, h'.get? b = some o → h2.get? b = some o := fun b o e => by rw [← hh2]; exact Heap.get?_push_of_some _ e
  -- the items
  have each : ∀ (as : List Addr) (ps : List (Int × Int)), as.length = ps.length → (∀ (j : Nat) (b : Addr), as[j]? = some b → ∃ (p : Int × Int) (u y : Value), ps[j]? = some p ∧ RelV (.int p.1) u ∧ RelV (.int p.2) y ∧ h'.get? b = some { cls := .type "tuple", data := .seq #[u, y] }) →
      PySem.W.EachIs (fun v (b : Addr × Int × Int) => v = Value.ref b.1) (as.map Value.ref) (as.zip ps) ∧
      PySem.W.EachIs (fun v (b : Addr × Int × Int) => ∃ cs, Reads h2 v (.tuple [.int b.2.1, .int b.2.2]) cs ∧ h'.objs.size ∉ cs) (as.map Value.ref) (as.zip ps) := by
    intro as
    induction as with
    | nil => intro ps _ _; exact ⟨.nil, .nil⟩
    | cons a as ih =>
      intro ps hl h
      cases ps with
      | nil => simp at hl
      | cons p ps =>
        obtain ⟨i1, i2⟩ := ih ps (by simpa using hl) fun j b e => by
          obtain ⟨p', u, y, e1, r⟩ := h (j + 1) b (by simpa using e)
          exact ⟨p', u, y, by simpa using e1, r⟩
        obtain ⟨p', u, y, e1, ⟨t1, ru⟩, ⟨t2, ry⟩, hg⟩ := h 0 a rfl
        simp at e1
        subst e1 ru ry
        exact ⟨.cons rfl i1, .cons ⟨_, .tuple (ka _ _ hg) rfl rfl (.cons (.int _ _) (.cons (.int _ _) .nil)), by simp⟩ i2⟩
  obtain ⟨ea, er⟩ := each as ps lak pr
  have hlz : (as.zip ps).length = ps.length := by rw [List.length_zip]; omega
  refine PySem.W.list_sort_data (enc := fun b : Addr × Int × Int => .tuple [.int b.2.1, .int b.2.2]) (s := { s with heap := h2, toks := tk }) (vs := as.map Value.ref) (bs := as.zip ps) hob ea er (PySem.W.AllAlike.of fun b b' => by simp [PySem.W.alike, PySem.W.alikeAll]) (PySem.W.Sortable.tuples fun b => ⟨_, _, rfl⟩) (by rw [hlz, sizeLine_eq]; omega)
    (fun b _ => by
      have e : (PyData.tuple [.int b.2.1, .int b.2.2]).depth = 1 := by simp [PyData.depth, PyData.depthAll]
      rw [e]
      show X.A.units + 1 + 1 + 1 < cLine
      omega) fun out ho2 hout => ?_
  show EP X pins σ Q (.ref h'.objs.size) { s with heap := sortedHeap h2 h'.objs.size (as.map Value.ref) out.toArray, toks := tk }
  obtain ⟨zs, ezs⟩ : ∃ zs, zs = (as.zip ps).mergeSort (PySem.W.dataLe false fun b : Addr × Int × Int => .tuple [.int b.2.1, .int b.2.2]) := ⟨_, rfl⟩
  rw [← ezs] at hout
  have mem : ∀ z ∈ zs, ∃ j : Nat, as[j]? = some z.1 ∧ ps[j]? = some z.2 := fun z hz' => by
    rw [ezs] at hz'
    obtain ⟨j, hj⟩ := List.mem_iff_getElem?.mp ((List.mergeSort_perm _ _).mem_iff.mp hz')
    exact ⟨j, List.getElem?_zip_eq_some.mp hj⟩
  have outv : ∀ {out : List Value} {zs : List (Addr × Int × Int)}, PySem.W.EachIs (fun v (b : Addr × Int × Int) => v = Value.ref b.1) out zs → out = zs.map fun z => Value.ref z.1 := by
    intro out zs h
    induction h with
    | nil => rfl
    | cons h1 _ ih => rw [List.map_cons, ← ih, h1]
  have eo := outv hout
  have esort : zs.map (·.2) = ps.mergeSort leII := by
    have e0 : (PySem.W.dataLe false fun b : Addr × Int × Int => PyData.tuple [.int b.2.1, .int b.2.2]) = fun p q => leII p.2 q.2 := PySem.W.dataLe_ii (fun b : Addr × Int × Int => b.2.1) (fun b => b.2.2)
    have e1 : (as.zip ps).map (·.2) = ps := List.map_snd_zip (by rw [lak]; exact Nat.le_refl _)
    rw [ezs, e0, List.map_mergeSort (r := fun p q : Addr × Int × Int => leII p.2 q.2) (s := leII) (f := (·.2)) (hl := fun _ _ _ _ => rfl), e1]
  have kF : ∀ b o, b ≠ h'.objs.size → h2.get? b = some o → (sortedHeap h2 h'.objs.size (as.map Value.ref) out.toArray).get? b = some o := fun b o hb e => (PyProof.Rows.sortedHeap_old hb (Heap.lt_size e)).trans e
  have kS : ∀ b o, s.heap.get? b = some o → (sortedHeap h2 h'.objs.size (as.map Value.ref) out.toArray).get? b = some o := fun b o e => kF b o (ne0 _ _ (hk b o e)) (kb b o e)
  obtain ⟨eF, heF⟩ := PyProof.Rows.sortedHeap_at (vs := as.map Value.ref) (out := out.toArray) hob
  have J1 : Inv X pins σ H { s with heap := sortedHeap h2 h'.objs.size (as.map Value.ref) out.toArray, toks := tk } := I.kept (t' := tk) kS
  have hn0 : H h'.objs.size = none := I.hok.fresh (Nat.le_of_lt hlt)
  have hzl : zs.length = ps.length := by rw [ezs, List.length_mergeSort, hlz]
  have rv : Vals (zs.map fun z => V.ref z.1) out := by
    rw [eo]
    exact vals_maps (fun z : Addr × Int × Int => V.ref z.1) (fun z => Value.ref z.1) zs fun _ _ => rfl
  have J2 : Inv X pins σ (upd H h'.objs.size (.lst (zs.map fun z => V.ref z.1))) { s with heap := sortedHeap h2 h'.objs.size (as.map Value.ref) out.toArray, toks := tk } :=
    J1.take (h' := sortedHeap h2 h'.objs.size (as.map Value.ref) out.toArray) (t' := tk) (fun b ob _ e => e) (I.fpOk (Nat.le_of_lt hlt) hn0) ⟨by rw [List.length_map, sizeLine_eq]; omega, out, eF, rv, heF⟩
  obtain ⟨H2, J3, g, qt⟩ := DX.takeT (P := fun b vs => ∃ (j : Nat) (p : Int × Int), as[j]? = some b ∧ ps[j]? = some p ∧ vs = [V.int p.1, V.int p.2]) I as _ J2 nd fun b hb => by
    obtain ⟨j, hj⟩ := List.mem_iff_getElem?.mp hb
    obtain ⟨p, u, y, he, ru, ry, hg⟩ := pr j b hj
    have hbl : s.heap.objs.size ≤ b := Nat.le_of_lt (hG.above b hb)
    refine ⟨hbl, ?_, [.int p.1, .int p.2], ⟨j, p, hj, he, rfl⟩, fun H3 => ⟨(by rw [sizeLine_eq]; show 2 ≤ 16777216; omega), [u, y], .cons ru (.cons ry .nil), ⟨_, kF _ _ (ne0 _ _ hg) (ka _ _ hg), rfl, 0, rfl⟩⟩⟩
    rw [upd_ne (ne0 _ _ hg)]
    exact I.hok.fresh hbl
  have gr : ∀ b o, H b = some o → H2 b = some o := fun b o e => g b o (by rw [upd_ne (ne_of_none e hn0)]; exact e)
  refine ⟨.ref h'.objs.size, H2, J3, rfl, q H2 h'.objs.size zs gr hn0 esort (g _ _ upd_same) fun z hz' => ?_⟩
  obtain ⟨i, i1, i2⟩ := mem z hz'
  obtain ⟨vs, ⟨j, p, j1, j2, ev⟩, hH⟩ := qt z.1 (List.mem_of_getElem? i1)
  have eij : i = j := (List.getElem?_inj (List.getElem?_eq_some_iff.mp i1).1 nd).mp (i1.trans j1.symm)
  subst eij
  have ee : p = z.2 := Option.some.inj (j2.symm.trans i2)
  rw [ev, ee] at hH
  exact hH
def tSItems (te : TE) : TE := fun σ H Q => te σ H fun x H1 => rSItems x H1 Q
/-- sorted(e.items()) -/
theorem pe_sitems {e : Expr} {te : TE} {p apos cpos pos : Pos} (hc : X.calm = true) (hu : X.A.units + 20 < cLine) (he : PE X e te) (hg : Gl X "sorted") (hm : X.mg "sorted" = none) (hv : bootBuiltins "sorted" = some (.builtin "sorted")) (hbase : attributeBase e "items" X.env (eval e X.env) = eval e X.env := by rfl) (hline : (apos.endLine == cpos.line) = true := by rfl)
    (hs : starEach [.Call (.Attribute e "items" apos) [] [] cpos] X.env = (false, eval (.Call (.Attribute e "items" apos) [] [] cpos) X.env) :: starEach [] X.env := by rfl) :
    PE X (.Call (.Name "sorted" p) [.Call (.Attribute e "items" apos) [] [] cpos] [] pos) (tSItems te) := by
  refine ⟨fun pins s σ H Q I hq => ?_⟩
  refine wpAny_Call_Name_kw (ld_blt I hg hm hv ?_)
  refine PyProof.Rows.callWith_builtin1 ?_ hs rfl
  rw [hs]
  show wpAny _ _ (spliced ((false, eval (.Call (.Attribute e "items" apos) [] [] cpos) X.env) :: backTo pos (starEach [] X.env))) _ _ s
  refine Calls.spliced_cons ?_
  refine wpAny_Call_method (T := "dict") (id := "dict.items") hbase rfl hline F.plainAttrs_dict F.slot_dict_items F.type_dict_items (thn (he.run pins s σ H _ I hq) fun u s1 ⟨x, H1, I1, rx, d, ps, ex, hd, hz, q⟩ => ?_)
  subst ex
  obtain rfl : u = Value.ref d := rx
  obtain ⟨_, hs0, vs, kv, hdo⟩ := dk_rd I1.hok hd
  have I2 : Inv X pins σ H1 { s1 with heap := s1.heap.push { cls := .type "dict_items", data := .fields #[.ref d] } } := I1.kept (t' := s1.toks) fun b ob q => Heap.get?_push_of_some _ q
  refine ⟨hdo.typeIs, hdo.mapOf.noDict, ?_⟩
  show wpAny _ _ (callWith cpos (.builtin "dict.items") [.ref d] [] []) _ X.xe s1
  refine method_meetsIn F.slot_dict_items F.entry_dict_items rfl (PySem.evalArgs_none ⟨rfl, hdo.typeIs, F.args_dict_items_1 _, _, meets_dict_items (mixKind X.prog X.w) d hs0, ⟨vs, hdo⟩, ?_⟩)
  refine Calls.spliced_nil ?_
  exact sitems_run hc hu I2 ⟨_, Heap.get?_push_size _ rfl, rfl, rfl⟩ hd hz q
end
end Lw
end

section
set_option Elab.async false
set_option linter.all false
set_option maxRecDepth 100000
set_option maxHeartbeats 4000000
/-! LD3: sorted(d.values()), whole numbers -/
namespace Lw
open PySem PySem.Calls PySem.Spec PyProof.Rows L2
def leI (a b : Int) : Bool := decide (a ≤ b)
def rSVals : V → Hp → VK → Prop := fun x H Q => ∃ (d : Addr) (ks : List Key) (ns : List Int), x = .ref d ∧ Rd H d (.dK (ks.zip (ns.map V.int))) ∧ ks.length = ns.length ∧ ns.length ≤ 1000 ∧
  ∀ l : Addr, H l = none → Q (.ref l) (upd H l (.lst ((ns.mergeSort leI).map V.int)))
section
variable {X : Cx}
theorem kv_vals : ∀ {ks : List Key} {ns : List Int} {vs : List (Key × Value)}, ks.length = ns.length → KV (ks.zip (ns.map V.int)) vs → vs.length = ns.length ∧ ∀ (j : Nat) (k : Key) (v : Value), vs[j]? = some (k, v) → ∃ n, ns[j]? = some n ∧ RelV (.int n) v
  | [], [], _, _, .nil => ⟨rfl, fun j k v e => by simp at e⟩
  | k :: ks, n :: ns, _, h, .cons ⟨k1, k2⟩ t => by
    obtain ⟨l, q⟩ := kv_vals (ks := ks) (ns := ns) (by simpa using h) t
    refine ⟨by simp [l], fun j k' v e => ?_⟩
    cases j with
    | zero =>
      simp at e
      obtain ⟨m, e1, e2⟩ : ∃ m, (n :: ns)[0]? = some m ∧ RelV (.int m) v := ⟨n, rfl, by subst e; exact k2⟩
      exact ⟨m, e1, e2⟩
    | succ j =>
      obtain ⟨m, e1, e2⟩ := q j k' v (by simpa using e)
      exact ⟨m, by simpa using e1, e2⟩
  | [], n :: ns, _, h, _ => by simp at h
  | k :: ks, [], _, h, _ => by simp at h
theorem collect_low {prog : Program} {w : World} {A : Around} {E : Value → Shared → Prop} {s : Shared} {T : String} {r d : Addr} {n : Nat} {Pv : Nat → Value → Prop} {OK : Heap → Prop} {R : List Value → Shared → Prop} (K : PySem.W.KdlSrc prog w T r d n Pv OK) (hh : A.handled = none) (hok : OK s.heap) (hn : n ≤ sizeLine)
    (h : ∀ (h' : Heap) (tk : Nat) (acc : Array Value), (∀ b o, s.heap.get? b = some o → h'.get? b = some o) → s.heap.objs.size < h'.objs.size → ItemsOf Pv acc n → R acc.toList { s with heap := h', toks := tk }) :
    wpAny (model prog w) A (collect (.ref r)) R E s := by
  have below := K.there _ hok
  unfold collect
  refine wpAny_bind (wpAny_runValue (codeAny_builtin entry_proto_collect' ?_))
  rw [Around.under_plainId PySem.F.plain_proto_collect _]
  show wpAny _ A.in1 (newList [] >>= fun l => again (.builtin "list.__iadd__" ⟨[l, .ref r], []⟩)) _ _ s
  refine wpAny_bind (wpAny_newObj_type ?_)
  refine wpAny_pure ⟨plainId_quiet PySem.F.plain_list_iadd _, codeAny_builtin entry_list_iadd' ?_⟩
  rw [Around.under_plainId PySem.F.plain_list_iadd _]
  have newL : (s.heap.push { cls := .type "list", data := .seq ([] : List Value).toArray }).get? s.heap.objs.size = some { cls := .type "list", data := .seq #[] } := Heap.get?_push_size _ rfl
  show wpAny _ A.in1 (Builtin.List.listExtendWith (.ref s.heap.objs.size) (.ref r) (.ref s.heap.objs.size)) _ _ _
  have key := PySem.W.kdl_extend (A := A) (s := { s with heap := s.heap.push { cls := .type "list", data := .seq ([] : List Value).toArray } })
    (R := fun (q : Result) (s' : Shared) => ∃ (h' : Heap) (tk : Nat) (acc' : Array Value) (c' : Nat), q = .ok (.ret (.ref s.heap.objs.size)) ∧ s' = { s with heap := h', toks := tk } ∧
      (∀ b o, s.heap.get? b = some o → h'.get? b = some o) ∧ h'.get? s.heap.objs.size = some { cls := .type "list", dict := none, data := .seq acc' c', slots := #[] } ∧ ItemsOf Pv acc' n)
    K hh (K.keep _ _ hok fun b _ o e => Heap.get?_push_of_some _ e) s.heap.objs.size (Nat.ne_of_gt below.1) (Nat.ne_of_gt below.2) (.ref s.heap.objs.size) 0 newL
    (fun h' tk acc' c' hk hS' hacc => ⟨h', tk, acc', c', rfl, rfl, fun b o e => hk b o (Nat.ne_of_lt (Heap.lt_size e)) (Heap.get?_push_of_some _ e), hS', hacc⟩) hn
  refine wpAny_mono key (fun fin s' x => ?_) fun e s' x => ?_
  · cases fin with
    | done f =>
      obtain ⟨h', tk, acc', c', e, rfl, hk, hS', hacc⟩ := x
      cases e
      show wpAny _ A (load s.heap.objs.size >>= _) _ _ _
      exact wpAny_bind (wpAny_load hS' (wpAny_pure (h h' tk acc' hk (Heap.lt_size hS') hacc)))
    | again c₁ =>
      refine ⟨x.1, codeAny_mono x.2 fun q s₂ y => ?_⟩
      obtain ⟨h', tk, acc', c', rfl, rfl, hk, hS', hacc⟩ := y
      show wpAny _ A (load s.heap.objs.size >>= _) _ _ _
      exact wpAny_bind (wpAny_load hS' (wpAny_pure (h h' tk acc' hk (Heap.lt_size hS') hacc)))
  · obtain ⟨_, _, _, _, e', _⟩ := x
    cases e'
theorem svals_run (hc : X.calm = true) (hu : X.A.units + 20 < cLine) {pins : List (Addr × Obj)} {σ : L2.St} {H : Hp} {s : Shared} {Q : VK} {r d : Addr} {ks : List Key} {ns : List Int} (I : Inv X pins σ H s) (hv : s.heap.IsValuesView r d)
    (hd : Rd H d (.dK (ks.zip (ns.map V.int)))) (hkl : ks.length = ns.length) (hz : ns.length ≤ 1000) (q : ∀ l : Addr, H l = none → Q (.ref l) (upd H l (.lst ((ns.mergeSort leI).map V.int)))) :
    wpAny (model X.prog X.w) X.A (call (.builtin "sorted") [.ref r]) (EP X pins σ Q) X.xe s := by
  obtain ⟨_, lo, vs, rel, hD⟩ := dk_rd I.hok hd
  obtain ⟨ep, hat⟩ := hD.dictAt
  obtain ⟨lv, ent⟩ := kv_vals hkl rel
  refine call_function_entry kind_sorted plain_sorted entry_sorted (args_sorted1 _) ?_
  unfold Builtin.«sorted»
  refine wpAny_bind (m := checkCount "sorted" 1 1 _) (wpAny_pure ?_)
  refine wpAny_bind (collect_low (A := X.A.in1) (PySem.W.kdl_values (knd := mixKind X.prog X.w) (kvs := vs) (ep := ep) (r := r) (d := d)) (I.ok.hd hc) ⟨hv, hat⟩ (by rw [lv, sizeLine_eq]; omega) fun h' tk acc hk hlt hacc => ?_)
  have hl : acc.toList.length = ns.length := by rw [Array.length_toList, hacc.1, lv]
  have pr : ∀ (j : Nat) (u : Value), acc.toList[j]? = some u → ∃ n, ns[j]? = some n ∧ RelV (.int n) u := fun j u e => by
    obtain ⟨k, hk⟩ := hacc.2 j u (by rw [← Array.getElem?_toList]; exact e)
    exact ent j k u hk
  generalize hacL : acc.toList = us at hl pr ⊢
  refine wpAny_bind (wpAny_newList ?_ (by rw [hl, sizeLine_eq]; omega))
  have hob : (h'.push { cls := .type "list", data := .seq us.toArray }).get? h'.objs.size = some (seqObj "list" us.toArray 0) := Heap.get?_push_size _ rfl
  have kb : ∀ b o, s.heap.get? b = some o → (h'.push { cls := .type "list", data := .seq us.toArray }).get? b = some o := fun b o e => Heap.get?_push_of_some _ (hk b o e)
  have lowb : s.heap.objs.size ≤ h'.objs.size := Nat.le_of_lt hlt
  have ne0 : ∀ b o, s.heap.get? b = some o → b ≠ h'.objs.size := fun b o e => Nat.ne_of_lt (Heap.lt_size (hk b o e))
  generalize hh2 : h'.push { cls := .type "list", data := .seq us.toArray } = h2 at hob kb ⊢
  have each : ∀ (us : List Value) (ns : List Int), us.length = ns.length → (∀ (j : Nat) (u : Value), us[j]? = some u → ∃ n, ns[j]? = some n ∧ RelV (.int n) u) →
      PySem.W.EachIs (fun v (b : Int) => RelV (.int b) v) us ns ∧ PySem.W.EachIs (fun v (b : Int) => ∃ cs, Reads h2 v (.int b) cs ∧ h'.objs.size ∉ cs) us ns := by
    intro us
    induction us with
    | nil => intro ns hl _; cases ns with
      | nil => exact ⟨.nil, .nil⟩
      | cons n ns => simp at hl
    | cons u us ih =>
      intro ns hl h
      cases ns with
      | nil => simp at hl
      | cons n ns =>
        obtain ⟨i1, i2⟩ := ih ns (by simpa using hl) fun j u e => by
          obtain ⟨m, e1, e2⟩ := h (j + 1) u (by simpa using e)
          exact ⟨m, by simpa using e1, e2⟩
        obtain ⟨m, e1, t, rfl⟩ := h 0 u rfl
        simp at e1
        subst e1
        exact ⟨.cons ⟨t, rfl⟩ i1, .cons ⟨_, .int _ _, by simp⟩ i2⟩
  obtain ⟨ea, er⟩ := each us ns hl pr
  have fin : wpAny (model X.prog X.w) X.A.in1 (call (.builtin "list.sort") [.ref h'.objs.size]) (fun _ s' => EP X pins σ Q (.ref h'.objs.size) s') X.xe { s with heap := h2, toks := tk } := by
    refine PySem.W.list_sort_data (enc := fun b : Int => .int b) (s := { s with heap := h2, toks := tk }) (vs := us) (bs := ns) hob ea er (PySem.W.AllAlike.of fun b b' => by simp [PySem.W.alike]) (PySem.W.Sortable.others fun b => ⟨(fun z => by cases z), fun xs z => by cases z⟩) (by rw [sizeLine_eq]; omega)
      (fun b _ => by
        have e : (PyData.int b).depth = 0 := by simp [PyData.depth]
        rw [e]
        show X.A.units + 1 + 1 + 0 < cLine
        omega) fun out ho2 hout => ?_
    have e0 : (PySem.W.dataLe false fun b : Int => PyData.int b) = leI := by
      have := PySem.W.dataLe_int (fun b : Int => b)
      rw [this]; rfl
    rw [e0] at hout
    have outv : ∀ {out : List Value} {zs : List Int}, PySem.W.EachIs (fun v (b : Int) => RelV (.int b) v) out zs → Vals (zs.map V.int) out := by
      intro out zs h
      induction h with
      | nil => exact .nil
      | cons h1 _ ih => exact .cons h1 ih
    obtain ⟨eF, heF⟩ := PyProof.Rows.sortedHeap_at (vs := us) (out := out.toArray) hob
    have kS : ∀ b o, s.heap.get? b = some o → (sortedHeap h2 h'.objs.size us out.toArray).get? b = some o := fun b o e => (PyProof.Rows.sortedHeap_old (ne0 b o e) (Heap.lt_size (kb b o e))).trans (kb b o e)
    have J1 : Inv X pins σ H { s with heap := sortedHeap h2 h'.objs.size us out.toArray, toks := tk } := I.kept (t' := tk) kS
    have hn0 : H h'.objs.size = none := I.hok.fresh lowb
    exact ⟨.ref h'.objs.size, upd H h'.objs.size (.lst ((ns.mergeSort leI).map V.int)), J1.take (h' := sortedHeap h2 h'.objs.size us out.toArray) (t' := tk) (fun b ob _ e => e) (I.fpOk lowb hn0) ⟨by rw [List.length_map, List.length_mergeSort, sizeLine_eq]; omega, out, eF, outv hout, heF⟩, rfl, q _ hn0⟩
  refine wpAny_bind (wpAny_holding (wpAny_mono fin (fun _ s' x => ?_) fun _ _ e => e))
  exact wpAny_pure ⟨_, rfl, x⟩
def tSVals (te : TE) : TE := fun σ H Q => te σ H fun x H1 => rSVals x H1 Q
/-- sorted(e.values()) -/
theorem pe_svals {e : Expr} {te : TE} {p apos cpos pos : Pos} (hc : X.calm = true) (hu : X.A.units + 20 < cLine) (he : PE X e te) (hg : Gl X "sorted") (hm : X.mg "sorted" = none) (hv : bootBuiltins "sorted" = some (.builtin "sorted")) (hbase : attributeBase e "values" X.env (eval e X.env) = eval e X.env := by rfl) (hline : (apos.endLine == cpos.line) = true := by rfl)
    (hs : starEach [.Call (.Attribute e "values" apos) [] [] cpos] X.env = (false, eval (.Call (.Attribute e "values" apos) [] [] cpos) X.env) :: starEach [] X.env := by rfl) :
    PE X (.Call (.Name "sorted" p) [.Call (.Attribute e "values" apos) [] [] cpos] [] pos) (tSVals te) := by
  refine ⟨fun pins s σ H Q I hq => ?_⟩
  refine wpAny_Call_Name_kw (ld_blt I hg hm hv ?_)
  refine PyProof.Rows.callWith_builtin1 ?_ hs rfl
  rw [hs]
  show wpAny _ _ (spliced ((false, eval (.Call (.Attribute e "values" apos) [] [] cpos) X.env) :: backTo pos (starEach [] X.env))) _ _ s
  refine Calls.spliced_cons ?_
  refine wpAny_Call_method (T := "dict") (id := "dict.values") hbase rfl hline F.plainAttrs_dict F.slot_dict_values F.type_dict_values (thn (he.run pins s σ H _ I hq) fun u s1 ⟨x, H1, I1, rx, d, ks, ns, ex, hd, hkl, hz, q⟩ => ?_)
  subst ex
  obtain rfl : u = Value.ref d := rx
  obtain ⟨_, hs0, vs, kv, hdo⟩ := dk_rd I1.hok hd
  have I2 : Inv X pins σ H1 { s1 with heap := s1.heap.push { cls := .type "dict_values", data := .fields #[.ref d] } } := I1.kept (t' := s1.toks) fun b ob q => Heap.get?_push_of_some _ q
  refine ⟨hdo.typeIs, hdo.mapOf.noDict, ?_⟩
  show wpAny _ _ (callWith cpos (.builtin "dict.values") [.ref d] [] []) _ X.xe s1
  refine method_meetsIn F.slot_dict_values F.entry_dict_values rfl (PySem.evalArgs_none ⟨rfl, hdo.typeIs, F.args_dict_values_1 _, _, meets_dict_values (mixKind X.prog X.w) d hs0, ⟨vs, hdo⟩, ?_⟩)
  refine Calls.spliced_nil ?_
  exact svals_run hc hu I2 ⟨_, Heap.get?_push_size _ rfl, rfl, rfl⟩ hd hkl hz q
end
end Lw
end

section
set_option Elab.async false
set_option linter.all false
set_option maxRecDepth 100000
set_option maxHeartbeats 4000000
/-! L6: the intermediate language and what it comes to -/
namespace Lw
open PySem L2
variable [TabInfo]

inductive Tgt where
  | nm (i : Nat)
  | tup (ts : List Tgt)
  deriving Inhabited

/-- methods of texts, lists, tuples that change nothing -/
inductive Mt where
  | upper | lcount
  deriving DecidableEq

inductive E where
  | non | bl (b : Bool) | int (i : Int) | str (x : Str) | tyc (n : String) | cst (c : Nat)
  /-- a slot: read in place; frozen; handed on -/
  | var (i : Nat) | fz (i : Nat) | mv (i : Nat)
  | bop (o : Operator) (a b : E) | cmp (o : CmpOp) (a b : E) | chn (o o' : CmpOp) (a b c : E) | neg (a : E)
  | andV (a b : E) | orV (a b : E) | notV (a : E) | ite (c a b : E)
  | bi (b : Bi) (as : List E) | ty (t : Bt) (as : List E) | mth (m : Mt) (a : E) (as : List E)
  | lr1 (a : E) | lr2 (a b : E) | dict0 | dict1 (k : Str) (n : Int) | dicti (k : Int) (b : Bool) | sset (a : E)
  /-- _law_heard(lambda: a): the exception, or what a comes to -/
  | heard (a : E)
  /-- isinstance(a, n), a an exception; a.value -/
  | isx (a : E) (n : Str) | xval (a : E)
  /-- lambda x: isinstance(x, C); f(a), f in a slot -/
  | isf (C : Str) | callf (i : Nat) (a : E)
  | idx (a b : E) | slc (a : E) (lo hi : E) | rev (a : E)
  | tup (as : List E) | lst (as : List E) | star (a : E)
  | lc (elt : E) (tg : Tgt) (it : E) (ifs : List E) (own : List Nat)
  | call (f : Nat) (as : List E)
  /-- what is walked: a list or tuple; range; enumerate; zip -/
  | rng1 (a : E) | rng2 (a b : E) | enum (a : E) | zip (a b : E) | keys (i : Nat)
  /-- a.get(k, x); sorted(a.items()); sorted(a.values()); a.count(b), a tuple; sorted(set(a)), ints -/
  | dget (i : Nat) (k x : E) | sitems (a : E) | svals (a : E) | tcnt (i : Nat) (b : E) | isort (a : E)
  /-- tuple(a), a list, known; its + ; dict of it; dict of a list; as any tuple -/
  | ptup (a : E) | pcat (i j : Nat) | pdict (i : Nat) | dictl (a : E) | weak (a : E)
  /-- {kx: vx for tg in it if ..} -/
  | dc (kx vx : E) (tg : Tgt) (it : E) (ifs : List E) (own : List Nat)
  deriving Inhabited

inductive S where
  | set (i : Nat) (e : E) | setT (tg : Tgt) (e : E) | par (is : List Nat) (es : List E) | parT (is : List Nat) (es : List E) | aug (i : Nat) (o : Operator) (e : E)
  | sidx (i : Nat) (k e : E) | dset (i : Nat) (k e : E) | app (i : Nat) (e : E) | ext (i : Nat) (e : E)
  | ex (e : E) | ret (e : E) | retN
  | ite (c : E) (a b : List S) | whl (c : E) (a : List S) | for_ (tg : Tgt) (it : E) (a : List S)
  | brk | cnt | pas | nev
  | raise (C : Str) (e : E)
  /-- l = [lambda: e, ..]; l.append(lambda: e); .. c = [_law_heard(x)[0] for x in l] -/
  | hears (l c : Nat) (es : List E)
  /-- l = [lambda: e, ..]; ..; return _law_all_refuse(l, lambda miss: isinstance(miss, C), v) | if not _law_all_refuse(..): return False -/
  | refuse (l : Nat) (es : List E) (C : Str) (v : E) (fin : Bool)
  deriving Inhabited

inductive SR where
  | nx (E : SE) | rt (s : Sl) (E : SE) | bk (E : SE) | ct (E : SE) | exc (C : Str) (x : D) (E : SE) | bad

def truthD : D → Option Bool
  | .non => some false
  | .bl b => some b
  | .int i => some (i != 0)
  | .str x => if x.length ≤ sizeLine then some ((x.length : Int) != 0) else none
  | .lst xs => some (!xs.isEmpty)
  | .tup xs => some (!xs.isEmpty)
  | .scr ns => some (!ns.isEmpty)
  | .dk ks _ => some (!ks.isEmpty)
  | _ => none
def M.opt {α} : Option α → M α
  | some a => M.pure a
  | none => M.bad
def mtS (m : Mt) (d : D) (ds : List D) : Option Sl := match m, d, ds with
  | .upper, .str x, [] => if x.length ≤ 5592405 then some (.val (.str (Txt.upper x))) else none
  | .lcount, .lst xs, [.int i] => (intsOf xs).map fun ns => vI (ns.count i)
  | _, _, _ => none
def mtP (m : Mt) : List D → Option Sl
  | d :: r => mtS m d r
  | _ => none
/-- a value for a display: frozen -/
def frozen : Sl → Sl
  | .own d => .val d
  | s => s
def popS (i : Nat) : M Sl := fun E => match E[i]? with
  | some (.own d) => .ok (.own d) (E.set i .no)
  | some (.val d) => .ok (.val d) E
  | _ => .bad
def fzS (i : Nat) : M Sl := fun E => match E[i]? with
  | some (.own d) => .ok (.val d) (E.set i (.val d))
  | some (.val d) => .ok (.val d) E
  | _ => .bad
def varS (i : Nat) : M Sl := fun E => match E[i]? with
  | some (.val d) => .ok (.val d) E
  | _ => .bad
mutual
def bindT : Tgt → D → SE → Option SE
  | .nm i, d, E => if i < E.length then some (E.set i (.val d)) else none
  | .tup ts, .tup ds, E => bindTs ts ds E
  | .tup _, _, _ => none
def bindTs : List Tgt → List D → SE → Option SE
  | [], [], E => some E
  | t :: ts, d :: ds, E => (bindT t d E).bind (bindTs ts ds)
  | _, _, _ => none
end
def keyOf : Key → D
  | .inl i => .int i
  | .inr x => .str x
/-- a dict of a slot is walked by its keys; it stays from then on -/
def keysM (i : Nat) : M (List D) := fun E => match E[i]? with
  | some (.own (.dk ks ds)) => .ok (ks.map keyOf) (E.set i (.val (.dz ks ds)))
  | some (.val (.dz ks _)) => .ok (ks.map keyOf) E
  | _ => .bad
/-- the items of what is walked -/
def itemsD : D → Option (List D)
  | .lst xs => some xs
  | .tup xs => some xs
  | .ptup xs => some xs
  | _ => none
def rngD (lo hi : Int) : List D := (List.range (hi - lo).toNat).map fun (i : Nat) => .int (lo + i)
def enumD (xs : List D) : List D := xs.zipIdx.map fun p => .tup [.int p.2, p.1]
def zipD (xs ys : List D) : List D := (xs.zip ys).map fun p => .tup [p.1, p.2]
/-- pairs of small ints, sorted, each once -/
def prOf : D → Option (Int × Int)
  | .tup [.int a, .int b] => if (0 ≤ a ∧ a < 2 ^ 31) ∧ (0 ≤ b ∧ b < 2 ^ 31) then some (a, b) else none
  | _ => none
def prsOf : List D → Option (List (Int × Int))
  | [] => some []
  | d :: r => match prOf d, prsOf r with
    | some p, some ps => some (p :: ps)
    | _, _ => none
def ltP (p q : Int × Int) : Bool := decide (p.1 < q.1) || (decide (p.1 = q.1) && decide (p.2 < q.2))
def insP (p : Int × Int) : List (Int × Int) → List (Int × Int)
  | [] => [p]
  | q :: r => if ltP p q then p :: q :: r else if p = q then q :: r else q :: insP p r
def sortP : List (Int × Int) → List (Int × Int)
  | [] => []
  | p :: r => insP p (sortP r)
def prD (p : Int × Int) : D := .tup [.int p.1, .int p.2]
def ssetS : D → Option Sl
  | .lst xs => match prsOf xs with
    | some ps => if ps.length < 64 then some (.own (.lst ((sortP ps).map prD))) else none
    | none => none
  | _ => none
def lrS (lo hi : Int) : Option Sl := if (-(2 ^ 62) ≤ lo ∧ lo < 2 ^ 62) ∧ (-(2 ^ 62) ≤ hi ∧ hi < 2 ^ 62) ∧ (hi - lo).toNat ≤ 2 ^ 24 then some (.own (.lst (rngD lo hi))) else none
def lr1S : D → Option Sl
  | .int n => lrS 0 n
  | _ => none
def lr2S : D → D → Option Sl
  | .int m, .int n => lrS m n
  | _, _ => none
def negS : D → Option Sl
  | .int i => some (vI (-i))
  | _ => none
def revS : D → Option Sl
  | .lst xs => some (.own (.lst xs.reverse))
  | .tup xs => some (.val (.tup xs.reverse))
  | _ => none
def isNonE : E → Bool
  | .non => true
  | _ => false
def partD : Bool → D → Option (Option Int)
  | true, .non => some none
  | false, .int i => some (some i)
  | _, _ => none
def partO (b : Bool) (o : Opd) : Opd := .ex (M.bind (evA [o]) fun ds => M.opt (match ds with | [d] => (partD b d).map fun _ => .val d | _ => none))
def slP (bl bh : Bool) (ds : List D) : Option Sl := match ds with
  | [x, l, u] => match partD bl l, partD bh u with
    | some lo, some hi => slS x lo hi
    | _, _ => none
  | _ => none
/-- the slots' values gone -/
def wipeE (E : SE) : List Nat → SE
  | [] => E
  | i :: r => (wipeE E r).set i .no
/-- .. put back from E0 -/
def backE (E0 E : SE) : List Nat → SE
  | [] => E
  | i :: r => (backE E0 E r).set i (E0.getD i .no)
def notOwn (E : SE) (own : List Nat) : Bool := own.all fun i => match E[i]? with
  | some (.own _) => false
  | some _ => true
  | none => false
/-- a comprehension's turns: the slots own are of its own -/
def lcI (bt : D → SE → Option SE) (tests : List (M Bool)) (elt : M Sl) (own : List Nat) : List D → List D → M (List D)
  | [], acc => M.pure acc
  | d :: r, acc => fun E => match bt d (wipeE E own) with
    | none => .bad
    | some E1 => (allT tests E1).bind fun b => fun E2 =>
      if b then (elt E2).bind fun s => fun E3 => if acc.length < sizeLine then lcI bt tests elt own r (acc ++ [s.d]) (wipeE E3 own) else .bad
      else lcI bt tests elt own r acc (wipeE E2 own)
where
  allT : List (M Bool) → M Bool
    | [] => M.pure true
    | t :: r => M.bind t fun b => if b then allT r else M.pure false
/-- in its place, or at the end -/
def putZ {β : Type} (kvs : List (Key × β)) (k : Key) (v : β) : List (Key × β) :=
  if (kvs.any fun kv => decide (kv.1 = k)) = true then kvs.map (fun kv => if kv.1 = k then (kv.1, v) else kv) else kvs ++ [(k, v)]
/-- a dict comprehension's turns -/
def dcI (bt : D → SE → Option SE) (tests : List (M Bool)) (kx vx : M Sl) (own : List Nat) : List D → List (Key × D) → M (List (Key × D))
  | [], acc => M.pure acc
  | d :: r, acc => fun E => match bt d (wipeE E own) with
    | none => .bad
    | some E1 => (lcI.allT tests E1).bind fun b => fun E2 =>
      if b then (kx E2).bind fun t => fun E3 => (vx E3).bind fun s => fun E4 => match t with
        | .val t => (match keyD t with
          | some k => if acc.length < sizeLine then dcI bt tests kx vx own r (putZ acc k s.d) (wipeE E4 own) else .bad
          | none => .bad)
        | _ => .bad
      else dcI bt tests kx vx own r acc (wipeE E2 own)
/-- d.get(k, x) -/
def getS : List D → Option Sl
  | [d, k, x] => match dictD d, keyD k with
    | some (ks, ds), some k => if flatD x then some (.val ((valZ ks ds k).getD x)) else none
    | _, _ => none
  | _ => none
def isDictAt (E : SE) (i : Nat) : Bool := match E[i]? with
  | some (.own d) => (dictD d).isSome
  | some (.val d) => (dictD d).isSome
  | _ => false
def keyInt : Key → Option Int
  | .inl i => some i
  | .inr _ => none
/-- sorted(d.items()) of whole numbers, few -/
def sitemsS (d : D) : Option Sl := match dictD d with
  | some (ks, ds) => match keyInts ks, intsOf ds with
    | some is, some ns => if ks.length ≤ 1000 then some (.own (.lst (((is.zip ns).mergeSort leII).map prD))) else none
    | _, _ => none
  | none => none
/-- sorted(d.values()) -/
def svalsS (d : D) : Option Sl := match dictD d with
  | some (_, ds) => match intsOf ds with
    | some ns => if ns.length ≤ 1000 then some (.own (.lst ((ns.mergeSort leI).map .int))) else none
    | none => none
  | none => none
def pairK : D → Option (Key × D)
  | .tup [k, v] => (keyD k).map fun k => (k, v)
  | _ => none
def pairsK : List D → Option (List (Key × D))
  | [] => some []
  | d :: r => match pairK d, pairsK r with
    | some p, some ps => some (p :: ps)
    | _, _ => none
/-- a dict's own, of pairs, later ones win -/
def dkOf (ps : List (Key × D)) : Sl := .own (.dk ((ps.foldl (fun acc kv => putZ acc kv.1 kv.2) []).map (·.1)) ((ps.foldl (fun acc kv => putZ acc kv.1 kv.2) []).map (·.2)))
def dictlS (a : D) : Option Sl := match a with
  | .lst xs => (pairsK xs).map dkOf
  | _ => none
def pdictM (i : Nat) : M Sl := fun E => match E[i]? with
  | some (.val (.ptup xs)) => (M.opt ((pairsK xs).map dkOf)) E
  | _ => .bad
def pcatM (i j : Nat) : M Sl := fun E => match E[i]?, E[j]? with
  | some (.val (.ptup xs)), some (.val (.ptup ys)) => if xs.length + ys.length ≤ sizeLine then .ok (.val (.ptup (xs ++ ys))) E else .bad
  | _, _ => .bad
def ptupS (a : D) : Option Sl := match a with
  | .lst xs => some (.val (.ptup xs))
  | _ => none
def tcntS (xs : List D) (b : D) : Option Sl := match b with
  | .int i => (intsOf xs).map fun ns => vI (ns.count i)
  | _ => none
def weakS : Sl → Sl
  | .val d => .val (weakD d)
  | s => s
def insI (i : Int) : List Int → List Int
  | [] => [i]
  | j :: r => if i < j then i :: j :: r else if i = j then j :: r else j :: insI i r
def setI : List Int → List Int
  | [] => []
  | i :: r => insI i (setI r)
/-- sorted(set(t)) -/
def isortS (a : D) : Option Sl := match a with
  | .tup xs => match intsOf xs with
    | some ns => if (setI ns).length < 64 ∧ ns.length ≤ 1000 then some (.own (.lst ((setI ns).map .int))) else none
    | none => none
  | _ => none
/-- values of arguments; a held slot's object is handed out -/
inductive Arg where
  | slot (i : Nat)
  | ex (f : M Sl)
def evC : List Arg → M (List Sl)
  | [] => M.pure []
  | .slot i :: r => do let _ ← slotAt i; let ss ← evC r; let s ← popS i; M.pure (s :: ss)
  | .ex f :: r => do let s ← f; let ss ← evC r; M.pure (s :: ss)
/-- behind a call: the slots that were handed out are put back -/
def putBack : List Arg → List Sl → List Sl → SE → SE
  | .slot i :: r, .own _ :: ss, p :: ps, E => (putBack r ss ps E).set i p
  | _ :: r, _ :: ss, _ :: ps, E => putBack r ss ps E
  | _, _, _, E => E
def callS (F : M Sl) (as : List Arg) : M Sl := fun E => match evC as E with
  | .ok ss E1 => match F ss with
    | .ok s ps => .ok s (putBack as ss ps E1)
    | .exc C x ps => .exc C x (putBack as ss ps E1)
    | .bad => .bad
  | .exc C x E1 => .exc C x E1
  | .bad => .bad

def heardS (m : M Sl) : M Sl := fun E => match m E with
  | .ok s E1 => .ok (.val (.tup [.non, s.d])) E1
  | .exc C x E1 => .ok (.val (.tup [.exc C x, .non])) E1
  | .bad => .bad
/-- isinstance of an exception of the class C -/
def excIs (C n : Str) : Bool := C == n || n == ("PassError" : Str) || n == ("ValueError" : Str)
def isxS (n : Str) : D → Option Sl
  | .exc C _ => some (vB (excIs C n))
  | _ => none
def xvalS : D → Option Sl
  | .exc _ x => some (.val x)
  | _ => none
/-- _law_heard(..)[0] -/
def elM (m : M Sl) : M Sl := M.bind (evA [.ex (heardS m), .ex (M.pure (vI 0))]) fun ds => M.opt (match ds with | [x, y] => ixS x y | _ => none)
def seqM : List (M Sl) → M (List D)
  | [] => M.pure []
  | m :: r => M.bind m fun s => M.bind (seqM r) fun ds => M.pure (s.d :: ds)
section
variable (Φ : Nat → M Sl) (C : Nat → D)
mutual
def ev : E → M Sl
  | .non => M.pure (.val .non)
  | .bl b => M.pure (vB b)
  | .int i => M.pure (vI i)
  | .str x => M.pure (.val (.str x))
  | .tyc n => M.pure (.val (.ty n))
  | .cst c => M.pure (.val (C c))
  | .var i => varS i
  | .fz i => fzS i
  | .mv i => popS i
  | .bop o a b => M.bind (evA [opd a, opd b]) fun ds => M.opt (match ds with | [x, y] => bopS o x y | _ => none)
  | .cmp o a b => M.bind (evA [opd a, opd b]) fun ds => M.opt (match ds with | [x, y] => cmpS o x y | _ => none)
  | .neg a => M.bind (evA [opd a]) fun ds => M.opt (match ds with | [x] => negS x | _ => none)
  | .andV a b => M.bind (ev a) fun s => match s with
    | .val (.bl true) => ev b
    | .val (.bl false) => M.pure (vB false)
    | _ => M.bad
  | .orV a b => M.bind (ev a) fun s => match s with
    | .val (.bl false) => ev b
    | .val (.bl true) => M.pure (vB true)
    | _ => M.bad
  | .notV a => M.bind (ev a) fun s => match s with
    | .val (.bl b) => M.pure (vB (!b))
    | _ => M.bad
  | .ite c a b => M.bind (evT c) fun k => if k then ev a else ev b
  | .chn o o' a b c => M.bind (evA [opd a, opd b]) fun ds => match ds with
    | [.int x, .int y] => match cmpS o (.int x) (.int y) with
      | some (.val (.bl true)) => M.bind (evA [opd c]) fun es => M.opt (match es with | [.int z] => cmpS o' (.int y) (.int z) | _ => none)
      | some (.val (.bl false)) => M.pure (vB false)
      | _ => M.bad
    | _ => M.bad
  | .bi b as => M.bind (evA (opds as)) fun ds => M.opt (biS b ds)
  | .ty t as => M.bind (evA (opds as)) fun ds => M.opt (tyS t ds)
  | .mth m a as => M.bind (evA (opd a :: opds as)) fun ds => M.opt (mtP m ds)
  | .idx a b => M.bind (evA [opd a, opd b]) fun ds => M.opt (match ds with | [x, y] => ixS x y | _ => none)
  | .slc a lo hi => M.bind (evA [opd a, partO (isNonE lo) (opd lo), partO (isNonE hi) (opd hi)]) fun ds => M.opt (slP (isNonE lo) (isNonE hi) ds)
  | .rev a => M.bind (evA [opd a]) fun ds => M.opt (match ds with | [x] => revS x | _ => none)
  | .tup as => M.bind (evD as) fun ds => if ds.length ≤ sizeLine then M.pure (.val (.tup ds)) else M.bad
  | .lst as => M.bind (evD as) fun ds => if ds.length ≤ sizeLine then M.pure (.own (.lst ds)) else M.bad
  | .star _ => M.bad
  | .lc elt tg it ifs own => M.bind (evI it) fun ds => fun E => if notOwn E own then
      (match lcI (bindT tg) (evTs ifs) (ev elt) own ds [] (wipeE E own) with
      | .ok acc E1 => .ok (.own (.lst acc)) (backE E E1 own)
      | _ => .bad) else .bad
  | .call f as => callS (Φ f) (args as)
  | .heard a => heardS (ev a)
  | .isf C => M.pure (.val (.isf C))
  | .callf i a => fun E => match E[i]? with
    | some (.val (.isf C)) => M.bind (evA [opd a]) (fun ds => M.opt (match ds with | [x] => isxS C x | _ => none)) E
    | _ => .bad
  | .isx a n => M.bind (evA [opd a]) fun ds => M.opt (match ds with | [x] => isxS n x | _ => none)
  | .xval a => M.bind (evA [opd a]) fun ds => M.opt (match ds with | [x] => xvalS x | _ => none)
  | .dict0 => M.pure (.own (.dk [] []))
  | .dict1 k n => M.pure (.own (.dk [.inr k] [.int n]))
  | .dicti k b => M.pure (.own (.dk [.inl k] [.bl b]))
  | .sset a => M.bind (evA [opd a]) fun ds => M.opt (match ds with | [x] => ssetS x | _ => none)
  | .lr1 a => M.bind (evA [opd a]) fun ds => M.opt (match ds with | [x] => lr1S x | _ => none)
  | .lr2 a b => M.bind (evA [opd a, opd b]) fun ds => M.opt (match ds with | [x, y] => lr2S x y | _ => none)
  | .rng1 _ => M.bad
  | .rng2 _ _ => M.bad
  | .enum _ => M.bad
  | .zip _ _ => M.bad
  | .keys _ => M.bad
  | .dget i k x => fun E => if isDictAt E i then M.bind (evA [.slot i, opd k, opd x]) (fun ds => M.opt (getS ds)) E else .bad
  | .sitems a => M.bind (evA [opd a]) fun ds => M.opt (match ds with | [x] => sitemsS x | _ => none)
  | .svals a => M.bind (evA [opd a]) fun ds => M.opt (match ds with | [x] => svalsS x | _ => none)
  | .tcnt i b => fun E => match E[i]? with
    | some (.val (.ptup xs)) => M.bind (evA [opd b]) (fun ds => M.opt (match ds with | [y] => tcntS xs y | _ => none)) E
    | _ => .bad
  | .ptup a => M.bind (evA [opd a]) fun ds => M.opt (match ds with | [x] => ptupS x | _ => none)
  | .pcat i j => pcatM i j
  | .pdict i => pdictM i
  | .dictl a => M.bind (evA [opd a]) fun ds => M.opt (match ds with | [x] => dictlS x | _ => none)
  | .weak a => M.bind (ev a) fun s => M.pure (weakS s)
  | .isort a => M.bind (evA [opd a]) fun ds => M.opt (match ds with | [x] => isortS x | _ => none)
  | .dc kx vx tg it ifs own => M.bind (evI it) fun ds => fun E => if notOwn E own then
      (match dcI (bindT tg) (evTs ifs) (ev kx) (ev vx) own ds [] (wipeE E own) with
      | .ok acc E1 => .ok (.own (.dk (acc.map (·.1)) (acc.map (·.2)))) (backE E E1 own)
      | _ => .bad) else .bad
def opd : E → Opd
  | .var i => .slot i
  | e => .ex (ev e)
def opds : List E → List Opd
  | [] => []
  | e :: r => opd e :: opds r
def args : List E → List Arg
  | [] => []
  | .var i :: r => .slot i :: args r
  | e :: r => .ex (ev e) :: args r
/-- items of a display, frozen -/
def evD : List E → M (List D)
  | [] => M.pure []
  | .star a :: r => M.bind (ev a) fun s => match s with
    | .val (.tup xs) => M.bind (evD r) fun ds => M.pure (xs ++ ds)
    | .val (.lst xs) => M.bind (evD r) fun ds => M.pure (xs ++ ds)
    | .own (.lst xs) => M.bind (evD r) fun ds => M.pure (xs ++ ds)
    | _ => M.bad
  | e :: r => M.bind (ev e) fun s => M.bind (evD r) fun ds => M.pure (s.d :: ds)
def evT : E → M Bool
  | .notV a => M.bind (evT a) fun b => M.pure (!b)
  | .andV a b => M.bind (evT a) fun k => if k then evT b else M.pure false
  | .orV a b => M.bind (evT a) fun k => if k then M.pure true else evT b
  | .ite c a b => M.bind (evT c) fun k => if k then evT a else evT b
  | e => M.bind (evA [opd e]) fun ds => M.opt (match ds with | [d] => truthD d | _ => none)
def evs : List E → List (M Sl)
  | [] => []
  | e :: r => ev e :: evs r
def evTs : List E → List (M Bool)
  | [] => []
  | e :: r => evT e :: evTs r
/-- what is walked -/
def evI : E → M (List D)
  | .rng1 a => M.bind (ev a) fun s => match s with
    | .val (.int n) => if -(2 ^ 62) ≤ n ∧ n < 2 ^ 62 then M.pure (rngD 0 n) else M.bad
    | _ => M.bad
  | .rng2 a b => M.bind (evA [opd a, opd b]) fun ds => match ds with
    | [.int m, .int n] => if (-(2 ^ 62) ≤ m ∧ m < 2 ^ 62) ∧ (-(2 ^ 62) ≤ n ∧ n < 2 ^ 62) then M.pure (rngD m n) else M.bad
    | _ => M.bad
  | .enum a => M.bind (evC [.ex (ev a)]) fun ss => M.opt (match ss with
    | [s] => (itemsD s.d).map enumD
    | _ => none)
  | .zip a b => M.bind (evC [.ex (ev a), .ex (ev b)]) fun ss => M.opt (match ss with
    | [s, t] => match s.d, t.d with
      | .lst xs, .lst ys => some (zipD xs ys)
      | .tup xs, .tup ys => some (zipD xs ys)
      | _, _ => none
    | _ => none)
  | .keys i => keysM i
  | e => M.bind (ev e) fun s => M.opt (itemsD s.d)
end

def SR.then (r : SR) (f : SE → SR) : SR := match r with
  | .nx E => f E
  | r => r
/-- a value, then a statement's end -/
def SR.of {α : Type} (r : R α) (f : α → SE → SR) : SR := match r with
  | .ok a E => f a E
  | .exc C x E => .exc C x E
  | .bad => .bad
def forI (bt : D → SE → Option SE) (b : SE → SR) : List D → SE → SR
  | [], E => .nx E
  | d :: r, E => match bt d E with
    | none => .bad
    | some E1 => match b E1 with
      | .nx E2 => forI bt b r E2
      | .ct E2 => forI bt b r E2
      | .bk E2 => .nx E2
      | .rt s E2 => .rt s E2
      | .exc C x E2 => .exc C x E2
      | .bad => .bad
def whlI (c : M Bool) (b : SE → SR) : Nat → SE → SR
  | 0, _ => .bad
  | n + 1, E => match c E with
    | .ok true E1 => (match b E1 with
      | .nx E2 => whlI c b n E2
      | .ct E2 => whlI c b n E2
      | .bk E2 => .nx E2
      | .rt s E2 => .rt s E2
      | .exc C x E2 => .exc C x E2
      | .bad => .bad)
    | .ok false E1 => .nx E1
    | .exc C x E1 => .exc C x E1
    | .bad => .bad
def fuel : Nat := 2 ^ 64
/-- a value is stored in a slot -/
def putS (i : Nat) (s : Sl) : SE → SR := fun E => match s with
  | .no => .bad
  | s => if i < E.length then .nx (E.set i s) else .bad
def putAll : List Nat → List Sl → SE → SR
  | [], [], E => .nx E
  | i :: r, s :: ss, E => (putS i s E).then (putAll r ss)
  | _, _, _ => .bad
def isOwnL (E : SE) (i : Nat) : Bool := match E[i]? with
  | some (.own (.lst _)) => true
  | _ => false
def appD (s : Sl) : D → Option D
  | .lst xs => if xs.length < sizeLine then some (.lst (xs ++ [s.d])) else none
  | _ => none
def extD (s : Sl) : D → Option D
  | .lst xs => (match s.d with
    | .lst ys => if xs.length + ys.length ≤ sizeLine then some (.lst (xs ++ ys)) else none
    | _ => none)
  | _ => none
def setD (d k v : D) : Option D := match d, k with
  | .lst xs, .int i => (ixN xs.length i).map fun j => .lst (xs.set j v)
  | _, _ => none
def isOwnD (E : SE) (i : Nat) : Bool := match E[i]? with
  | some (.own (.dk _ _)) => true
  | _ => false
def setK (d k v : D) : Option D := match d with
  | .dk ks ds => match keyD k with
    | some key => if ks.length < sizeLine ∧ ks.length = ds.length then some (.dk ((putZ (ks.zip ds) key v).map (·.1)) ((putZ (ks.zip ds) key v).map (·.2))) else none
    | none => none
  | _ => none
/-- a held slot's object is changed -/
def updS (i : Nat) (f : D → Option D) : SE → SR := fun E => match E[i]? with
  | some (.own d) => match f d with
    | some d' => .nx (E.set i (.own d'))
    | none => .bad
  | _ => .bad
def ARE : E := .bi .all [.lc (.andV (.callf 1 (.var 5)) (.andV (.isx (.var 5) "ValueError") (.cmp .Eq (.bi .repr [.xval (.var 5)]) (.bi .repr [.var 2])))) (.nm 5) (.fz 3) [] [5]]
/-- _law_all_refuse(..) -/
def arM (ms : List (M Sl)) (C : Str) (mv : M Sl) : M Bool := fun E => match mv E with
  | .ok s E1 => (match seqM (ms.map elM) E1 with
    | .ok rs E2 => (match ev (fun _ => M.bad) (fun _ => .non) ARE [.no, .val (.isf C), .val s.d, .own (.lst rs), .no, .no] with
      | .ok (.val (.bl b)) _ => .ok b E2
      | _ => .bad)
    | _ => .bad)
  | _ => .bad
/-- the slot l is made a list of n lambdas, then f -/
def preS (l n : Nat) (f : SE → SR) : SE → SR := fun E => if l < E.length ∧ n < sizeLine then f (E.set l .no) else .bad
def endAR (fin : Bool) (b : Bool) : SE → SR := fun E1 => if fin then .rt (vB b) E1 else if b then .nx E1 else .rt (vB false) E1
def refuseS (l : Nat) (ms : List (M Sl)) (C : Str) (mv : M Sl) (fin : Bool) : SE → SR := preS l ms.length fun E => .of (arM ms C mv E) (endAR fin)
def hearsS (l c : Nat) (ms : List (M Sl)) : SE → SR := preS l ms.length fun E => .of (seqM (ms.map elM) E) fun rs => putS c (.own (.lst rs))
def augO (o : Operator) (a b : D) : Option Sl := match o, a, b with
  | .Add, .int i, .int j => some (vI (i + j))
  | .Sub, .int i, .int j => some (vI (i - j))
  | _, _, _ => none
mutual
def ex : S → SE → SR
  | .set i e => fun E => .of (ev Φ C e E) fun s => putS i s
  | .setT tg e => fun E => .of (ev Φ C e E) fun s E1 => match s with
    | .val (.tup ds) => (match bindT tg (.tup ds) E1 with
      | some E2 => .nx E2
      | none => .bad)
    | _ => .bad
  | .par is es => fun E => .of (evC (args Φ C es) E) fun ss => putAll is ss
  | .parT is es => fun E => .of (evC (args Φ C es) E) fun ss => putAll is ss
  | .aug i o e => fun E => .of (evA [.slot i, .ex (ev Φ C e)] E) fun ds E1 => match ds with
    | [a, b] => (match augO o a b with
      | some s => putS i s E1
      | none => .bad)
    | _ => .bad
  | .sidx i k e => fun E => if isOwnL E i then .of (evC [.ex (ev Φ C e), .ex (ev Φ C k)] E) fun ss => (match ss with
    | [v, .val k] => updS i fun d => setD d k v.d
    | _ => fun _ => .bad) else .bad
  | .dset i k e => fun E => if isOwnD E i then .of (evC [.ex (ev Φ C e), .ex (ev Φ C k)] E) fun ss => (match ss with
    | [v, .val k] => updS i fun d => setK d k v.d
    | _ => fun _ => .bad) else .bad
  | .app i e => fun E => if isOwnL E i then .of (ev Φ C e E) fun s => updS i (appD s) else .bad
  | .ext i e => fun E => if isOwnL E i then .of (ev Φ C e E) fun s => updS i (extD s) else .bad
  | .ex e => fun E => .of (ev Φ C e E) fun _ => .nx
  | .ret e => fun E => .of (ev Φ C e E) .rt
  | .retN => .rt (.val .non)
  | .ite c a b => fun E => .of (evT Φ C c E) fun k => if k then exs a else exs b
  | .whl c a => whlI (evT Φ C c) (exs a) fuel
  | .for_ tg it a => fun E => .of (evI Φ C it E) fun ds => forI (bindT tg) (exs a) ds
  | .brk => .bk
  | .cnt => .ct
  | .pas => .nx
  | .nev => fun _ => .bad
  | .raise n e => fun E => .of (ev Φ C e E) fun s E1 => .exc n s.d E1
  | .hears l c es => hearsS l c (evs Φ C es)
  | .refuse l es n v fin => refuseS l (evs Φ C es) n (ev Φ C v) fin
def exs : List S → SE → SR
  | [] => .nx
  | s :: r => fun E => (ex s E).then (exs r)
end
/-- a def of n slots: its parameters' values, then what it comes to; the slots in rb are stored to -/
def fnS (n : Nat) (rb : List Nat) (body : List S) : M Sl := fun ss =>
  match exs Φ C body (ss ++ List.replicate (n - ss.length) .no) with
  | .rt s E => .ok s ((wipeE E rb).take ss.length)
  | .nx E => .ok (.val .non) ((wipeE E rb).take ss.length)
  | .exc c x E => .exc c x ((wipeE E rb).take ss.length)
  | _ => .bad
end
end Lw
end

section
set_option Elab.async false
set_option linter.all false
set_option maxRecDepth 100000
set_option maxHeartbeats 4000000
/-! L7: a def's promise by its IR; calls -/
namespace Lw
open PySem L2
variable [TabInfo]

/-- a def's promise: what F comes to -/
def spF (K : PySem.W.Frag) (mg : Str → Option Value) (np : Nat) (F : M Sl) : Sp := fun vs H Q Ex => vs.length = np ∧ TEof K mg (fun c d _ H' => Ex c d H') F (vs.map some) H Q
/-- the def at f keeps the promise (by the layer's CX: it may let an exception out), where no built-in's repr runs around -/
structure FOk (P : Program) (w : World) (K : PySem.W.Frag) (mg : Str → Option Value) (base : Heap) (k : Nat) (f : Addr) (fd : FuncData) (ps : List Str) (sp : Sp) : Prop where
  len : ∀ vs H Q E, sp vs H Q E → vs.length = ps.length
  run : ∀ (A : Around) (outer : List PySem.Env) (s : Shared) (H : Hp) (args : Args) (us : List Value) (vs : List V) (Q : VK) (E : XK), Room k A → A.guards = some [] → Env0 P w K mg base A outer s H → BindsTo s fd args (ps.zip us) → Vals vs us → sp vs H Q E →
    codeAny (model P w) A (.call (.ref f) args) (CR (L2.CX P w) outer P w H s Q E) s
theorem FOk.mono {P w K mg base j k f fd ps sp} (F : FOk P w K mg base j f fd ps sp) (h : j ≤ k) : FOk P w K mg base k f fd ps sp :=
  ⟨F.len, fun A outer s H args us vs Q E hr => F.run A outer s H args us vs Q E (hr.mono h)⟩

/-- what is known of a def that is called: its name, how many parameters -/
structure FnE where
  name : Str
  np : Nat
  kws : List (Nat × List Str) := []
/-- .. as it stands -/
structure FnH (P : Program) (w : World) (K : PySem.W.Frag) (mg : Str → Option Value) (base : Heap) (k : Nat) (e : FnE) (F : M Sl) : Prop where
  ex : ∃ f fd ps, mg e.name = some (.ref f) ∧ PySem.W.keepIn K (.ref f) = true ∧ Binds K fd ps [] ∧ (∀ q ∈ e.kws, q.1 + q.2.length = e.np ∧ ∀ (s : Shared) (us ws : List Value), K.In s.heap → us.length = q.1 → ws.length = q.2.length → BindsTo s fd ⟨us, q.2.zip ws⟩ (ps.zip (us ++ ws))) ∧ ps.length = e.np ∧ FOk P w K mg base k f fd ps (spF K mg e.np F)

section
variable {X : Cx} {k : Nat} {f : Addr} {fd : FuncData} {ps : List Str} {sp : Sp} {E : XK}
/-- what is raised within is wished for at the slots σ -/
def PassesS (X : Cx) (σ : St) (E : XK) : Prop := ∀ (pins : List (Addr × Obj)) (H : Hp) (s : Shared) (e : Value) (s' : Shared), Inv X pins σ H s → L2.CX X.prog X.w X.stack H s E e s' → X.xe e s'
theorem passesS {W : WX} (tk : Takes X W) (σ : St) : PassesS X σ (fun c d H => W c d σ H) := fun pins H s e s' I c => tk e s' (XE.of_call I (fun _ _ _ z => z) c)
theorem run_fk {pins : List (Addr × Obj)} {σ : St} {H : Hp} {s : Shared} {Q : VK} {us ws : List Value} {vs : List V} {ks : List Str} (F : FOk X.prog X.w X.K X.mg X.base k f fd ps sp) (hr : Room k X.A) (hg : X.A.guards = some []) (hx : PassesS X σ E)
    (I : Inv X pins σ H s) (hbt : BindsTo s fd ⟨us, ks.zip ws⟩ (ps.zip (us ++ ws))) (r : Vals vs (us ++ ws)) (h : sp vs H Q E) : wpAny (model X.prog X.w) X.A (call (.ref f) us (ks.zip ws)) (EP X pins σ Q) X.xe s := by
  refine wpAny_call (codeAny_mono (F.run X.A X.stack s H ⟨us, ks.zip ws⟩ (us ++ ws) vs Q E hr hg I.env0 hbt r h) fun r s' hq => ?_)
  match r, hq with
  | .error e, hq => exact hx pins H s e s' I hq
  | .ok (.ret u), hq => exact I.after hq
  | .ok .next, hq => exact False.elim hq
  | .ok .brk, hq => exact False.elim hq
  | .ok .cont, hq => exact False.elim hq
theorem run_f {pins : List (Addr × Obj)} {σ : St} {H : Hp} {s : Shared} {Q : VK} {us : List Value} {vs : List V} (F : FOk X.prog X.w X.K X.mg X.base k f fd ps sp) (hr : Room k X.A) (hg : X.A.guards = some []) (hb : Binds X.K fd ps []) (hx : PassesS X σ E)
    (I : Inv X pins σ H s) (r : Vals vs us) (h : sp vs H Q E) : wpAny (model X.prog X.w) X.A (call (.ref f) us) (EP X pins σ Q) X.xe s := by
  have hl : us.length = ps.length := by rw [← r.length]; exact F.len _ _ _ _ h
  have hbt : BindsTo s fd ⟨us, []⟩ (ps.zip us) := by
    have := hb s us I.kIn (by simpa using hl)
    simpa using this
  refine wpAny_call (codeAny_mono (F.run X.A X.stack s H ⟨us, []⟩ us vs Q E hr hg I.env0 hbt r h) fun r s' hq => ?_)
  cases r with
  | error e => exact hx pins H s e s' I hq
  | ok fl =>
    cases fl with
    | ret u => exact I.after hq
    | next => exact False.elim hq
    | brk => exact False.elim hq
    | cont => exact False.elim hq
end
section
variable {K : PySem.W.Frag} {mg : Str → Option Value} {W : WX} {P P' P1 : Addr → Prop} {H H' H1 H0 : Hp} {σ σ' σ1 : St} {E E' E1 E0 : SE}
/-! ### slots changed -/
theorem getE_set {E : SE} {i j : Nat} {s : Sl} : (E.set i s)[j]? = if i = j then (if j < E.length then some s else none) else E[j]? := by
  by_cases h : i = j
  · subst h
    rw [if_pos rfl]
    by_cases hl : i < E.length
    · rw [if_pos hl, List.getElem?_set_self hl]
    · rw [if_neg hl, List.getElem?_eq_none (by simpa using hl)]
  · rw [if_neg h, List.getElem?_set_ne h]
/-- a slot's value is forgotten; its object is protected -/
theorem Good.out (g : Good K P H σ E) (i : Nat) : Good K (fun a => P a ∨ (∃ d, E[i]? = some (.own d) ∧ σ[i]? = some (some (.ref a)))) H σ (E.set i .no) := by
  have sub : ∀ a, OwnS σ (E.set i .no) a → OwnS σ E a ∧ ∀ d, E[i]? = some (.own d) → σ[i]? ≠ some (some (.ref a)) := fun a ⟨j, d, e1, e2⟩ => by
    rw [getE_set] at e1
    split at e1
    · split at e1 <;> cases e1
    · rename_i hij
      exact ⟨⟨j, d, e1, e2⟩, fun d' e3 e4 => hij (g.inj i j d' d a e3 e1 e4 e2)⟩
  have fz : ∀ a, Fz P σ E a → Fz (fun a => P a ∨ (∃ d, E[i]? = some (.own d) ∧ σ[i]? = some (some (.ref a)))) σ (E.set i .no) a := fun a h =>
    ⟨fun q => q.elim h.1 fun ⟨d, e1, e2⟩ => h.2 ⟨i, d, e1, e2⟩, fun q => h.2 (sub a q).1⟩
  refine ⟨by rw [List.length_set]; exact g.len, fun a q => q.elim (g.dom a) fun ⟨d, e1, e2⟩ => let ⟨o, e, _⟩ := g.ownD ⟨i, d, e1, e2⟩; ⟨o, e⟩, fun j d e => ?_, fun j d e => ?_, fun a q q' => ?_, fun j l d d' a e1 e2 e3 e4 => ?_, g.tab⟩
  · rw [getE_set] at e
    split at e
    · split at e <;> cases e
    · obtain ⟨v, e1, r⟩ := g.val j d e
      exact ⟨v, e1, r.mono fz⟩
  · rw [getE_set] at e
    split at e
    · split at e <;> cases e
    · obtain ⟨v, e1, r⟩ := g.own j d e
      exact ⟨v, e1, r.monoD fun b _ _ z => fz b z⟩
  · exact q'.elim (g.dis a (sub a q).1) fun ⟨d, e1, e2⟩ => (sub a q).2 d e1 e2
  · rw [getE_set] at e1 e2
    split at e1
    · split at e1 <;> cases e1
    · split at e2
      · split at e2 <;> cases e2
      · exact g.inj j l d d' a e1 e2 e3 e4
/-- a slot takes a value (of σ' there) -/
theorem Good.put (g : Good K (Pl P v s) H σ E) (r : ResR K (Pl P v s) σ E H v s) (hn : ∀ a, HeldBy v s a → ¬ P a) {i : Nat} (hi : i < E.length) : Good K P H (σ.set i (some v)) (E.set i s) := by
  have hiσ : i < σ.length := by rw [g.len]; exact hi
  have gσ : ∀ (j : Nat), (σ.set i (some v))[j]? = if i = j then some (some v) else σ[j]? := fun j => by
    by_cases h : i = j
    · subst h; rw [if_pos rfl, List.getElem?_set_self hiσ]
    · rw [if_neg h, List.getElem?_set_ne h]
  have gE : ∀ (j : Nat), (E.set i s)[j]? = if i = j then some s else E[j]? := fun j => by
    rw [getE_set]
    by_cases h : i = j
    · subst h; rw [if_pos rfl, if_pos rfl, if_pos hi]
    · rw [if_neg h, if_neg h]
  have sub : ∀ a, OwnS (σ.set i (some v)) (E.set i s) a → OwnS σ E a ∨ HeldBy v s a := fun a ⟨j, d, e1, e2⟩ => by
    rw [gE] at e1; rw [gσ] at e2
    by_cases h : i = j
    · rw [if_pos h] at e1 e2
      cases e1; cases e2
      exact .inr rfl
    · rw [if_neg h] at e1 e2
      exact .inl ⟨j, d, e1, e2⟩
  have fz : ∀ a, Fz (Pl P v s) σ E a → Fz P (σ.set i (some v)) (E.set i s) a := fun a h => ⟨fun q => h.1 (.inl q), fun q => (sub a q).elim h.2 fun z => h.1 (.inr z)⟩
  refine ⟨by simp [g.len], fun a q => g.dom a (.inl q), fun j d e => ?_, fun j d e => ?_, fun a q q' => ?_, fun j l d d' a e1 e2 e3 e4 => ?_, g.tab⟩
  · rw [gE] at e; rw [gσ]
    by_cases h : i = j
    · rw [if_pos h] at e ⊢
      cases e
      exact ⟨v, rfl, RepB.mono r fz⟩
    · rw [if_neg h] at e ⊢
      obtain ⟨w, e1, r⟩ := g.val j d e
      exact ⟨w, e1, r.mono fz⟩
  · rw [gE] at e; rw [gσ]
    by_cases h : i = j
    · rw [if_pos h] at e ⊢
      cases e
      obtain ⟨a, rfl, r⟩ := r
      exact ⟨a, rfl, r.monoD fun b _ _ z => fz b z⟩
    · rw [if_neg h] at e ⊢
      obtain ⟨w, e1, r⟩ := g.own j d e
      exact ⟨w, e1, r.monoD fun b _ _ z => fz b z⟩
  · exact (sub a q).elim (fun z => g.dis a z (.inl q')) fun z => hn a z q'
  · rw [gE] at e1 e2; rw [gσ] at e3 e4
    by_cases h : i = j
    · by_cases h' : i = l
      · exact h.symm.trans h'
      · rw [if_pos h] at e1 e3
        rw [if_neg h'] at e2 e4
        cases e1; cases e3
        exact absurd (Or.inr rfl) (g.dis a ⟨l, d', e2, e4⟩)
    · by_cases h' : i = l
      · rw [if_neg h] at e1 e3
        rw [if_pos h'] at e2 e4
        cases e2; cases e4
        exact absurd (Or.inr rfl) (g.dis a ⟨j, d, e1, e3⟩)
      · rw [if_neg h] at e1 e3
        rw [if_neg h'] at e2 e4
        exact g.inj j l d d' a e1 e2 e3 e4
end
end Lw
end

section
set_option Elab.async false
set_option linter.all false
set_option maxRecDepth 100000
set_option maxHeartbeats 4000000
/-! L8: readings of operations -/
namespace Lw
open PySem L2
variable [TabInfo]
theorem PE.imp {X : Cx} {e : Expr} {t t' : TE} (h : PE X e t) (i : ∀ σ H Q, t' σ H Q → t σ H Q) : PE X e t' := ⟨fun pins s σ H Q I q => h.run pins s σ H Q I (i σ H Q q)⟩
theorem PT.imp {X : Cx} {e : Expr} {t t' : TT} (h : PT X e t) (i : ∀ σ H Q, t' σ H Q → t σ H Q) : PT X e t' := ⟨fun pins s σ H Q I q => h.run pins s σ H Q I (i σ H Q q)⟩
theorem PS.imp {X : Cx} {e : Stmt} {t t' : TS} (h : PS X e t) (i : ∀ D σ H, t' D σ H → t D σ H) : PS X e t' := ⟨fun pins s σ H D I q => h.run pins s σ H D I (i D σ H q)⟩
section
variable {K : PySem.W.Frag} {mg : Str → Option Value} {W : WX} {P P' P1 : Addr → Prop} {H H' H1 H0 : Hp} {σ σ' σ1 : St} {E E' E1 E0 : SE}
theorem ExcR.less {T T' : Addr → Prop} {C : Str} {x : D} {cls : Value} {d : Option Addr} (h : ExcR K mg T H C x cls d) (m : ∀ a, T a → T' a) : ExcR K mg T' H C x cls d := by
  obtain ⟨a, b, w, q1, q2, q3, q4, q5⟩ := h
  exact ⟨a, b, w, q1, q2, q3, q4, q5.mono m⟩
/-- a result of an operation, as an expression's -/
theorem post_of {s : Sl} {v : V} {Q : VK} (g : Good K P H σ E) (g1 : Good K P1 H1 σ E1) (l1 : Lnk P σ E H P1 σ E1 H1) (hp : ∀ a, P a → P1 a) (ext : ∀ a o, H1 a = some o → H' a = some o) (r : PRes K H1 H' (Fz P1 σ E1) v s)
    (h : PostE K mg W P σ E H Q (.ok s E1)) : Q v H' := by
  cases s with
  | no => exact r.elim
  | val d =>
    refine h v H' ((g1.ext ext).less fun a z => z.elim (hp a) False.elim) ((l1.trans (Lnk.ext ext)).less fun a z => z.elim (hp a) False.elim) ?_ fun a z => z.elim
    exact RepB.mono r fun a z => ⟨fun q => z.1 (q.elim (hp a) False.elim), z.2⟩
  | own d =>
    obtain ⟨a, rfl, ha, hr⟩ := r
    have hh : ∀ b, HeldBy (.ref a) (.own d) b → b = a := fun b z => by
      have z' : V.ref a = .ref b := z
      cases z'; rfl
    obtain ⟨S, hr1, hr2⟩ := id hr
    obtain ⟨o, eo, _⟩ := hr1.mu
    have g2 := g1.fresh ha ext eo
    have np : ∀ b, HeldBy (.ref a) (.own d) b → ¬ P b := fun b z p => by
      rw [hh b z] at p
      obtain ⟨o, e⟩ := g1.dom a (hp a p)
      rw [ha] at e; cases e
    refine h _ H' (g2.less fun b z => z.elim (fun z => .inl (hp b z)) fun z => .inr (hh b z)) ⟨fun b o e t n => ext _ _ (l1.keep b o e t n), l1.new, fun b z => z.elim .inl fun z => .inr (by rw [hh b z]; exact l1.none ha), fun b e => l1.tbs b (none_ext ext e)⟩ ⟨a, rfl, ?_⟩ np
    exact hr.monoD fun b _ _ z => ⟨fun q => q.elim (fun q => z.1.1 (hp b q)) fun q => z.2 (hh b q), z.1.2⟩
theorem bind_bad {α β} {f : α → M β} : R.bind (.bad : R α) f = .bad := rfl
theorem bind_exc {α β} {f : α → M β} {C : Str} {x : D} {E : SE} : R.bind (.exc C x E : R α) f = .exc C x E := rfl
theorem bind_ok {α β} {f : α → M β} {a : α} {E : SE} : R.bind (.ok a E) f = f a E := rfl
theorem mbind {α β} {m : M α} {f : α → M β} {E : SE} : M.bind m f E = (m E).bind f := rfl
/-- an operation on operands -/
theorem prim_sound {ops : List Opd} {p : List D → Option Sl} {r : VK → List V → Hp → Prop} (hr : ∀ vs H Q T ds, TopsB K H T vs ds → PostP K H T Q (p ds) → r Q vs H) :
    ∀ σ H Q, TEof K mg W (M.bind (evA ops) fun ds => M.opt (p ds)) σ H Q → tOpds K mg W ops σ H (r Q) := by
  intro σ H Q ⟨P, E, g, h⟩
  refine argsL ops σ H _ ⟨P, E, g, ?_⟩
  rw [mbind] at h
  cases e : evA ops E with
  | bad => rw [e] at h; exact h
  | exc C x E1 => rw [e] at h; exact h
  | ok ds E1 =>
    rw [e, bind_ok] at h
    intro vs H1 P1 hp g1 l1 ts
    refine hr vs H1 Q (Fz P1 σ E1) ds ts ?_
    cases ep : p ds with
    | none => rw [ep] at h; exact h
    | some s =>
      rw [ep] at h
      intro v H' ext pr
      exact post_of g g1 l1 hp ext pr h
end
end Lw
end

section
set_option Elab.async false
set_option linter.all false
set_option maxRecDepth 100000
set_option maxHeartbeats 4000000
/-! L9: displays, arguments, calls -/
namespace Lw
open PySem L2
variable [TabInfo]
section
variable {K : PySem.W.Frag} {mg : Str → Option Value} {W : WX} {P P' P1 : Addr → Prop} {H H' H1 H0 : Hp} {σ σ' σ1 : St} {E E' E1 E0 : SE} {Φ : Nat → M Sl} {C : Nat → D}
/-- a result, frozen -/
theorem ResR.frz {s : Sl} {v : V} (r : ResR K P1 σ E H v s) (g : Good K P1 H σ E) (l : Lnk P1 σ E H P1 σ E' H') (g' : Good K P1 H' σ E') (hp : ∀ a, P a → P1 a) (hn : ∀ a, HeldBy v s a → P1 a ∧ ¬ P a) : RepB K H' (Fz P σ E') v s.d := by
  cases s with
  | no => exact r.elim
  | val d => exact (RepB.lnk r g l).mono fun a z => ⟨fun q => z.1 (hp a q), z.2⟩
  | own d =>
    obtain ⟨a, rfl, r⟩ := r
    obtain ⟨h1, h2⟩ := hn a rfl
    obtain ⟨S, q1, q2⟩ := r.lnk g l fun q => g.dis a q h1
    refine ⟨_, q1.rep, fun b hb => ?_⟩
    rcases List.mem_cons.mp hb with rfl | hb
    · exact ⟨h2, fun q => g'.dis b q h1⟩
    · exact ⟨fun q => (q2 b hb).1 (hp b q), (q2 b hb).2⟩
theorem ResR.frz0 {s : Sl} {v : V} (r : ResR K (Pl P v s) σ E H v s) (g : Good K (Pl P v s) H σ E) (hn : ∀ a, HeldBy v s a → ¬ P a) : RepB K H (Fz P σ E) v s.d :=
  r.frz g Lnk.refl g (fun _ z => .inl z) fun a z => ⟨.inr z, hn a z⟩
def PostD (K : PySem.W.Frag) (mg : Str → Option Value) (W : WX) (P : Addr → Prop) (σ : St) (E : SE) (H : Hp) (Q : List V → Hp → Prop) : R (List D) → Prop
  | .ok ds E' => ∀ vs H', Good K P H' σ E' → Lnk P σ E H P σ E' H' → RepsB K H' (Fz P σ E') vs ds → Q vs H'
  | .exc C x E' => ∀ H' cls d, Good K P H' σ E' → Lnk P σ E H P σ E' H' → ExcR K mg (Fz P σ E') H' C x cls d → W cls d σ H'
  | .bad => False
def TDof (K : PySem.W.Frag) (mg : Str → Option Value) (W : WX) (f : M (List D)) : TA := fun σ H Q => ∃ P E, Good K P H σ E ∧ PostD K mg W P σ E H Q (f E)
def tDisp (K : PySem.W.Frag) (mg : Str → Option Value) (W : WX) (Φ : Nat → M Sl) (C : Nat → D) : List Lw.E → TA
  | [] => tNil
  | .star a :: r => StX.tStar K (TEof K mg W (ev Φ C a)) (tDisp K mg W Φ C r)
  | e :: r => tCons (TEof K mg W (ev Φ C e)) (tDisp K mg W Φ C r)
/-- an exception behind a first part -/
theorem exc_after {P1 : Addr → Prop} {Cn : Str} {x : D} (g : Good K P H σ E) (l1 : Lnk P σ E H P1 σ E1 H1) (hp : ∀ a, P a → P1 a)
    (h : ∀ H' cls d, Good K P H' σ E' → Lnk P σ E H P σ E' H' → ExcR K mg (Fz P σ E') H' Cn x cls d → W cls d σ H') :
    ∀ H' cls d, Good K P1 H' σ E' → Lnk P1 σ E1 H1 P1 σ E' H' → ExcR K mg (Fz P1 σ E') H' Cn x cls d → W cls d σ H' := fun H' cls d g' l x =>
  h H' cls d (g'.less hp) ((l1.trans l).less hp) (x.less fun a z => ⟨fun q => z.1 (hp a q), z.2⟩)
theorem seqOf {v : V} {s : Sl} {xs : List D} (r : RepB K H (Fz P σ E) v s.d) (e : s.d = .tup xs ∨ s.d = .lst xs) : ∃ p vs, v = .ref p ∧ (SqT K H p vs ∨ SqL K H p vs) ∧ RepsB K H (Fz P σ E) vs xs := by
  rcases e with e | e
  · rw [e] at r
    obtain ⟨a, vs, rfl, h1, h2⟩ := r.top.tup
    exact ⟨a, vs, rfl, .inl h1, h2⟩
  · rw [e] at r
    obtain ⟨a, vs, rfl, h1, h2⟩ := r.top.lst
    exact ⟨a, vs, rfl, .inr (SqL.of h1), h2⟩
theorem evD_cons (e : Lw.E) (r : List Lw.E) (h : ∀ a, e ≠ .star a) : evD Φ C (e :: r) = M.bind (ev Φ C e) fun s => M.bind (evD Φ C r) fun ds => M.pure (s.d :: ds) := by
  cases e
  case star a => exact (h a rfl).elim
  all_goals simp only [evD]
theorem tDisp_cons (e : Lw.E) (r : List Lw.E) (h : ∀ a, e ≠ .star a) : tDisp K mg W Φ C (e :: r) = tCons (TEof K mg W (ev Φ C e)) (tDisp K mg W Φ C r) := by
  cases e
  case star a => exact (h a rfl).elim
  all_goals simp only [tDisp]
theorem dispL : ∀ (as : List Lw.E) (σ : St) (H : Hp) (Q : List V → Hp → Prop), TDof K mg W (evD Φ C as) σ H Q → tDisp K mg W Φ C as σ H Q := by
  intro as
  induction as with
  | nil =>
    intro σ H Q ⟨P, E, g, h⟩
    rw [evD] at h
    rw [tDisp]
    exact h [] H g Lnk.refl .nil
  | cons e r ih =>
    intro σ H Q ⟨P, E, g, h⟩
    by_cases hs : ∃ a, e = .star a
    · obtain ⟨a, rfl⟩ := hs
      rw [evD, mbind] at h
      rw [tDisp]
      refine ⟨P, E, g, ?_⟩
      cases e1 : ev Φ C a E with
      | bad => rw [e1] at h; exact h
      | exc Cn x E1 => rw [e1] at h; exact h
      | ok s E1 =>
        rw [e1, bind_ok] at h
        intro v H1 g1 l1 r1 n1
        have go : ∀ xs, (s.d = .tup xs ∨ s.d = .lst xs) → PostD K mg W P σ E H Q (M.bind (evD Φ C r) (fun ds => M.pure (xs ++ ds)) E1) →
            ∃ p vs, v = .ref p ∧ (SqT K H1 p vs ∨ SqL K H1 p vs) ∧ tDisp K mg W Φ C r σ H1 fun ys H2 => Q (vs ++ ys) H2 := by
          intro xs hd h
          obtain ⟨p, vs, rfl, h1, h2⟩ := seqOf (r1.frz0 g1 n1) hd
          refine ⟨p, vs, rfl, h1, ih σ H1 _ ⟨P, E1, g1.less fun a z => .inl z, ?_⟩⟩
          rw [mbind] at h
          cases e2 : evD Φ C r E1 with
          | bad => rw [e2] at h; exact h
          | exc Cn x E2 =>
            rw [e2] at h
            exact fun H' cls d g' l x => h H' cls d g' ((l1.less fun a z => .inl z).trans l) x
          | ok ds E2 =>
            rw [e2, bind_ok] at h
            intro ys H2 g2 l2 r2
            exact h _ H2 g2 ((l1.less fun a z => .inl z).trans l2) ((h2.lnk (g1.less fun a z => .inl z) l2).append r2)
        split at h
        · exact go _ (.inl rfl) h
        · exact go _ (.inr rfl) h
        · exact go _ (.inr rfl) h
        · exact h.elim
    · have hs' : ∀ a, e ≠ .star a := fun a q => hs ⟨a, q⟩
      rw [evD_cons e r hs', mbind] at h
      rw [tDisp_cons e r hs']
      refine ⟨P, E, g, ?_⟩
      cases e1 : ev Φ C e E with
      | bad => rw [e1] at h; exact h
      | exc Cn x E1 => rw [e1] at h; exact h
      | ok s E1 =>
        rw [e1, bind_ok, mbind] at h
        intro v H1 g1 l1 r1 n1
        refine ih σ H1 _ ⟨_, E1, g1, ?_⟩
        cases e2 : evD Φ C r E1 with
        | bad => rw [e2] at h; exact h
        | exc Cn x E2 =>
          rw [e2] at h
          exact exc_after g l1 (fun a z => .inl z) h
        | ok ds E2 =>
          rw [e2, bind_ok] at h
          intro ys H2 g2 l2 r2
          refine h (v :: ys) H2 (g2.less fun a z => .inl z) ((l1.trans l2).less fun a z => .inl z) (.cons ?_ (r2.mono fun a z => ⟨fun q => z.1 (.inl q), z.2⟩))
          exact r1.frz g1 l2 g2 (fun _ z => .inl z) fun a z => ⟨.inr z, n1 a z⟩
/-! ### arguments -/
/-- values of arguments; P: what is protected without them -/
structure ArgsR (K : PySem.W.Frag) (P P' : Addr → Prop) (σ : St) (E : SE) (H : Hp) (vs : List V) (ss : List Sl) : Prop where
  len : vs.length = ss.length
  res : ∀ (j : Nat) v s, vs[j]? = some v → ss[j]? = some s → ResR K P' σ E H v s
  held : ∀ (j : Nat) (d : D) (a : Addr), ss[j]? = some (.own d) → vs[j]? = some (.ref a) → P' a ∧ ¬ P a
  inj : ∀ (i j : Nat) (d d' : D) (a : Addr), ss[i]? = some (.own d) → ss[j]? = some (.own d') → vs[i]? = some (.ref a) → vs[j]? = some (.ref a) → i = j
/-- an argument that is a slot has the slot's value -/
def SlA (as : List Arg) (σ : St) (vs : List V) : Prop := ∀ (j i : Nat), as[j]? = some (.slot i) → ∃ v, vs[j]? = some v ∧ σ[i]? = some (some v)
def PostC (K : PySem.W.Frag) (mg : Str → Option Value) (W : WX) (as : List Arg) (P : Addr → Prop) (σ : St) (E : SE) (H : Hp) (Q : List V → Hp → Prop) : R (List Sl) → Prop
  | .ok ss E' => ∀ vs H' P', (∀ a, P a → P' a) → Good K P' H' σ E' → Lnk P σ E H P' σ E' H' → ArgsR K P P' σ E' H' vs ss → SlA as σ vs → Q vs H'
  | .exc C x E' => ∀ H' cls d, Good K P H' σ E' → Lnk P σ E H P σ E' H' → ExcR K mg (Fz P σ E') H' C x cls d → W cls d σ H'
  | .bad => False
def tArg (K : PySem.W.Frag) (mg : Str → Option Value) (W : WX) : Arg → TE
  | .slot i => tVar i
  | .ex f => TEof K mg W f
def tArgs (K : PySem.W.Frag) (mg : Str → Option Value) (W : WX) : List Arg → TA
  | [] => tNil
  | o :: r => tCons (tArg K mg W o) (tArgs K mg W r)
theorem ResR.lnk {s : Sl} {v : V} (r : ResR K P σ E H v s) (g : Good K P H σ E) (l : Lnk P σ E H P' σ E' H') (hn : ∀ a, HeldBy v s a → P a) : ResR K P' σ E' H' v s := by
  cases s with
  | no => exact r.elim
  | val d => exact RepB.lnk r g l
  | own d =>
    obtain ⟨a, rfl, r⟩ := r
    exact ⟨a, rfl, r.lnk g l fun q => g.dis a q (hn a rfl)⟩
theorem ArgsR.cons {v : V} {s : Sl} {vs : List V} {ss : List Sl} (r : ResR K P' σ E H v s) (hh : ∀ a, HeldBy v s a → P' a ∧ ¬ P a) (hd : ∀ (a : Addr) (j : Nat) (d : D), HeldBy v s a → ss[j]? = some (.own d) → vs[j]? = some (.ref a) → False) (h : ArgsR K P P' σ E H vs ss) : ArgsR K P P' σ E H (v :: vs) (s :: ss) where
  len := by simp [h.len]
  res := fun j w t e1 e2 => by
    cases j with
    | zero => cases e1; cases e2; exact r
    | succ j => exact h.res j w t (by simpa using e1) (by simpa using e2)
  held := fun j d a e1 e2 => by
    cases j with
    | zero => cases e1; cases e2; exact hh a rfl
    | succ j => exact h.held j d a (by simpa using e1) (by simpa using e2)
  inj := fun i j d d' a e1 e2 e3 e4 => by
    cases i with
    | zero =>
      cases j with
      | zero => rfl
      | succ j =>
        cases e1; cases e3
        exact (hd a j d' rfl (by simpa using e2) (by simpa using e4)).elim
    | succ i =>
      cases j with
      | zero =>
        cases e2; cases e4
        exact (hd a i d rfl (by simpa using e1) (by simpa using e3)).elim
      | succ j => rw [h.inj i j d d' a (by simpa using e1) (by simpa using e2) (by simpa using e3) (by simpa using e4)]
theorem ArgsR.base {P1 : Addr → Prop} {vs : List V} {ss : List Sl} (h : ArgsR K P1 P' σ E H vs ss) (hp : ∀ a, P a → P1 a) : ArgsR K P P' σ E H vs ss :=
  ⟨h.len, h.res, fun j d a e1 e2 => let ⟨q1, q2⟩ := h.held j d a e1 e2; ⟨q1, fun p => q2 (hp a p)⟩, h.inj⟩
theorem ArgsR.nil {P P' : Addr → Prop} : ArgsR K P P' σ E H [] [] := ⟨rfl, fun j _ _ e => by simp at e, fun j _ _ e => by simp at e, fun j _ _ _ _ e => by simp at e⟩
/-- slots are left out -/
theorem ArgsR.out {vs : List V} {ss : List Sl} (h : ArgsR K P P' σ E H vs ss) (g : Good K P' H σ E) (g' : Good K P1 H σ E') (l : Lnk P' σ E H P1 σ E' H) (hp : ∀ a, P' a → P1 a) : ArgsR K P P1 σ E' H vs ss where
  len := h.len
  res := fun j v s e1 e2 => (h.res j v s e1 e2).lnk g l fun a z => by
    cases s with
    | own d =>
      have z' : v = .ref a := z
      subst z'
      exact (h.held j d a e2 e1).1
    | _ => exact z.elim
  held := fun j d a e1 e2 => let ⟨q1, q2⟩ := h.held j d a e1 e2; ⟨hp a q1, q2⟩
  inj := h.inj
theorem evC_slot {i : Nat} {r : List Arg} {E : SE} : evC (.slot i :: r) E = (slotAt i E).bind fun _ => fun E1 => (evC r E1).bind fun ss => fun E2 => (popS i E2).bind fun s => fun E3 => .ok (s :: ss) E3 := rfl
theorem evC_ex {f : M Sl} {r : List Arg} {E : SE} : evC (.ex f :: r) E = (f E).bind fun s => fun E1 => (evC r E1).bind fun ss => fun E2 => .ok (s :: ss) E2 := rfl
theorem Lnk.out (g : Good K P H σ E) (i : Nat) : Lnk P σ E H (fun a => P a ∨ (∃ d, E[i]? = some (.own d) ∧ σ[i]? = some (some (.ref a)))) σ (E.set i .no) H :=
  ⟨fun _ _ e _ _ => e, fun a ⟨j, d, e1, e2⟩ => by
    rw [getE_set] at e1
    split at e1
    · split at e1 <;> cases e1
    · exact .inl ⟨j, d, e1, e2⟩, fun a h => h.imp id fun ⟨d, e1, e2⟩ => .inl ⟨i, d, e1, e2⟩, fun _ e => e⟩
theorem argsC : ∀ (as : List Arg) (σ : St) (H : Hp) (Q : List V → Hp → Prop) (P : Addr → Prop) (E : SE), Good K P H σ E → PostC K mg W as P σ E H Q (evC as E) → tArgs K mg W as σ H Q := by
  intro as
  induction as with
  | nil =>
    intro σ H Q P E g h
    exact h [] H P (fun _ z => z) g Lnk.refl .nil fun j i e => by simp at e
  | cons o r ih =>
    intro σ H Q P E g h
    cases o with
    | slot i =>
      rw [evC_slot] at h
      rcases slotAt_cases i E with ⟨d0, e0⟩ | e0
      · rw [e0, bind_ok] at h
        obtain ⟨_, v, ev, tv⟩ := g.slotV e0
        refine ⟨v, ev, ih σ H _ P E g ?_⟩
        cases e1 : evC r E with
        | bad => rw [e1] at h; exact h
        | exc Cn x E1 => rw [e1] at h; exact h
        | ok ss E1 =>
          rw [e1, bind_ok] at h
          intro vs H1 P1 hp g1 l1 ar sa
          have sa' : ∀ w, σ[i]? = some (some w) → SlA (.slot i :: r) σ (w :: vs) := fun w ew j l e => by
            cases j with
            | zero => cases e; exact ⟨w, rfl, ew⟩
            | succ j => exact sa j l (by simpa using e)
          unfold popS at h
          split at h
          · rename_i d e2
            obtain ⟨a, e3, q⟩ := g1.own i d e2
            rw [ev] at e3; cases e3
            have hout := g1.out i
            have lout := Lnk.out g1 i
            have hh : OwnS σ E1 a := ⟨i, d, e2, ev⟩
            have hP : ∀ b, (P1 b ∨ (∃ d, E1[i]? = some (.own d) ∧ σ[i]? = some (some (.ref b)))) → P1 b ∨ b = a := fun b z => z.imp id fun ⟨d', q1, q2⟩ => by
              rw [ev] at q2; cases q2; rfl
            have hb : ∀ b, HeldBy (.ref a) (.own d) b → b = a := fun b z => by
              have z' : V.ref a = .ref b := z
              cases z'; rfl
            refine h (.ref a :: vs) H1 _ (fun b z => .inl (hp b z)) hout (l1.trans lout) (.cons ?_ (fun b z => ?_) (fun b j d' z e4 e5 => ?_) (ArgsR.out ar g1 hout lout fun b z => .inl z)) (sa' _ ev)
            · refine ⟨a, rfl, (q.monoD fun b o e z => ⟨fun p => ?_, fun p => z.2 ?_⟩)⟩
              · rcases hP b p with p | p
                · exact z.1 p
                · exact z.2 (p ▸ hh)
              · obtain ⟨j, d', q1, q2⟩ := p
                rw [getE_set] at q1
                split at q1
                · split at q1 <;> cases q1
                · exact ⟨j, d', q1, q2⟩
            · rw [hb b z]
              exact ⟨.inr ⟨d, e2, ev⟩, fun p => g1.dis a hh (hp a p)⟩
            · rw [hb b z] at e5
              exact g1.dis a hh (ar.held j d' a e4 e5).1
          · rename_i d e2
            obtain ⟨w, e3, q⟩ := g1.val i d e2
            rw [ev] at e3; cases e3
            exact h (v :: vs) H1 P1 hp g1 l1 (.cons q (fun b z => z.elim) (fun b j d' z => z.elim) ar) (sa' _ ev)
          · exact h.elim
      · rw [e0] at h; exact h.elim
    | ex f =>
      rw [evC_ex] at h
      refine ⟨P, E, g, ?_⟩
      cases e1 : f E with
      | bad => rw [e1] at h; exact h
      | exc Cn x E1 => rw [e1] at h; exact h
      | ok s E1 =>
        rw [e1, bind_ok] at h
        intro v H1 g1 l1 r1 n1
        refine ih σ H1 _ _ E1 g1 ?_
        cases e2 : evC r E1 with
        | bad => rw [e2] at h; exact h
        | exc Cn x E2 =>
          rw [e2] at h
          exact exc_after g l1 (fun a z => .inl z) h
        | ok ss E2 =>
          rw [e2, bind_ok] at h
          intro vs H2 P2 hp g2 l2 ar sa
          refine h (v :: vs) H2 P2 (fun a z => hp a (.inl z)) g2 (l1.trans l2) (.cons (r1.lnk g1 l2 fun a z => .inr z) (fun a z => ⟨hp a (.inr z), n1 a z⟩) (fun a j d z e4 e5 => (ar.held j d a e4 e5).2 (.inr z)) (ar.base fun a z => .inl z)) fun j l e => by
            cases j with
            | zero => cases e
            | succ j => exact sa j l (by simpa using e)

/-! ### calls -/
theorem putBack_at : ∀ (as : List Arg) (ss ps : List Sl) (E : SE), (putBack as ss ps E).length = E.length ∧ ∀ (i : Nat) s, (putBack as ss ps E)[i]? = some s → E[i]? = some s ∨ ∃ (j : Nat) (d : D), as[j]? = some (.slot i) ∧ ss[j]? = some (.own d) ∧ ps[j]? = some s := by
  intro as
  induction as with
  | nil => intro ss ps E; exact ⟨by simp [putBack], fun i s e => .inl (by simpa [putBack] using e)⟩
  | cons o r ih =>
    intro ss ps E
    cases ss with
    | nil => exact ⟨by cases o <;> simp [putBack], fun i s e => .inl (by cases o <;> simpa [putBack] using e)⟩
    | cons s0 ss =>
      cases ps with
      | nil => exact ⟨by cases o <;> cases s0 <;> simp [putBack], fun i s e => .inl (by cases o <;> cases s0 <;> simpa [putBack] using e)⟩
      | cons p ps =>
        obtain ⟨h1, h2⟩ := ih ss ps E
        have skip : ∀ i s, (putBack r ss ps E)[i]? = some s → E[i]? = some s ∨ ∃ (j : Nat) (d : D), (o :: r)[j]? = some (.slot i) ∧ (s0 :: ss)[j]? = some (.own d) ∧ (p :: ps)[j]? = some s := fun i s e =>
          (h2 i s e).imp id fun ⟨j, d, q1, q2, q3⟩ => ⟨j + 1, d, by simpa using q1, by simpa using q2, by simpa using q3⟩
        cases o with
        | ex f => exact ⟨by simpa [putBack] using h1, fun i s e => skip i s (by simpa [putBack] using e)⟩
        | slot k =>
          cases s0 with
          | no => exact ⟨by simpa [putBack] using h1, fun i s e => skip i s (by simpa [putBack] using e)⟩
          | val d => exact ⟨by simpa [putBack] using h1, fun i s e => skip i s (by simpa [putBack] using e)⟩
          | own d =>
            refine ⟨by simpa [putBack] using h1, fun i s e => ?_⟩
            have e : ((putBack r ss ps E).set k p)[i]? = some s := e
            rw [getE_set] at e
            split at e
            · rename_i hk
              split at e
              · cases e
                exact .inr ⟨0, d, by rw [hk]; rfl, rfl, rfl⟩
              · cases e
            · exact skip i s e
theorem call_back {as : List Arg} {vs : List V} {ss ps : List Sl} {Pc B : Addr → Prop} (g : Good K P H σ E) (hp : ∀ a, P a → P1 a) (g1 : Good K P1 H1 σ E1) (l1 : Lnk P σ E H P1 σ E1 H1) (ar : ArgsR K P P1 σ E1 H1 vs ss) (sa : SlA as σ vs)
    (hPc : ∀ a, Pc a ↔ (P1 a ∧ ¬ OwnS (vs.map some) ss a) ∨ OwnS σ E1 a) (gc : Good K Pc H1 (vs.map some) ss)
    (g' : Good K (fun a => Pc a ∨ B a) H' (vs.map some) ps) (l' : Lnk Pc (vs.map some) ss H1 (fun a => Pc a ∨ B a) (vs.map some) ps H') (hB : ∀ a, B a → ¬ Pc a) :
    Good K (fun a => P a ∨ B a) H' σ (putBack as ss ps E1) ∧ Lnk P σ E H (fun a => P a ∨ B a) σ (putBack as ss ps E1) H' ∧ (∀ b, Fz (fun a => Pc a ∨ B a) (vs.map some) ps b → Fz (fun a => P a ∨ B a) σ (putBack as ss ps E1) b) ∧ ∀ a, B a → ¬ P a := by
  obtain ⟨hlen, hat⟩ := putBack_at as ss ps E1
  have held : ∀ a, OwnS (vs.map some) ss a → P1 a ∧ ¬ P a := fun a ⟨j, d, e1, e2⟩ => by
    rw [List.getElem?_map] at e2
    cases e3 : vs[j]? with
    | none => rw [e3] at e2; cases e2
    | some v =>
      rw [e3] at e2
      have : v = .ref a := by simpa using e2
      subst this
      exact ar.held j d a e1 e3
  have PPc : ∀ a, P a → Pc a := fun a p => (hPc a).mpr (.inl ⟨hp a p, fun q => (held a q).2 p⟩)
  have back : ∀ {i j : Nat} {d : D} {s : Sl}, as[j]? = some (.slot i) → ss[j]? = some (.own d) → ps[j]? = some s → ∃ v, (vs.map some)[j]? = some (some v) ∧ σ[i]? = some (some v) := fun {i j d s} q1 q2 q3 => by
    obtain ⟨v, e1, e2⟩ := sa j i q1
    exact ⟨v, by rw [List.getElem?_map, e1]; rfl, e2⟩
  have sub : ∀ a, OwnS σ (putBack as ss ps E1) a → OwnS σ E1 a ∨ OwnS (vs.map some) ps a := fun a ⟨i, d, e1, e2⟩ => by
    rcases hat i _ e1 with q | ⟨j, d', q1, q2, q3⟩
    · exact .inl ⟨i, d, q, e2⟩
    · obtain ⟨v, e3, e4⟩ := back q1 q2 q3
      rw [e2] at e4; cases e4
      exact .inr ⟨j, d, q3, e3⟩
  have fz : ∀ b, Fz (fun a => Pc a ∨ B a) (vs.map some) ps b → Fz (fun a => P a ∨ B a) σ (putBack as ss ps E1) b := fun b z =>
    ⟨fun q => z.1 (q.imp (PPc b) id), fun q => (sub b q).elim (fun q => z.1 (.inl ((hPc b).mpr (.inr q)))) z.2⟩
  have old : ∀ b o, H1 b = some o → Fz P1 σ E1 b → Fz (fun a => P a ∨ B a) σ (putBack as ss ps E1) b := fun b o e z => by
    have nh : ¬ OwnS (vs.map some) ss b := fun q => z.1 (held b q).1
    refine ⟨fun q => q.elim (fun q => z.1 (hp b q)) fun q => ?_, fun q => (sub b q).elim z.2 fun q => ?_⟩
    · rcases l'.pr b (.inr q) with p | p | p
      · exact hB b q p
      · exact nh p
      · rw [e] at p; cases p
    · rcases l'.new b q with p | p
      · exact nh p
      · rw [e] at p; cases p
  have kpc := gc.kp l'
  have held2 : ∀ a, OwnS (vs.map some) ss a → OwnS σ E a ∨ H a = Option.none := fun a q => by
    obtain ⟨q1, q2⟩ := held a q
    exact (l1.pr a q1).elim (fun z => absurd z q2) id
  refine ⟨⟨by rw [hlen]; exact g1.len, fun a p => ?_, fun i d e => ?_, fun i d e => ?_, fun a q p => ?_, fun i j d d' a e1 e2 e3 e4 => ?_, g'.tab⟩, ⟨fun a o e t n => ?_, fun a q => ?_, fun a q => ?_, fun a e => l1.tbs a (l'.tbs a e)⟩, fz, fun a q p => hB a q (PPc a p)⟩
  · exact g'.dom a (p.imp (PPc a) id)
  · rcases hat i _ e with q | ⟨j, d', q1, q2, q3⟩
    · obtain ⟨v, e1, r⟩ := g1.val i d q
      refine ⟨v, e1, ((r.monoD fun b o eo z => ⟨z, old b o eo z⟩ : RepB K H1 (fun b => Fz P1 σ E1 b ∧ Fz (fun a => P a ∨ B a) σ (putBack as ss ps E1) b) v d).keep fun b o eo t z => kpc b o eo t (z.imp (fun z q => z.1.1 (held b q).1) id)).mono fun _ z => z.2⟩
    · obtain ⟨v, e3, e4⟩ := back q1 q2 q3
      obtain ⟨w, e5, r⟩ := g'.val j d q3
      rw [e3] at e5; cases e5
      exact ⟨v, e4, r.mono fz⟩
  · rcases hat i _ e with q | ⟨j, d', q1, q2, q3⟩
    · obtain ⟨v, e1, r⟩ := g1.own i d q
      have hv : OwnS σ E1 v := ⟨i, d, q, e1⟩
      refine ⟨v, e1, ((r.monoD fun b o eo z => ⟨z, old b o eo z⟩ : OwnB K H1 (fun b => Fz P1 σ E1 b ∧ Fz (fun a => P a ∨ B a) σ (putBack as ss ps E1) b) v d).keep fun b o eo t z => kpc b o eo t (z.imp (fun z q => z.elim (fun z => z.1.1 (held b q).1) fun z => by rw [z] at q; exact g1.dis v hv (held v q).1) id)).monoD fun _ _ _ z => z.2⟩
    · obtain ⟨v, e3, e4⟩ := back q1 q2 q3
      obtain ⟨w, e5, r⟩ := g'.own j d q3
      rw [e3] at e5; cases e5
      exact ⟨w, e4, r.monoD fun b _ _ z => fz b z⟩
  · rcases sub a q with q | q
    · exact p.elim (fun p => g1.dis a q (hp a p)) fun p => hB a p ((hPc a).mpr (.inr q))
    · exact g'.dis a q (p.imp (PPc a) id)
  · have own : ∀ {i : Nat} {d : D}, (putBack as ss ps E1)[i]? = some (.own d) → σ[i]? = some (some (.ref a)) → E1[i]? = some (.own d) ∨ (∃ (j : Nat), as[j]? = some (Arg.slot i) ∧ ps[j]? = some (Sl.own d) ∧ (vs.map some)[j]? = some (some (V.ref a))) := fun {i d} e1 e3 => by
      rcases hat i _ e1 with q | ⟨j, d', q1, q2, q3⟩
      · exact .inl q
      · obtain ⟨v, e5, e6⟩ := back q1 q2 q3
        rw [e3] at e6; cases e6
        exact .inr ⟨j, q1, q3, e5⟩
    rcases own e1 e3 with q | ⟨j1, q1, q2, q3⟩
    · rcases own e2 e4 with p | ⟨j2, p1, p2, p3⟩
      · exact g1.inj i j d d' a q p e3 e4
      · exact absurd (.inl ((hPc a).mpr (.inr ⟨i, d, q, e3⟩))) (g'.dis a ⟨j2, d', p2, p3⟩)
    · rcases own e2 e4 with p | ⟨j2, p1, p2, p3⟩
      · exact absurd (.inl ((hPc a).mpr (.inr ⟨j, d', p, e4⟩))) (g'.dis a ⟨j1, d, q2, q3⟩)
      · have := g'.inj j1 j2 d d' a q2 p2 q3 p3
        subst this
        rw [q1] at p1
        cases p1; rfl
  · refine l'.keep a o (l1.keep a o e t n) t fun q => ?_
    rcases held2 a q with z | z
    · exact n z
    · rw [e] at z; cases z
  · rcases sub a q with q | q
    · exact l1.new a q
    · exact (l'.new a q).elim (held2 a) l1.none
  · rcases q with q | q
    · exact .inl q
    · rcases l'.pr a (.inr q) with p | p | p
      · exact absurd p (hB a q)
      · exact .inr (held2 a p)
      · exact .inr (l1.none p)
theorem evC_length : ∀ {as : List Arg} {E : SE} {ss : List Sl} {E1 : SE}, evC as E = .ok ss E1 → ss.length = as.length := by
  intro as
  induction as with
  | nil => intro E ss E1 h; cases h; rfl
  | cons o r ih =>
    intro E ss E1 h
    cases o with
    | slot i =>
      rw [evC_slot] at h
      obtain ⟨_, E2, _, h⟩ := R.bind_ok h
      obtain ⟨ss', E3, h1, h⟩ := R.bind_ok (f := fun ss => fun E2 => (popS i E2).bind fun s => fun E3 => .ok (s :: ss) E3) h
      obtain ⟨s, E4, _, h⟩ := R.bind_ok (f := fun s => fun E3 => .ok (s :: ss') E3) h
      cases h
      simp [ih h1]
    | ex f =>
      rw [evC_ex] at h
      obtain ⟨s, E2, _, h⟩ := R.bind_ok h
      obtain ⟨ss', E3, h1, h⟩ := R.bind_ok (f := fun ss => fun E2 => .ok (s :: ss) E2) h
      cases h
      simp [ih h1]
theorem call_sound (F : M Sl) (as : List Arg) (np : Nat) (hn : as.length = np) :
    ∀ σ H Q, TEof K mg W (callS F as) σ H Q → tArgs K mg W as σ H (fun vs H1 => spF K mg np F vs H1 Q (fun c d H' => W c d σ H')) := by
  intro σ H Q ⟨P, E, g, h⟩
  refine argsC as σ H _ P E g ?_
  unfold callS at h
  cases e : evC as E with
  | bad => rw [e] at h; exact h
  | exc Cn x E1 => rw [e] at h; exact h
  | ok ss E1 =>
    rw [e] at h
    intro vs H1 P1 hp g1 l1 ar sa
    have ln : vs.length = np := by rw [ar.len, evC_length e, hn]
    have held : ∀ a, OwnS (vs.map some) ss a → P1 a ∧ ¬ P a := fun a ⟨j, d, e1, e2⟩ => by
      rw [List.getElem?_map] at e2
      cases e3 : vs[j]? with
      | none => rw [e3] at e2; cases e2
      | some v =>
        rw [e3] at e2
        have : v = .ref a := by simpa using e2
        subst this
        exact ar.held j d a e1 e3
    suffices gc : Good K (fun a => (P1 a ∧ ¬ OwnS (vs.map some) ss a) ∨ OwnS σ E1 a) H1 (vs.map some) ss by
      refine ⟨ln, fun a => (P1 a ∧ ¬ OwnS (vs.map some) ss a) ∨ OwnS σ E1 a, ss, gc, ?_⟩
      dsimp only at h
      cases eF : F ss with
      | bad => rw [eF] at h; exact h
      | exc Cn x ps =>
        rw [eF] at h
        intro H' cls d g' l' x'
        have hz : ∀ a, ((P1 a ∧ ¬ OwnS (vs.map some) ss a) ∨ OwnS σ E1 a) ∨ False → ((P1 a ∧ ¬ OwnS (vs.map some) ss a) ∨ OwnS σ E1 a) := fun a z => z.elim id False.elim
        obtain ⟨q1, q2, q3, q4⟩ := call_back (Pc := fun a => (P1 a ∧ ¬ OwnS (vs.map some) ss a) ∨ OwnS σ E1 a) (B := fun _ => False) g hp g1 l1 ar sa (fun _ => Iff.rfl) gc (g'.less hz) (l'.less hz) fun _ z => z.elim
        refine h H' cls d (q1.less fun a z => .inl z) (q2.less fun a z => .inl z) (x'.less fun b z => ?_)
        have := q3 b ⟨fun q => z.1 (hz b q), z.2⟩
        exact ⟨fun q => this.1 (.inl q), this.2⟩
      | ok s ps =>
        rw [eF] at h
        intro v H' g' l' r' n'
        obtain ⟨q1, q2, q3, q4⟩ := call_back (Pc := fun a => (P1 a ∧ ¬ OwnS (vs.map some) ss a) ∨ OwnS σ E1 a) (B := HeldBy v s) g hp g1 l1 ar sa (fun _ => Iff.rfl) gc g' l' n'
        refine h v H' q1 q2 ?_ q4
        cases s with
        | no => exact r'
        | val d => exact RepB.mono r' q3
        | own d =>
          obtain ⟨a, rfl, r⟩ := r'
          exact ⟨a, rfl, r.monoD fun b _ _ z => q3 b z⟩
    have vv : ∀ {j : Nat} {v : V}, vs[j]? = some v → (vs.map some)[j]? = some (some v) := fun {j v} e => by rw [List.getElem?_map, e]; rfl
    have get : ∀ {j : Nat} {s : Sl}, ss[j]? = some s → ∃ v, vs[j]? = some v := fun {j s} e => by
      have hj : j < vs.length := by rw [ar.len]; exact (List.getElem?_eq_some_iff.mp e).1
      exact ⟨vs[j], by simp [hj]⟩
    have fz : ∀ b, Fz P1 σ E1 b → Fz (fun a => (P1 a ∧ ¬ OwnS (vs.map some) ss a) ∨ OwnS σ E1 a) (vs.map some) ss b := fun b z => ⟨fun q => q.elim (fun q => z.1 q.1) z.2, fun q => z.1 (held b q).1⟩
    refine ⟨by simp [ar.len], fun a q => q.elim (fun q => g1.dom a q.1) fun q => let ⟨o, e, _⟩ := g1.ownD q; ⟨o, e⟩, fun j d e1 => ?_, fun j d e1 => ?_, fun a q q' => ?_, fun i j d d' a e1 e2 e3 e4 => ?_, g1.tab⟩
    · obtain ⟨v, ev⟩ := get e1
      exact ⟨v, vv ev, RepB.mono (ar.res j v _ ev e1) fz⟩
    · obtain ⟨v, ev⟩ := get e1
      obtain ⟨a, rfl, r⟩ := ar.res j v _ ev e1
      exact ⟨a, vv ev, r.monoD fun b _ _ z => fz b z⟩
    · exact q'.elim (fun z => z.2 q) fun z => g1.dis a z (held a q).1
    · have un : ∀ {j : Nat}, (vs.map some)[j]? = some (some (V.ref a)) → vs[j]? = some (V.ref a) := fun {j} e => by
        rw [List.getElem?_map] at e
        cases e5 : vs[j]? with
        | none => rw [e5] at e; cases e
        | some v => rw [e5] at e; simpa using e
      exact ar.inj i j d d' a e1 e2 (un e3) (un e4)
end
end Lw
end

section
set_option Elab.async false
set_option linter.all false
set_option maxRecDepth 100000
set_option maxHeartbeats 4000000
/-! LT: enumerate of a tuple -/
namespace Lw
open PySem PySem.Spec PyProof.Rows L2
section
theorem enum_new1 {v : Value} {o : Obj} {S : Heap → Prop} (B : Begins v o S) :
    Meets (Builtin.«enumerate.__new__» ⟨[.type "enumerate", v], []⟩) (fun _ R s => S s.heap ∧
      R (.ok (.ret (.ref (s.heap.push o).objs.size))) { s with heap := (s.heap.push o).push ⟨.type "enumerate", none, .fields #[.none, .bool false, .ref s.heap.objs.size, rawInt 0, .none, .none], #[]⟩ }) :=
  .of_wp fun prog w A R s h => by
    obtain ⟨hp, gs, dr, tk, os⟩ := s
    obtain ⟨h1, h⟩ := h
    have hsub := sub_enumerate
    have it : ∀ {A' : Around} {E Q : Value → Shared → Prop}, Q (.ref hp.objs.size) ⟨hp.push o, gs, dr, tk, os⟩ → wpAny (model prog w) A' (pyIter v) Q E ⟨hp, gs, dr, tk, os⟩ :=
      fun q => B.iter prog w _ _ ⟨hp, gs, dr, tk, os⟩ _ h1 q
    wp_walk using it
    refine wpAny_stack_any fun st => wpAny_pure ?_
    split
    · rename_i c _ _ _ _ _
      cases (c == Value.type "enumerate") <;> (wp_walk using it; exact ⟨_, rfl, h⟩)
    · wp_walk using it
      exact ⟨_, rfl, h⟩
variable {prog : Program} {w : World} {A : Around} {E : Value → Shared → Prop} {s : Shared}
theorem enum_call1 {v : Value} {o : Obj} {S : Heap → Prop} {Q : Value → Shared → Prop} (B : Begins v o S) (h1 : S s.heap)
    (h : ∀ g, IsEnum g (s.heap.objs.size + 1) s.heap.objs.size 0 .none ∧ g.get? s.heap.objs.size = some o ∧ (∀ b u, s.heap.get? b = some u → g.get? b = some u) → Q (.ref (s.heap.objs.size + 1)) { s with heap := g }) :
    wpAny (model prog w) A (call (.type "enumerate") [v]) Q E s := by
  refine callType_new F.called_enumerate (by decide) (F.typeCall_enumerate_1 _) (F.newCall_enumerate_1 _) (fun obj => F.args_object_init_2 obj _) F.entry_enumerate_new (enum_new1 B) ⟨h1, ?_⟩
  have z1 : (s.heap.push o).objs.size = s.heap.objs.size + 1 := Heap.size_push ..
  show _ ∧ _
  rw [z1]
  have he := Heap.get?_push_size (s.heap.push o) (o := ⟨.type "enumerate", none, .fields #[.none, .bool false, .ref s.heap.objs.size, rawInt 0, .none, .none], #[]⟩) rfl
  rw [z1] at he
  exact ⟨⟨_, he, rfl⟩, h _ ⟨he, Heap.get?_push_of_some _ (Heap.get?_push_size _ B.free), fun b u x => Heap.get?_push_of_some _ (Heap.get?_push_of_some _ x)⟩⟩
end
/-- the end -/
theorem enum_endT {prog : Program} {w : World} {A : Around} {E : Value → Shared → Prop} {s : Shared} {e it l : Addr} {i : Nat} {items : Array Value} {old : Value} {k : Int} {Q : Option Value → Shared → Prop} (hh : A.handled = none)
    (he : IsEnum s.heap e it k old) (hit : s.heap.IsTupleIter it l i) (hl : s.heap.IsTuple l items) (hx : items[i]? = none) (hQ : ∀ g, Heap.ExtBut it s.heap g → Q none { s with heap := g }) :
    wpAny (model prog w) A (pyNext (.ref e)) Q E s := by
  have ty : s.TypeIs (.ref e) "enumerate" := ⟨_, he, rfl⟩
  unfold pyNext
  refine wpAny_bind (wpAny_attempt (wpAny_callSpecial?_slot (name := Str.ofString "__next__") ty
    F.slot_enumerate_next (wpAny_call_entry F.slot_enumerate_next ty F.entry_enumerate_next ?_ (F.args_enumerate_next_1 _))))
  show wpAny _ _ (field (.ref e) 2 >>= _) _ _ s
  refine wpAny_bind (wpAny_field he rfl (x := .ref it) rfl <|
    wpAny_bind (wpAny_nextOf_tuple_end hh hit hl hx fun g x eb ⟨o, ho, hc⟩ => ?_))
  exact wpAny_bind (wpAny_isInstance (T := "StopIteration") (b := true) ⟨o, ho, hc⟩ isSubtype_stop (wpAny_pure (hQ _ eb)))
/-- the tuple at a, each item in a new pair with its number -/
def IteT (K : PySem.W.Frag) (a : Addr) : It :=
  ⟨fun i H => ∃ (xs : List V) (x : V), SqT K H a xs ∧ xs[i]? = some x, fun i H v H' => ∃ T x, v = .ref T ∧ H T = none ∧ H' = upd H T (.tup [.int (i : Nat), x]) ∧ ∀ xs, SqT K H a xs → xs[i]? = some x, fun i H => ∃ xs : List V, SqT K H a xs ∧ xs.length ≤ i⟩
theorem turn_enumT {P : Program} {w : World} {K : PySem.W.Frag} {elts : List Expr} {kk : Nat} {tpos : Pos} (a e it : Addr) (ha : a ≠ it) (hb : e ≠ it) (hc : e ≠ a) :
    Turn P w K (.Tuple elts kk tpos) (IteT K a) [e, it] e (fun i h => (∃ old, IsEnum h e it ((i : Nat) : Int) old) ∧ h.IsTupleIter it a i) where
  mem := by simp
  obj := fun i h st b hb => by
    obtain ⟨⟨old, he⟩, o, ho, _, hd⟩ := st
    simp only [List.mem_cons, List.not_mem_nil, or_false] at hb
    rcases hb with rfl | rfl
    · exact ⟨_, he, fun v q => nomatch q⟩
    · exact ⟨o, ho, fun v q => by rw [hd] at q; cases q⟩
  keep := fun i h h' st k => let ⟨⟨old, he⟩, hi⟩ := st; ⟨⟨old, k e (by simp) _ he⟩, hi.at fun o q => k it (by simp) o q⟩
  item := by
    intro X hP hw hK hc' i pins s σ H E I hf st hg
    subst hP hw hK
    obtain ⟨⟨old, he⟩, hit⟩ := st
    obtain ⟨xs, x, hq, hx⟩ := hg
    obtain ⟨its, rv, p, _⟩ := I.tuple hq
    obtain ⟨u, hu, ru⟩ := rv.get hx
    have le : e < s.heap.objs.size := Heap.lt_size he
    have li : it < s.heap.objs.size := by obtain ⟨_, q, _⟩ := hit; exact Heap.lt_size q
    have hi : i < its.toArray.size := by
      rcases Nat.lt_or_ge i its.length with q | q
      · simpa using q
      · rw [List.getElem?_eq_none q] at hu; cases hu
    refine wpAny_pyNext_enum_itemD (Draws.tuple (A := X.A.in1) (I.ok.hd hc') it a ha its.toArray) he ⟨hit, p⟩ hi hb (by simp [hb, hc]) fun y h' tk hy ho st' hT hsz hk => ?_
    have hyu : y = u := by
      have : its[i]? = some y := by simpa using hy
      rw [hu] at this; exact (Option.some.inj this).symm
    subst hyu
    refine ⟨_, rfl, wpAny_letOwnedTupleGo_enum (s := { s with heap := h', toks := tk + 1 }) ho fun h'' he' sb => ?_⟩
    have hT2 : h''.get? s.heap.objs.size = some { cls := .type "tuple", data := .seq #[.int i tk, y] } := (sb.2 _ (Nat.ne_of_gt le)).trans hT
    have I1 : Inv X pins σ (upd H s.heap.objs.size (.tup [.int (i : Nat), x])) { s with heap := h'', toks := tk + 1 } :=
      I.turnedNew (ch := [e, it]) (fun b ob hb q => (sb.2 b (fun z => hb (by simp [z]))).trans (hk b ob (fun z => hb (by simp [z])) (fun z => hb (by simp [z])) q)) hf (Nat.le_refl _)
        ⟨by show 2 ≤ sizeLine; decide, [.int i tk, y], .cons ⟨_, rfl⟩ (.cons ru .nil), ⟨_, hT2, rfl, _, rfl⟩⟩
    refine ⟨.ref s.heap.objs.size, _, I1, rfl, ⟨_, x, rfl, I.hok.fresh (Nat.le_refl _), rfl, fun ys hy => by rw [I.tuple_inj hy hq]; exact hx⟩, ⟨⟨y, ?_⟩, st'.1.at fun o q => (sb.2 it (Ne.symm hb)).trans q⟩, fun b hb => ?_⟩
    · rw [show ((i + 1 : Nat) : Int) = (i : Int) + 1 by omega]; exact he'
    · have lb : b < s.heap.objs.size := by
        simp only [List.mem_cons, List.not_mem_nil, or_false] at hb
        rcases hb with rfl | rfl
        · exact le
        · exact li
      rw [upd_ne (Nat.ne_of_lt lb)]
      exact (hf b hb).1
  done := by
    intro X hP hw hK hc' i pins s σ H E I hf st hg
    subst hP hw hK
    obtain ⟨⟨old, he⟩, hit⟩ := st
    obtain ⟨xs, hq, hx⟩ := hg
    obtain ⟨its, rv, p, _⟩ := I.tuple hq
    obtain ⟨f0, f1, f2, f3, f4, f5⟩ := hf it (by simp)
    have hl := rv.length
    exact enum_endT (I.ok.hd hc') he hit p (by simp; omega) fun h' eb => ⟨rfl, I.turned (t' := s.toks) (fun b o hb q => eb b o hb q) f0 f1 f3 f4 f5⟩
  self := fun A i s Q E st h => let ⟨⟨_, he⟩, _⟩ := st; wpAny_pyIter_enum he h
/-- enumerate of a list or a tuple -/
def iEnumA (K : PySem.W.Frag) (ta : TA) : TI := fun σ H R => ta σ H fun vs H1 => ∃ a xs, vs = [.ref a] ∧ ((SqL K H1 a xs ∧ R (Ite K a) H1) ∨ (SqT K H1 a xs ∧ R (IteT K a) H1))
theorem pi_enumA {X : Cx} {e : Expr} {ta : TA} {p pos tpos : Pos} {elts : List Expr} {kk : Nat} (hg : Gl X "enumerate") (hm : X.mg "enumerate" = none) (ha : PA X [e] ta) (hs : starEach [e] X.env = [(false, eval e X.env)]) :
    PI X (.Tuple elts kk tpos) (.Call (.Name "enumerate" p) [e] [] pos) (iEnumA X.K ta) := by
  refine ⟨fun pins s σ H R I h => ?_⟩
  refine Call_ (ld_blt I hg hm boot_enumerate (PyProof.Rows.callWith_type1 (thn (ha.run pos pins s σ H _ I h) fun us s1 ⟨vs, H1, I1, r1, a, xs, ex, hq⟩ => ?_) hs rfl))
  subst ex
  have above : ∀ {b : Addr}, b ∈ [s1.heap.objs.size + 1, s1.heap.objs.size] → s1.heap.objs.size ≤ b := fun {b} hb => by
    simp only [List.mem_cons, List.not_mem_nil, or_false] at hb
    rcases hb with rfl | rfl
    · exact Nat.le_succ _
    · exact Nat.le_refl _
  cases r1 with
  | cons r rr =>
    cases rr
    cases r
    rcases hq with ⟨hq, q⟩ | ⟨hq, q⟩
    · obtain ⟨its, rv, p', _⟩ := I1.list hq
      refine call_enumerate_list p'.isList fun g he hit _ hk => wpAny_pyIter_enum he ?_
      exact ⟨s1.heap.objs.size + 1, [s1.heap.objs.size + 1, s1.heap.objs.size], _, _, H1, rfl, I1.kept (t' := s1.toks) hk, turn_enum a (s1.heap.objs.size + 1) s1.heap.objs.size, ⟨⟨.none, he⟩, hit, Nat.succ_ne_self _⟩, fun b hb => I1.fpOk (above hb) (I1.hok.fresh (above hb)), q⟩
    · obtain ⟨its, rv, p', _⟩ := I1.tuple hq
      have la : a < s1.heap.objs.size := by obtain ⟨_, q, _⟩ := p'; exact Heap.lt_size q
      refine enum_call1 (begins_tuple a its.toArray) p' fun g ⟨he, hit, hk⟩ => wpAny_pyIter_enum he ?_
      exact ⟨s1.heap.objs.size + 1, [s1.heap.objs.size + 1, s1.heap.objs.size], _, _, H1, rfl, I1.kept (t' := s1.toks) hk, turn_enumT a (s1.heap.objs.size + 1) s1.heap.objs.size (Nat.ne_of_lt la) (Nat.succ_ne_self _) (Nat.ne_of_gt (Nat.lt_succ_of_lt la)), ⟨⟨.none, he⟩, _, hit, rfl, rfl⟩, fun b hb => I1.fpOk (above hb) (I1.hok.fresh (above hb)), q⟩
end Lw
end

section
set_option Elab.async false
set_option linter.all false
set_option maxRecDepth 100000
set_option maxHeartbeats 4000000
/-! L10: what is walked; comprehensions; for, while -/
namespace Lw
open PySem L2
variable [TabInfo]
section
variable {K : PySem.W.Frag} {mg : Str → Option Value} {W : WX} {P P' P1 : Addr → Prop} {H H' H1 H0 : Hp} {σ σ' σ1 : St} {E E' E1 E0 : SE} {Φ : Nat → M Sl} {C : Nat → D}
/-- J walks ds, as long as what is protected or frozen stays -/
def Wk (K : PySem.W.Frag) (T : Addr → Prop) (P : Addr → Prop) (J : It) (H : Hp) (ds : List D) : Prop :=
  ∀ H2, Kp (fun a => P a ∨ T a) H H2 → (∀ i, ds.length ≤ i → J.stop i H2) ∧ ∀ (i : Nat) (d : D), ds[i]? = some d → J.go i H2 ∧ ∀ x H3, J.yld i H2 x H3 → (∀ a o, H2 a = some o → H3 a = some o) ∧ RepB K H3 (fun b => T b ∧ ∃ o, H b = some o) x d
/-- a list or tuple that stays -/
def StL (T P : Addr → Prop) (K : PySem.W.Frag) (H : Hp) (a : Addr) (vs : List V) (ds : List D) : Prop := H a = some (.lst vs) ∧ (P a ∨ T a) ∧ RepsB K H T vs ds
def StT (T P : Addr → Prop) (K : PySem.W.Frag) (H : Hp) (a : Addr) (vs : List V) (ds : List D) : Prop := SqT K H a vs ∧ RepsB K H T vs ds
theorem RepsB.kp2 {T P : Addr → Prop} {vs ds} {H2 : Hp} (r : RepsB K H T vs ds) (k : Kp (fun a => P a ∨ T a) H H2) : RepsB K H2 (fun b => T b ∧ ∃ o, H b = some o) vs ds :=
  (r.monoD fun a o e z => ⟨z, o, e⟩ : RepsB K H (fun b => T b ∧ ∃ o, H b = some o) vs ds).keep fun a o e t z => k a o e t (z.imp (fun z => .inr z.1) id)
theorem StL.at {T P : Addr → Prop} {a vs ds} {H2 : Hp} (s : StL T P K H a vs ds) (k : Kp (fun a => P a ∨ T a) H H2) : H2 a = some (.lst vs) ∧ RepsB K H2 (fun b => T b ∧ ∃ o, H b = some o) vs ds :=
  ⟨k a _ s.1 (fun _ z => nomatch z) (.inl s.2.1), s.2.2.kp2 k⟩
theorem StT.at {T P : Addr → Prop} {a vs ds} {H2 : Hp} (s : StT T P K H a vs ds) (k : Kp (fun a => P a ∨ T a) H H2) : SqT K H2 a vs ∧ RepsB K H2 (fun b => T b ∧ ∃ o, H b = some o) vs ds :=
  ⟨k.sqT s.1, s.2.kp2 k⟩
theorem sqL_inj {a vs ws} (h : H a = some (.lst vs)) (h' : SqL K H a ws) (hk : K.lookup a = none) : ws = vs := by
  rcases h' with (h' | ⟨o, h'⟩) | ⟨o, its, n, h', _⟩
  · rw [h] at h'; cases h'; rfl
  · rw [h] at h'; cases h'
  · rw [hk] at h'; cases h'
theorem wk_list {T P : Addr → Prop} {a vs ds} (s : StL T P K H a vs ds) : Wk K T P (Itl K a) H ds := fun H2 k => by
  obtain ⟨h1, h2⟩ := s.at k
  refine ⟨fun i hi => ⟨vs, SqL.of h1, by rw [h2.length]; exact hi⟩, fun i d e => ?_⟩
  obtain ⟨v, ev, r⟩ := h2.get e
  refine ⟨⟨vs, v, SqL.of h1, ev⟩, fun x H3 y => ?_⟩
  obtain ⟨rfl, y⟩ := y
  refine ⟨fun _ _ z => z, ?_⟩
  have := y vs (SqL.of h1)
  rw [ev] at this; cases this
  exact r
theorem wk_tup {T P : Addr → Prop} {a vs ds} (s : StT T P K H a vs ds) : Wk K T P (Itt K a) H ds := fun H2 k => by
  obtain ⟨h1, h2⟩ := s.at k
  refine ⟨fun i hi => ⟨vs, h1, by rw [h2.length]; exact hi⟩, fun i d e => ?_⟩
  obtain ⟨v, ev, r⟩ := h2.get e
  refine ⟨⟨vs, v, h1, ev⟩, fun x H3 y => ?_⟩
  obtain ⟨rfl, y⟩ := y
  refine ⟨fun _ _ z => z, ?_⟩
  have := y vs h1
  rw [ev] at this; cases this
  exact r
theorem wk_rng {T P : Addr → Prop} (lo hi : Int) : Wk K T P (Itr lo (hi - lo).toNat) H (rngD lo hi) := fun H2 k => by
  refine ⟨fun i h => (by rw [show (rngD lo hi).length = (hi - lo).toNat by simp [rngD]] at h; exact h), fun i d e => ?_⟩
  unfold rngD at e
  rw [List.getElem?_map] at e
  obtain ⟨j, e1, rfl⟩ := Option.map_eq_some_iff.mp e
  have hj : i < (hi - lo).toNat ∧ j = i := by
    obtain ⟨h1, h2⟩ := List.getElem?_eq_some_iff.mp e1
    rw [List.getElem_range] at h2
    exact ⟨by simpa using h1, h2.symm⟩
  obtain ⟨h1, rfl⟩ := hj
  refine ⟨h1, fun x H3 y => ?_⟩
  obtain ⟨rfl, rfl⟩ := y
  exact ⟨fun _ _ z => z, .int _⟩
theorem zip_get {xs ys : List D} {i : Nat} {d : D} (e : (zipD xs ys)[i]? = some d) : ∃ x y, xs[i]? = some x ∧ ys[i]? = some y ∧ d = .tup [x, y] := by
  unfold zipD at e
  rw [List.getElem?_map] at e
  obtain ⟨p, e1, rfl⟩ := Option.map_eq_some_iff.mp e
  rw [List.getElem?_zip_eq_some] at e1
  exact ⟨p.1, p.2, e1.1, e1.2, rfl⟩
theorem pair_new {T : Addr → Prop} {H2 : Hp} {p : Addr} {x y : V} {c d : D} (hp : H2 p = none) (r1 : RepB K H2 T x c) (r2 : RepB K H2 T y d) : RepB K (upd H2 p (.tup [x, y])) T (.ref p) (.tup [c, d]) :=
  .tup (SqT.of upd_same) (.cons (r1.keep (Kp.of (ext_upd hp))) (.cons (r2.keep (Kp.of (ext_upd hp))) .nil))
theorem wk_zip {T P : Addr → Prop} {a b vs ws ds es} (s : StL T P K H a vs ds) (t : StL T P K H b ws es) : Wk K T P (Itz K a b) H (zipD ds es) := fun H2 k => by
  obtain ⟨h1, h2⟩ := s.at k
  obtain ⟨h3, h4⟩ := t.at k
  refine ⟨fun i hi => ⟨vs, ws, SqL.of h1, SqL.of h3, ?_⟩, fun i d e => ?_⟩
  · rw [h2.length, h4.length]
    unfold zipD at hi
    rw [List.length_map, List.length_zip] at hi
    omega
  · obtain ⟨x, y, e1, e2, rfl⟩ := zip_get e
    obtain ⟨v, ev, r⟩ := h2.get e1
    obtain ⟨w, ew, r'⟩ := h4.get e2
    refine ⟨⟨vs, ws, v, w, SqL.of h1, SqL.of h3, ev, ew⟩, fun z H3 q => ?_⟩
    obtain ⟨p, v', w', rfl, hp, rfl, q1, q2⟩ := q
    have := q1 vs (SqL.of h1); rw [ev] at this; cases this
    have := q2 ws (SqL.of h3); rw [ew] at this; cases this
    exact ⟨ext_upd hp, pair_new hp r r'⟩
theorem wk_zipT {T P : Addr → Prop} {a b vs ws ds es} (s : StT T P K H a vs ds) (t : StT T P K H b ws es) : Wk K T P (RZ.ItzT K a b) H (zipD ds es) := fun H2 k => by
  obtain ⟨h1, h2⟩ := s.at k
  obtain ⟨h3, h4⟩ := t.at k
  refine ⟨fun i hi => ⟨vs, ws, h1, h3, ?_⟩, fun i d e => ?_⟩
  · rw [h2.length, h4.length]
    unfold zipD at hi
    rw [List.length_map, List.length_zip] at hi
    omega
  · obtain ⟨x, y, e1, e2, rfl⟩ := zip_get e
    obtain ⟨v, ev, r⟩ := h2.get e1
    obtain ⟨w, ew, r'⟩ := h4.get e2
    refine ⟨⟨vs, ws, v, w, h1, h3, ev, ew⟩, fun z H3 q => ?_⟩
    obtain ⟨p, v', w', rfl, hp, rfl, q1, q2⟩ := q
    have := q1 vs h1; rw [ev] at this; cases this
    have := q2 ws h3; rw [ew] at this; cases this
    exact ⟨ext_upd hp, pair_new hp r r'⟩
theorem wk_enum {T P : Addr → Prop} {a vs ds} (s : StL T P K H a vs ds) : Wk K T P (Ite K a) H (enumD ds) := fun H2 k => by
  obtain ⟨h1, h2⟩ := s.at k
  refine ⟨fun i hi => ⟨vs, SqL.of h1, ?_⟩, fun i d e => ?_⟩
  · rw [h2.length]; simpa [enumD] using hi
  · unfold enumD at e
    rw [List.getElem?_map] at e
    obtain ⟨p, e1, rfl⟩ := Option.map_eq_some_iff.mp e
    rw [List.getElem?_zipIdx] at e1
    obtain ⟨c, e2, rfl⟩ := Option.map_eq_some_iff.mp e1
    obtain ⟨v, ev, r⟩ := h2.get e2
    refine ⟨⟨vs, v, SqL.of h1, ev⟩, fun z H3 q => ?_⟩
    obtain ⟨p, v', rfl, hp, rfl, q1⟩ := q
    have := q1 vs (SqL.of h1); rw [ev] at this; cases this
    refine ⟨ext_upd hp, ?_⟩
    have := pair_new hp (RepB.int (K := K) (H := H2) (T := fun b => T b ∧ ∃ o, H b = some o) ((i : Nat) : Int)) r
    simpa using this
theorem wk_enumT {T P : Addr → Prop} {a vs ds} (s : StT T P K H a vs ds) : Wk K T P (IteT K a) H (enumD ds) := fun H2 k => by
  obtain ⟨h1, h2⟩ := s.at k
  refine ⟨fun i hi => ⟨vs, h1, ?_⟩, fun i d e => ?_⟩
  · rw [h2.length]; simpa [enumD] using hi
  · unfold enumD at e
    rw [List.getElem?_map] at e
    obtain ⟨p, e1, rfl⟩ := Option.map_eq_some_iff.mp e
    rw [List.getElem?_zipIdx] at e1
    obtain ⟨c, e2, rfl⟩ := Option.map_eq_some_iff.mp e1
    obtain ⟨v, ev, r⟩ := h2.get e2
    refine ⟨⟨vs, v, h1, ev⟩, fun z H3 q => ?_⟩
    obtain ⟨p, v', rfl, hp, rfl, q1⟩ := q
    have := q1 vs h1; rw [ev] at this; cases this
    refine ⟨ext_upd hp, ?_⟩
    have := pair_new hp (RepB.int (K := K) (H := H2) (T := fun b => T b ∧ ∃ o, H b = some o) ((i : Nat) : Int)) r
    simpa using this
def PostI (K : PySem.W.Frag) (mg : Str → Option Value) (W : WX) (P : Addr → Prop) (σ : St) (E : SE) (H : Hp) (R' : It → Hp → Prop) : R (List D) → Prop
  | .ok ds E' => ∀ J H' P', (∀ a, P a → P' a) → Good K P' H' σ E' → Lnk P σ E H P' σ E' H' → Wk K (Fz P' σ E') P' J H' ds → R' J H'
  | .exc C x E' => ∀ H' cls d, Good K P H' σ E' → Lnk P σ E H P σ E' H' → ExcR K mg (Fz P σ E') H' C x cls d → W cls d σ H'
  | .bad => False
def TIof (K : PySem.W.Frag) (mg : Str → Option Value) (W : WX) (f : M (List D)) : TI := fun σ H R' => ∃ P E, Good K P H σ E ∧ PostI K mg W P σ E H R' (f E)
/-- a list that is a result stays -/
theorem ResR.stL {v : V} {s : Sl} {ds : List D} (r : ResR K P σ E H v s) (hh : ∀ a, HeldBy v s a → P a) (e : s.d = .lst ds) : ∃ a vs, v = .ref a ∧ StL (Fz P σ E) P K H a vs ds := by
  cases s with
  | no => exact r.elim
  | val d =>
    have e : d = .lst ds := e
    subst e
    obtain ⟨S, r, hS⟩ := r
    cases r with
    | lst h1 h2 => exact ⟨_, _, rfl, h1, .inr (hS _ (List.mem_cons_self ..)), _, h2, fun b hb => hS b (List.mem_cons_of_mem _ hb)⟩
  | own d =>
    have e : d = .lst ds := e
    subst e
    obtain ⟨a, rfl, S, r, hS⟩ := r
    cases r with
    | lst h1 h2 => exact ⟨_, _, rfl, h1, .inl (hh a rfl), _, h2, hS⟩
theorem ResR.stT {v : V} {s : Sl} {ds : List D} (r : ResR K P σ E H v s) (e : s.d = .tup ds) : ∃ a vs, v = .ref a ∧ StT (Fz P σ E) P K H a vs ds := by
  cases s with
  | no => exact r.elim
  | val d =>
    have e : d = .tup ds := e
    subst e
    obtain ⟨a, vs, rfl, h1, h2⟩ := RepB.top r |>.tup
    exact ⟨a, vs, rfl, h1, h2⟩
  | own d =>
    have e : d = .tup ds := e
    subst e
    obtain ⟨a, rfl, S, r, hS⟩ := r
    cases r
theorem ResR.stP {v : V} {s : Sl} {ds : List D} (r : ResR K P σ E H v s) (e : s.d = .ptup ds) : ∃ a vs, v = .ref a ∧ StT (Fz P σ E) P K H a vs ds := by
  cases s with
  | no => exact r.elim
  | val d =>
    have e : d = .ptup ds := e
    subst e
    obtain ⟨S, r, hS⟩ := r
    cases r with
    | ptup h1 h2 h3 => exact ⟨_, _, rfl, .inl (.inr ⟨_, h1⟩), _, h3, hS⟩
  | own d =>
    have e : d = .ptup ds := e
    subst e
    obtain ⟨a, rfl, S, r, hS⟩ := r
    cases r
end
section
variable {X : Cx} {W : WX} {Φ : Nat → M Sl} {C : Nat → D} {tg iter : Expr}
/-- a list or a tuple is walked -/
theorem pi_seq {f : M Sl} {l : Expr} (hl : PE X l (TEof X.K X.mg W f)) : PI X tg l (TIof X.K X.mg W (M.bind f fun s => M.opt (itemsD s.d))) := by
  refine ⟨fun pins s σ H R I h => ?_⟩
  obtain ⟨P, E, g, h⟩ := h
  rw [mbind] at h
  cases e : f E with
  | bad => rw [e] at h; exact h.elim
  | exc Cn x E1 =>
    rw [e] at h
    exact (pi_list (tg := tg) hl).run pins s σ H R I ⟨P, E, g, by rw [e]; exact h⟩
  | ok t E1 =>
    rw [e, bind_ok] at h
    cases ed : t.d with
    | lst ds =>
      rw [ed] at h
      refine (pi_list (tg := tg) hl).run pins s σ H R I ⟨P, E, g, ?_⟩
      rw [e]
      intro v H1 g1 l1 r1 n1
      obtain ⟨a, vs, rfl, st⟩ := r1.stL (fun a z => .inr z) ed
      exact ⟨a, rfl, ⟨vs, SqL.of st.1⟩, h _ H1 _ (fun a z => .inl z) g1 l1 (wk_list st)⟩
    | tup ds =>
      rw [ed] at h
      refine (pi_tup (tg := tg) hl).run pins s σ H R I ⟨P, E, g, ?_⟩
      rw [e]
      intro v H1 g1 l1 r1 n1
      obtain ⟨a, vs, rfl, st⟩ := r1.stT ed
      exact ⟨a, rfl, ⟨vs, st.1⟩, h _ H1 _ (fun a z => .inl z) g1 l1 (wk_tup st)⟩
    | ptup ds =>
      rw [ed] at h
      refine (pi_tup (tg := tg) hl).run pins s σ H R I ⟨P, E, g, ?_⟩
      rw [e]
      intro v H1 g1 l1 r1 n1
      obtain ⟨a, vs, rfl, st⟩ := r1.stP ed
      exact ⟨a, rfl, ⟨vs, st.1⟩, h _ H1 _ (fun a z => .inl z) g1 l1 (wk_tup st)⟩
    | _ => rw [ed] at h; exact h.elim

theorem pi_rng1 {f : M Sl} {a : Expr} {p pos : Pos} (hg : Gl X "range") (hm : X.mg "range" = none) (ha : PA X [a] (tCons (TEof X.K X.mg W f) tNil)) (hs : starEach [a] X.env = [(false, eval a X.env)]) :
    PI X tg (.Call (.Name "range" p) [a] [] pos) (TIof X.K X.mg W (M.bind f fun s => match s with
      | .val (.int n) => if -(2 ^ 62) ≤ n ∧ n < 2 ^ 62 then M.pure (rngD 0 n) else M.bad
      | _ => M.bad)) := by
  refine ⟨fun pins s σ H R I h => (pi_range1 (tg := tg) hg hm ha hs).run pins s σ H R I ?_⟩
  obtain ⟨P, E, g, h⟩ := h
  rw [mbind] at h
  refine ⟨P, E, g, ?_⟩
  cases e : f E with
  | bad => rw [e] at h; exact h.elim
  | exc Cn x E1 => rw [e] at h; exact h
  | ok t E1 =>
    rw [e, bind_ok] at h
    intro v H1 g1 l1 r1 n1
    split at h
    · rename_i n
      split at h
      · rename_i hb
        have := RepB.int_v r1
        subst this
        refine ⟨n, rfl, hb.1, hb.2, h (Itr 0 n.toNat) H1 P (fun _ z => z) (g1.less fun a z => .inl z) (l1.less fun a z => .inl z) ?_⟩
        have := wk_rng (K := X.K) (T := Fz P σ E1) (P := P) (H := H1) 0 n
        rw [Int.sub_zero] at this
        exact this
      · exact h.elim
    · exact h.elim
theorem TopsB.ints2 {K H T vs} {m n : Int} (h : TopsB K H T vs [.int m, .int n]) : vs = [.int m, .int n] := by
  obtain ⟨v, w, rfl, h1, h2⟩ := h.two
  rw [h1.int, h2.int]
theorem pi_rng2 {oa ob : Opd} {a b : Expr} {p pos : Pos} (hg : Gl X "range") (hm : X.mg "range" = none) (ha : PA X [a, b] (tOpds X.K X.mg W [oa, ob])) (hs : starEach [a, b] X.env = [(false, eval a X.env), (false, eval b X.env)]) (hs2 : starEach [b] X.env = [(false, eval b X.env)]) :
    PI X tg (.Call (.Name "range" p) [a, b] [] pos) (TIof X.K X.mg W (M.bind (evA [oa, ob]) fun ds => match ds with
      | [.int m, .int n] => if (-(2 ^ 62) ≤ m ∧ m < 2 ^ 62) ∧ (-(2 ^ 62) ≤ n ∧ n < 2 ^ 62) then M.pure (rngD m n) else M.bad
      | _ => M.bad)) := by
  refine ⟨fun pins s σ H R I h => (pi_range2 (tg := tg) hg hm ha hs hs2).run pins s σ H R I ?_⟩
  obtain ⟨P, E, g, h⟩ := h
  rw [mbind] at h
  refine argsL [oa, ob] σ H _ ⟨P, E, g, ?_⟩
  cases e : evA [oa, ob] E with
  | bad => rw [e] at h; exact h.elim
  | exc Cn x E1 => rw [e] at h; exact h
  | ok ds E1 =>
    rw [e, bind_ok] at h
    intro vs H1 P1 hp g1 l1 ts
    split at h
    · rename_i m n
      split at h
      · rename_i hb
        have := ts.ints2
        subst this
        exact ⟨m, n, rfl, ⟨hb.1.1, hb.1.2, hb.2.1, hb.2.2⟩, h _ H1 P1 hp g1 l1 (wk_rng m n)⟩
      · exact h.elim
    · exact h.elim
theorem ArgsR.hold {K P P' σ E H vs ss} {j : Nat} {v : V} {s : Sl} (h : ArgsR K P P' σ E H vs ss) (e1 : vs[j]? = some v) (e2 : ss[j]? = some s) : ∀ a, HeldBy v s a → P' a := fun a z => by
  cases s with
  | own d =>
    have z' : v = .ref a := z
    subst z'
    exact (h.held j d a e2 e1).1
  | _ => exact z.elim
theorem pi_enum' {fa : M Sl} {a : Expr} {p pos tpos : Pos} {elts : List Expr} {kk : Nat} (hg : Gl X "enumerate") (hm : X.mg "enumerate" = none) (ha : PA X [a] (tArgs X.K X.mg W [.ex fa])) (hs : starEach [a] X.env = [(false, eval a X.env)]) :
    PI X (.Tuple elts kk tpos) (.Call (.Name "enumerate" p) [a] [] pos) (TIof X.K X.mg W (M.bind (evC [.ex fa]) fun ss => M.opt (match ss with
    | [s] => (itemsD s.d).map enumD
    | _ => none))) := by
  refine ⟨fun pins s σ H R I h => (pi_enumA hg hm ha hs).run pins s σ H R I ?_⟩
  obtain ⟨P, E, g, h⟩ := h
  rw [mbind] at h
  refine argsC [.ex fa] σ H _ P E g ?_
  cases e : evC [.ex fa] E with
  | bad => rw [e] at h; exact h.elim
  | exc Cn x E1 => rw [e] at h; exact h
  | ok ss E1 =>
    rw [e, bind_ok] at h
    intro vs H1 P1 hp g1 l1 ar sa
    have hlen := evC_length e
    match ss, hlen with
    | [s], _ =>
      have hl := ar.len
      match vs, hl with
      | [v], _ =>
        have r1 := ar.res 0 v s rfl rfl
        have h1 := ar.hold (j := 0) rfl rfl
        dsimp only at h
        cases ed : s.d with
        | lst xs =>
          rw [ed] at h
          obtain ⟨a, vs, rfl, s1⟩ := r1.stL h1 ed
          exact ⟨a, vs, rfl, .inl ⟨SqL.of s1.1, h _ H1 P1 hp g1 l1 (wk_enum s1)⟩⟩
        | tup xs =>
          rw [ed] at h
          obtain ⟨a, vs, rfl, s1⟩ := r1.stT ed
          exact ⟨a, vs, rfl, .inr ⟨s1.1, h _ H1 P1 hp g1 l1 (wk_enumT s1)⟩⟩
        | ptup xs =>
          rw [ed] at h
          obtain ⟨a, vs, rfl, s1⟩ := r1.stP ed
          exact ⟨a, vs, rfl, .inr ⟨s1.1, h _ H1 P1 hp g1 l1 (wk_enumT s1)⟩⟩
        | _ => rw [ed] at h; exact h.elim
theorem pi_zip' {fa fb : M Sl} {a b : Expr} {p pos tpos : Pos} {elts : List Expr} {kk : Nat} (hg : Gl X "zip") (hm : X.mg "zip" = none) (ha : PA X [a, b] (tArgs X.K X.mg W [.ex fa, .ex fb])) (hs : starEach [a, b] X.env = (false, eval a X.env) :: starEach [b] X.env) (hpl : (backTo pos (starEach [b] X.env)).any (·.1) = false) :
    PI X (.Tuple elts kk tpos) (.Call (.Name "zip" p) [a, b] [] pos) (TIof X.K X.mg W (M.bind (evC [.ex fa, .ex fb]) fun ss => M.opt (match ss with
    | [s, t] => match s.d, t.d with
      | .lst xs, .lst ys => some (zipD xs ys)
      | .tup xs, .tup ys => some (zipD xs ys)
      | _, _ => none
    | _ => none))) := by
  refine ⟨fun pins s σ H R I h => (RZ.pi_zipA hg hm ha hs hpl).run pins s σ H R I ?_⟩
  obtain ⟨P, E, g, h⟩ := h
  rw [mbind] at h
  refine argsC [.ex fa, .ex fb] σ H _ P E g ?_
  cases e : evC [.ex fa, .ex fb] E with
  | bad => rw [e] at h; exact h.elim
  | exc Cn x E1 => rw [e] at h; exact h
  | ok ss E1 =>
    rw [e, bind_ok] at h
    intro vs H1 P1 hp g1 l1 ar sa
    have hlen := evC_length e
    match ss, hlen with
    | [s, t], _ =>
      have hl := ar.len
      match vs, hl with
      | [v, w], _ =>
        have r1 := ar.res 0 v s rfl rfl
        have r2 := ar.res 1 w t rfl rfl
        have h1 := ar.hold (j := 0) rfl rfl
        have h2 := ar.hold (j := 1) rfl rfl
        dsimp only at h
        split at h
        · rename_i xs ys e1 e2
          obtain ⟨a, vs, rfl, s1⟩ := r1.stL h1 e1
          obtain ⟨b, ws, rfl, s2⟩ := r2.stL h2 e2
          exact ⟨a, b, vs, ws, rfl, .inl ⟨SqL.of s1.1, SqL.of s2.1, h _ H1 P1 hp g1 l1 (wk_zip s1 s2)⟩⟩
        · rename_i xs ys e1 e2
          obtain ⟨a, vs, rfl, s1⟩ := r1.stT e1
          obtain ⟨b, ws, rfl, s2⟩ := r2.stT e2
          exact ⟨a, b, vs, ws, rfl, .inr ⟨s1.1, s2.1, h _ H1 P1 hp g1 l1 (wk_zipT s1 s2)⟩⟩
        · exact h.elim
end
section
variable {K : PySem.W.Frag} {mg : Str → Option Value} {W : WX} {P P' P1 : Addr → Prop} {H H' H1 H0 : Hp} {σ σ' σ1 : St} {E E' E1 E0 : SE}
/-! ### targets -/
def tgT (K : PySem.W.Frag) : Tgt → TG
  | .nm i => gName i
  | .tup ts => gTup K ts.length (tgTs ts)
where
  tgTs : List Tgt → TGs
    | [] => gNil
    | t :: r => gCons (tgT K t) (tgTs r)
/-- what the stores of a target leave: the slots st alone are changed -/
def Same (st : List Nat) (σ σ' : St) : Prop := σ'.length = σ.length ∧ ∀ i, i ∉ st → σ'[i]? = σ[i]?
theorem Same.refl {st : List Nat} {σ : St} : Same st σ σ := ⟨rfl, fun _ _ => rfl⟩
theorem Same.trans {st : List Nat} {σ σ1 σ2 : St} (a : Same st σ σ1) (b : Same st σ1 σ2) : Same st σ σ2 := ⟨b.1.trans a.1, fun i h => (b.2 i h).trans (a.2 i h)⟩
theorem Same.mono {st st' : List Nat} {σ σ1 : St} (a : Same st σ σ1) (h : ∀ i ∈ st, i ∈ st') : Same st' σ σ1 := ⟨a.1, fun i n => a.2 i fun q => n (h i q)⟩
mutual
def Tgt.st : Tgt → List Nat
  | .nm i => [i]
  | .tup ts => Tgt.sts ts
def Tgt.sts : List Tgt → List Nat
  | [] => []
  | t :: r => Tgt.st t ++ Tgt.sts r
end

theorem own_set {v : V} {s : Sl} {i : Nat} {a : Addr} (h : OwnS (σ.set i (some v)) (E.set i s) a) : OwnS σ E a ∨ HeldBy v s a := by
  obtain ⟨j, d, e1, e2⟩ := h
  rw [getE_set] at e1
  split at e1
  · rename_i hij
    subst hij
    split at e1
    · cases e1
      by_cases hl : i < σ.length
      · rw [List.getElem?_set_self hl] at e2
        cases e2
        exact .inr rfl
      · rw [List.getElem?_eq_none (by simpa using hl)] at e2; cases e2
    · cases e1
  · rename_i hij
    rw [List.getElem?_set_ne hij] at e2
    exact .inl ⟨j, d, e1, e2⟩
/-- a result is stored -/
theorem Lnk.put {v : V} {s : Sl} {i : Nat} (l : Lnk P σ1 E1 H1 (Pl P v s) σ E H) (hn : ∀ a, HeldBy v s a → ¬ P a) : Lnk P σ1 E1 H1 P (σ.set i (some v)) (E.set i s) H :=
  ⟨l.keep, fun a h => (own_set h).elim (l.new a) fun z => (l.pr a (.inr z)).elim (fun p => absurd p (hn a z)) id, fun a z => l.pr a (.inl z), l.tbs⟩
theorem Same.set {i : Nat} {v : Option V} : Same [i] σ (σ.set i v) := ⟨by simp, fun j h => List.getElem?_set_ne (fun e => h (by simp [e]))⟩
mutual
theorem tgt_ok : ∀ (tg : Tgt) (d : D) (v : V) (σ : St) (E E' : SE) (H : Hp) (Q : St → Hp → Prop), Good K P H σ E → RepB K H (Fz P σ E) v d → bindT tg d E = some E' →
    (∀ σ', Good K P H σ' E' → Lnk P σ E H P σ' E' H → Same tg.st σ σ' → Q σ' H) → tgT K tg v σ H Q
  | .nm i, d, v, σ, E, E', H, Q, g, r, e, q => by
    rw [bindT] at e
    split at e
    · rename_i hi
      cases e
      have gl : Good K (Pl P v (.val d)) H σ E := g.less fun a z => z.elim id False.elim
      have rl : ResR K (Pl P v (.val d)) σ E H v (.val d) := RepB.mono r fun a z => ⟨fun q => z.1 (q.elim id False.elim), z.2⟩
      rw [tgT]
      exact q _ (gl.put rl (fun a z => z.elim) hi) (Lnk.put (Lnk.refl.less fun a z => z.elim id False.elim) fun a z => z.elim) Same.set
    · cases e
  | .tup ts, d, v, σ, E, E', H, Q, g, r, e, q => by
    cases d with
    | tup ds =>
      rw [bindT] at e
      obtain ⟨a, vs, rfl, h1, h2⟩ := r.top.tup
      rw [tgT]
      obtain ⟨hl, hq⟩ := tgts_ok ts ds vs σ E E' H Q g h2 e q
      exact ⟨a, vs, rfl, h1, hl, hq⟩
    | _ => simp [bindT] at e
theorem tgts_ok : ∀ (ts : List Tgt) (ds : List D) (vs : List V) (σ : St) (E E' : SE) (H : Hp) (Q : St → Hp → Prop), Good K P H σ E → RepsB K H (Fz P σ E) vs ds → bindTs ts ds E = some E' →
    (∀ σ', Good K P H σ' E' → Lnk P σ E H P σ' E' H → Same (Tgt.sts ts) σ σ' → Q σ' H) → vs.length = ts.length ∧ tgT.tgTs K ts vs σ H Q
  | [], ds, vs, σ, E, E', H, Q, g, r, e, q => by
    cases ds with
    | nil =>
      rw [bindTs] at e
      cases e
      have : vs = [] := List.eq_nil_of_length_eq_zero r.length
      subst this
      rw [tgT.tgTs]
      exact ⟨rfl, rfl, q σ g Lnk.refl Same.refl⟩
    | cons d ds => simp [bindTs] at e
  | t :: ts, ds, vs, σ, E, E', H, Q, g, r, e, q => by
    cases ds with
    | nil => simp [bindTs] at e
    | cons d ds =>
      cases vs with
      | nil => have := r.length; simp at this
      | cons v vs =>
        rw [bindTs] at e
        cases e1 : bindT t d E with
        | none => rw [e1] at e; cases e
        | some E1 =>
          rw [e1] at e
          have e : bindTs ts ds E1 = some E' := e
          obtain ⟨r1, r2⟩ := r.uncons
          have hlen : vs.length = ts.length := by
            have h1 := r2.length
            have h2 := bindTs_len e
            rw [h1, ← h2]
          refine ⟨by simp [hlen], ?_⟩
          rw [tgT.tgTs]
          refine ⟨v, vs, rfl, tgt_ok t d v σ E E1 H _ g r1 e1 fun σ1 g1 l1 s1 => ?_⟩
          exact (tgts_ok ts ds vs σ1 E1 E' H Q g1 (r2.lnk g l1) e fun σ2 g2 l2 s2 => q σ2 g2 (l1.trans l2)
            ((s1.mono fun i h => by rw [Tgt.sts]; exact List.mem_append_left _ h).trans (s2.mono fun i h => by rw [Tgt.sts]; exact List.mem_append_right _ h))).2
theorem bindTs_len : ∀ {ts : List Tgt} {ds : List D} {E E' : SE}, bindTs ts ds E = some E' → ts.length = ds.length
  | [], [], _, _, _ => rfl
  | t :: ts, [], E, _, h => by simp [bindTs] at h
  | [], d :: ds, E, _, h => by simp [bindTs] at h
  | t :: ts, d :: ds, E, E', h => by
    rw [bindTs] at h
    cases e1 : bindT t d E with
    | none => rw [e1] at h; cases h
    | some E1 =>
      rw [e1] at h
      have h : bindTs ts ds E1 = some E' := h
      simp [bindTs_len h]
end
end
end Lw
end

section
set_option Elab.async false
set_option linter.all false
set_option maxRecDepth 100000
set_option maxHeartbeats 4000000
/-! L11: list comprehensions -/
namespace Lw
open PySem L2
variable [TabInfo]
section
variable {K : PySem.W.Frag} {mg : Str → Option Value} {W : WX} {P P' P1 P2 : Addr → Prop} {H H' H1 H0 H2 : Hp} {σ σ' σ1 : St} {E E' E1 E0 : SE}
theorem wipeE_len (E : SE) : ∀ own, (wipeE E own).length = E.length
  | [] => rfl
  | i :: r => by simp [wipeE, wipeE_len E r]
theorem wipeE_at (E : SE) (j : Nat) : ∀ own : List Nat, (wipeE E own)[j]? = if j ∈ own then (if j < E.length then some .no else none) else E[j]?
  | [] => by simp [wipeE]
  | i :: r => by
    rw [wipeE, getE_set, wipeE_at E j r, wipeE_len]
    by_cases h : i = j
    · subst h; simp
    · have h' : j ≠ i := fun e => h e.symm
      simp [h, h']
theorem backE_len (E0 E : SE) : ∀ own, (backE E0 E own).length = E.length
  | [] => rfl
  | i :: r => by simp [backE, backE_len E0 E r]
theorem backE_at (E0 E : SE) (j : Nat) : ∀ own : List Nat, (backE E0 E own)[j]? = if j ∈ own then (if j < E.length then some (E0.getD j .no) else none) else E[j]?
  | [] => by simp [backE]
  | i :: r => by
    rw [backE, getE_set, backE_at E0 E j r, backE_len]
    by_cases h : i = j
    · subst h; simp
    · have h' : j ≠ i := fun e => h e.symm
      simp [h, h']
theorem wipe_at (σ : St) (j : Nat) : ∀ vs : List Nat, (wipe σ vs)[j]? = if j ∈ vs then (if j < σ.length then some none else none) else σ[j]?
  | [] => by simp [wipe]
  | i :: r => by
    rw [wipe]
    by_cases h : i = j
    · subst h
      by_cases hl : i < σ.length
      · rw [List.getElem?_set_self (by rw [wipe_length]; exact hl)]; simp [hl]
      · rw [List.getElem?_eq_none (by rw [List.length_set, wipe_length]; omega)]; simp [hl]
    · have h' : j ≠ i := fun e => h e.symm
      rw [List.getElem?_set_ne h, wipe_at σ j r]
      simp [h']
theorem wipe_eq {σ σ2 : St} {vs st : List Nat} (s : Same st (wipe σ vs) σ2) (h : ∀ i ∈ st, i ∈ vs) : wipe σ2 vs = wipe σ vs := by
  apply List.ext_getElem?
  intro j
  rw [wipe_at, wipe_at, s.1, wipe_length]
  by_cases hj : j ∈ vs
  · simp [hj]
  · simp only [hj, if_false]
    rw [s.2 j (fun q => hj (h j q)), wipe_at]
    simp [hj]
theorem own_wipe {own : List Nat} {a : Addr} (h : OwnS (wipe σ own) (wipeE E own) a) : OwnS σ E a := by
  obtain ⟨j, d, e1, e2⟩ := h
  rw [wipeE_at] at e1
  rw [wipe_at] at e2
  by_cases hj : j ∈ own
  · simp only [hj, if_true] at e1
    split at e1 <;> cases e1
  · simp only [hj, if_false] at e1 e2
    exact ⟨j, d, e1, e2⟩
theorem Good.wipe (g : Good K P H σ E) (own : List Nat) : Good K P H (wipe σ own) (wipeE E own) where
  len := by rw [wipe_length, wipeE_len]; exact g.len
  dom := g.dom
  val := fun j d e => by
    rw [wipeE_at] at e
    rw [wipe_at]
    by_cases hj : j ∈ own
    · simp only [hj, if_true] at e
      split at e <;> cases e
    · simp only [hj, if_false] at e ⊢
      obtain ⟨v, e1, r⟩ := g.val j d e
      exact ⟨v, e1, r.mono fun a z => ⟨z.1, fun q => z.2 (own_wipe q)⟩⟩
  own := fun j d e => by
    rw [wipeE_at] at e
    rw [wipe_at]
    by_cases hj : j ∈ own
    · simp only [hj, if_true] at e
      split at e <;> cases e
    · simp only [hj, if_false] at e ⊢
      obtain ⟨v, e1, r⟩ := g.own j d e
      exact ⟨v, e1, r.monoD fun a _ _ z => ⟨z.1, fun q => z.2 (own_wipe q)⟩⟩
  dis := fun a q => g.dis a (own_wipe q)
  inj := fun i j d d' a e1 e2 e3 e4 => by
    rw [wipeE_at] at e1 e2
    rw [wipe_at] at e3 e4
    by_cases hi : i ∈ own
    · simp only [hi, if_true] at e1
      split at e1 <;> cases e1
    · by_cases hj : j ∈ own
      · simp only [hj, if_true] at e2
        split at e2 <;> cases e2
      · simp only [hi, hj, if_false] at e1 e2 e3 e4
        exact g.inj i j d d' a e1 e2 e3 e4
  tab := g.tab
theorem Lnk.wipe {own : List Nat} : Lnk P σ E H P (L2.wipe σ own) (wipeE E own) H := ⟨fun _ _ e _ _ => e, fun a h => .inl (own_wipe h), fun _ h => .inl h, fun _ e => e⟩
/-- a protected object is changed -/
theorem kp_updP {a : Addr} {o : HO} {T : Addr → Prop} (ha : ¬ T a) (hm : ∀ u, H a = some u → Mu u) : Kp T H (upd H a o) := fun b u e _ h => by
  by_cases hb : b = a
  · subst hb
    rcases h with h | h
    · exact absurd h ha
    · exact absurd (hm u e) h
  · rw [upd_ne hb]; exact e
theorem Good.updP (g : Good K P H σ E) {a : Addr} {o : HO} (ha : P a) (hm : ∀ u, H a = some u → Mu u) : Good K P (upd H a o) σ E where
  len := g.len
  dom := fun b p => by
    by_cases hb : b = a
    · subst hb; exact ⟨o, upd_same⟩
    · rw [upd_ne hb]; exact g.dom b p
  val := fun j d e => let ⟨v, e1, r⟩ := g.val j d e; ⟨v, e1, r.keep (kp_updP (fun z => z.1 ha) hm)⟩
  own := fun j d e => let ⟨v, e1, r⟩ := g.own j d e; ⟨v, e1, r.keep (kp_updP (fun z => z.elim (fun z => z.1 ha) fun z => g.dis v ⟨j, d, e, e1⟩ (z ▸ ha)) hm)⟩
  dis := g.dis
  inj := g.inj
  tab := tabs_upd g.tab hm
theorem Lnk.updN (l : Lnk P σ E H P' σ' E' H') {a : Addr} {o : HO} (ha : H a = Option.none) : Lnk P σ E H P' σ' E' (upd H' a o) :=
  ⟨fun b u e t n => by rw [upd_ne (ne_of_none e ha)]; exact l.keep b u e t n, l.new, l.pr, fun b e => l.tbs b (none_upd e)⟩
/-- the slots of a comprehension's own are put back -/
theorem Good.back {own : List Nat} (g1 : Good K P1 H1 σ E1) (hno : notOwn E1 own = true) (hp : ∀ a, P1 a → P2 a) (g : Good K P2 H (L2.wipe σ own) E) (l : Lnk P1 (L2.wipe σ own) (wipeE E1 own) H1 P2 (L2.wipe σ own) E H) :
    Good K P2 H σ (backE E1 E own) ∧ ∀ a, OwnS σ (backE E1 E own) a → OwnS (L2.wipe σ own) E a := by
  have hlen : E.length = E1.length := by rw [← g.len, wipe_length, g1.len]
  have at1 : ∀ {j : Nat}, j ∈ own → ∀ {s : Sl}, (backE E1 E own)[j]? = some s → E1[j]? = some s ∧ ∀ d, s ≠ .own d := fun {j} hj {s} e => by
    rw [backE_at] at e
    simp only [hj, if_true] at e
    split at e
    · rename_i hl
      cases e
      have e1 : E1[j]? = some (E1.getD j .no) := by
        rw [List.getD_eq_getElem?_getD, List.getElem?_eq_getElem (by omega)]; rfl
      refine ⟨e1, fun d q => ?_⟩
      have := List.all_eq_true.mp hno j hj
      rw [e1, q] at this
      cases this
    · cases e
  have at2 : ∀ {j : Nat}, j ∉ own → (backE E1 E own)[j]? = E[j]? := fun {j} hj => by rw [backE_at]; simp [hj]
  have sub : ∀ a, OwnS σ (backE E1 E own) a → OwnS (L2.wipe σ own) E a := fun a ⟨j, d, e1, e2⟩ => by
    by_cases hj : j ∈ own
    · exact absurd rfl ((at1 hj e1).2 d)
    · rw [at2 hj] at e1
      exact ⟨j, d, e1, by rw [wipe_at]; simpa [hj] using e2⟩
  have fz : ∀ a, Fz P2 (L2.wipe σ own) E a → Fz P2 σ (backE E1 E own) a := fun a z => ⟨z.1, fun q => z.2 (sub a q)⟩
  refine ⟨⟨by rw [backE_len, ← g.len, wipe_length], g.dom, fun j d e => ?_, fun j d e => ?_, fun a q => g.dis a (sub a q), fun i j d d' a e1 e2 e3 e4 => ?_, g.tab⟩, sub⟩
  · by_cases hj : j ∈ own
    · obtain ⟨v, e1, r⟩ := g1.val j d (at1 hj e).1
      have r' : RepB K H1 (Fz P1 (L2.wipe σ own) (wipeE E1 own)) v d := r.mono fun a z => ⟨z.1, fun q => z.2 (own_wipe q)⟩
      exact ⟨v, e1, (r'.lnk (g1.wipe own) l).mono fz⟩
    · rw [at2 hj] at e
      obtain ⟨v, e1, r⟩ := g.val j d e
      rw [wipe_at] at e1
      simp only [hj, if_false] at e1
      exact ⟨v, e1, r.mono fz⟩
  · by_cases hj : j ∈ own
    · exact absurd rfl ((at1 hj e).2 d)
    · rw [at2 hj] at e
      obtain ⟨v, e1, r⟩ := g.own j d e
      rw [wipe_at] at e1
      simp only [hj, if_false] at e1
      exact ⟨v, e1, r.monoD fun b _ _ z => fz b z⟩
  · by_cases hi : i ∈ own
    · exact absurd rfl ((at1 hi e1).2 d)
    · by_cases hj : j ∈ own
      · exact absurd rfl ((at1 hj e2).2 d')
      · rw [at2 hi] at e1
        rw [at2 hj] at e2
        exact g.inj i j d d' a e1 e2 (by rw [wipe_at]; simpa [hi] using e3) (by rw [wipe_at]; simpa [hj] using e4)
abbrev W0 : WX := fun _ _ _ _ => False
/-- a comprehension -/
theorem lc_sound {fI : M (List D)} {tg : Tgt} {tests : List (M Bool)} {elt : M Sl} {own : List Nat} {tt : TT} (hst : ∀ i ∈ tg.st, i ∈ own) (htt : ∀ σ H Q, TTof K mg W0 (lcI.allT tests) σ H Q → tt σ H Q) :
    ∀ σ H Q, TEof K mg W (M.bind fI fun ds => fun E => if notOwn E own then
      (match lcI (bindT tg) tests elt own ds [] (wipeE E own) with
      | .ok acc E1 => .ok (.own (.lst acc)) (backE E E1 own)
      | _ => .bad) else .bad) σ H Q → tLc (TIof K mg W fI) (tgT K tg) tt (TEof K mg W0 elt) own σ H Q := by
  intro σ H Q ⟨P, E, g, h⟩
  refine ⟨P, E, g, ?_⟩
  rw [mbind] at h
  cases eI : fI E with
  | bad => rw [eI] at h; exact h.elim
  | exc Cn x E1 => rw [eI] at h; exact h
  | ok ds E1 =>
    rw [eI, bind_ok] at h
    split at h
    case isFalse => exact h.elim
    rename_i hno
    intro J H1 P1 hp g1 l1 wk D hD
    split at h
    case h_2 => exact h.elim
    rename_i accF E2 eL
    have PD : ∀ b, P1 b → b ≠ D := fun b p e => by
      obtain ⟨o, q⟩ := g1.dom b p
      rw [e, hD] at q; cases q
    have gw := g1.wipe own
    refine ⟨fun i m Hi => m = ds.length - i ∧ i ≤ ds.length ∧ ∃ Ei accV accD, Good K (fun b => P1 b ∨ b = D) Hi (wipe σ own) Ei ∧ Lnk P1 (wipe σ own) (wipeE E1 own) H1 (fun b => P1 b ∨ b = D) (wipe σ own) Ei Hi ∧
      Hi D = some (.lst accV) ∧ RepsB K Hi (Fz (fun b => P1 b ∨ b = D) (wipe σ own) Ei) accV accD ∧ lcI (bindT tg) tests elt own (ds.drop i) accD Ei = .ok accF E2, ⟨ds.length, by simp, Nat.zero_le _, wipeE E1 own, [], [], ?_, ?_, upd_same, .nil, by simpa using eL⟩, ?_⟩
    · exact gw.fresh hD (ext_upd hD) upd_same
    · exact ⟨fun a o e _ _ => ext_upd hD a o e, fun a h => .inl h, fun a h => h.elim .inl fun z => .inr (.inr (by rw [z]; exact hD)), fun a e => none_upd e⟩
    · rintro i m Hi ⟨rfl, hi, Ei, accV, accD, gi, li, hDi, ri, ei⟩
      have kp : Kp (fun a => P1 a ∨ Fz P1 σ E1 a) H1 Hi := fun a o e t z => gw.kp li a o e t (z.imp (fun z q => z.elim (fun z => g1.dis a (own_wipe q) z) fun z => z.2 (own_wipe q)) id)
      obtain ⟨wstop, wgo⟩ := wk Hi kp
      by_cases hlt : i < ds.length
      · -- a turn
        right
        have ed : ds[i]? = some ds[i] := by simp [hlt]
        obtain ⟨go, yld⟩ := wgo i ds[i] ed
        rw [List.drop_eq_getElem_cons hlt] at ei
        rw [lcI] at ei
        dsimp only at ei
        cases eb : bindT tg ds[i] (wipeE Ei own) with
        | none => rw [eb] at ei; cases ei
        | some Eb =>
        rw [eb] at ei
        obtain ⟨b, Et, eT, ei⟩ := R.bind_ok (f := fun (b : Bool) => fun E2 =>
          if b then (elt E2).bind fun s => fun E3 => if accD.length < sizeLine then lcI (bindT tg) tests elt own (ds.drop (i + 1)) (accD ++ [s.d]) (wipeE E3 own) else .bad
          else lcI (bindT tg) tests elt own (ds.drop (i + 1)) accD (wipeE E2 own)) ei
        refine ⟨go, fun H' => ds.length - (i + 1) = ds.length - (i + 1) ∧ i + 1 ≤ ds.length ∧ ∃ Ei accV accD, Good K (fun b => P1 b ∨ b = D) H' (wipe σ own) Ei ∧ Lnk P1 (wipe σ own) (wipeE E1 own) H1 (fun b => P1 b ∨ b = D) (wipe σ own) Ei H' ∧
          H' D = some (.lst accV) ∧ RepsB K H' (Fz (fun b => P1 b ∨ b = D) (wipe σ own) Ei) accV accD ∧ lcI (bindT tg) tests elt own (ds.drop (i + 1)) accD Ei = .ok accF E2, fun H' q => ⟨ds.length - (i + 1), by omega, q⟩, fun x H3 y => ?_⟩
        obtain ⟨ext3, rx⟩ := yld x H3 y
        have g3 := (gi.ext ext3).wipe own
        have ww : wipe (wipe σ own) own = wipe σ own := wipe_eq (σ := σ) (st := []) Same.refl (fun _ z => nomatch z)
        rw [ww] at g3
        have l3 : Lnk P1 (wipe σ own) (wipeE E1 own) H1 (fun b => P1 b ∨ b = D) (wipe σ own) (wipeE Ei own) H3 := by
          have := (li.trans (Lnk.ext ext3)).trans (Lnk.wipe (own := own))
          rwa [ww] at this
        have rx' : RepB K H3 (Fz (fun b => P1 b ∨ b = D) (wipe σ own) (wipeE Ei own)) x ds[i] := rx.mono fun b ⟨z, o, e⟩ => l3.fz (a := b) e ⟨z.1, fun q => z.2 (own_wipe q)⟩
        refine tgt_ok tg ds[i] x _ _ Eb H3 _ g3 rx' eb fun σ2 g4 l4 s4 => ⟨wipe_eq s4 hst, htt σ2 H3 _ ⟨_, Eb, g4, ?_⟩⟩
        rw [eT]
        intro H5 g5 l5
        have l5' := (l3.trans l4).trans l5
        have ri5 : RepsB K H5 (Fz (fun b => P1 b ∨ b = D) σ2 Et) accV accD := by
          have r3 : RepsB K H3 (Fz (fun b => P1 b ∨ b = D) (wipe σ own) Ei) accV accD := ri.keep (Kp.of ext3)
          have r3' : RepsB K H3 (Fz (fun b => P1 b ∨ b = D) (wipe σ own) (wipeE Ei own)) accV accD := by
            have := r3.mono (T' := Fz (fun b => P1 b ∨ b = D) (wipe (wipe σ own) own) (wipeE Ei own)) fun b z => ⟨z.1, fun q => z.2 (own_wipe q)⟩
            rwa [ww] at this
          exact (r3'.lnk g3 l4).lnk g4 l5
        have hD5 : H5 D = some (.lst accV) := by
          have h3 := ext3 D _ hDi
          have h4 := l4.keep D _ h3 (fun _ z => nomatch z) fun q => g3.dis D q (.inr rfl)
          exact l5.keep D _ h4 (fun _ z => nomatch z) fun q => g4.dis D q (.inr rfl)
        have mD : ∀ {Hz : Hp} {u}, Hz D = some (.lst accV) → Hz D = some u → Mu u := fun {Hz u} e e' => by rw [e] at e'; cases e'; trivial
        cases b with
        | false =>
          simp only [Bool.false_eq_true, if_false] at ei ⊢
          refine ⟨trivial, hlt, wipeE Et own, accV, accD, ?_, ?_, hD5, ?_, ei⟩
          · have := g5.wipe own
            rwa [wipe_eq s4 hst] at this
          · have := l5'.trans (Lnk.wipe (own := own))
            rwa [wipe_eq s4 hst] at this
          · have := ri5.mono (T' := Fz (fun b => P1 b ∨ b = D) (wipe σ2 own) (wipeE Et own)) fun b z => ⟨z.1, fun q => z.2 (own_wipe q)⟩
            rwa [wipe_eq s4 hst] at this
        | true =>
          simp only [if_true] at ei ⊢
          obtain ⟨s, Es, eS, ei⟩ := R.bind_ok (f := fun (s : Sl) => fun E3 => if accD.length < sizeLine then lcI (bindT tg) tests elt own (ds.drop (i + 1)) (accD ++ [s.d]) (wipeE E3 own) else .bad) ei
          split at ei
          case isFalse => cases ei
          rename_i hsz
          refine ⟨_, Et, g5, ?_⟩
          rw [eS]
          intro v H6 g6 l6 r6 n6
          have g6' : Good K (fun b => P1 b ∨ b = D) H6 σ2 Es := g6.less fun a z => .inl z
          have l6' : Lnk (fun b => P1 b ∨ b = D) σ2 Et H5 (fun b => P1 b ∨ b = D) σ2 Es H6 := l6.less fun a z => .inl z
          have hD6 : H6 D = some (.lst accV) := l6.keep D _ hD5 (fun _ z => nomatch z) fun q => g5.dis D q (.inr rfl)
          have kD : ∀ {vs : List V} {xs : List Lw.D}, RepsB K H6 (Fz (fun b => P1 b ∨ b = D) σ2 Es) vs xs → ∀ o, RepsB K (upd H6 D o) (Fz (fun b => P1 b ∨ b = D) σ2 Es) vs xs := fun r o => r.keep (kp_updP (fun z => z.1 (.inr rfl)) fun u e => mD hD6 e)
          refine ⟨accV, hD6, by rw [ri.length]; exact hsz, trivial, hlt, wipeE Es own, accV ++ [v], accD ++ [s.d], ?_, ?_, upd_same, ?_, ei⟩
          · have := (g6'.updP (a := D) (o := .lst (accV ++ [v])) (.inr rfl) fun u e => mD hD6 e).wipe own
            rwa [wipe_eq s4 hst] at this
          · have := ((l5'.trans l6').updN (o := .lst (accV ++ [v])) hD).trans (Lnk.wipe (own := own))
            rwa [wipe_eq s4 hst] at this
          · have r7 := ((ri5.lnk g5 l6').append (.cons (r6.frz0 g6 n6) .nil) : RepsB K H6 (Fz (fun b => P1 b ∨ b = D) σ2 Es) (accV ++ [v]) (accD ++ [s.d]))
            have := (kD r7 (.lst (accV ++ [v]))).mono (T' := Fz (fun b => P1 b ∨ b = D) (wipe σ2 own) (wipeE Es own)) fun b z => ⟨z.1, fun q => z.2 (own_wipe q)⟩
            rwa [wipe_eq s4 hst] at this
      · -- the end
        left
        have en : i = ds.length := by omega
        subst en
        refine ⟨wstop _ (Nat.le_refl _), ?_⟩
        rw [List.drop_length] at ei
        have ei : R.ok accD Ei = R.ok accF E2 := ei
        cases ei
        obtain ⟨gb, sub⟩ := g1.back hno (fun a z => .inl z) gi li
        have hh : ∀ b, HeldBy (.ref D) (.own (.lst accF)) b → b = D := fun b z => by
          have z' : V.ref D = .ref b := z
          cases z'; rfl
        have less : ∀ b, Pl P (.ref D) (.own (.lst accF)) b → (P1 b ∨ b = D) := fun b z => z.imp (hp b) (hh b)
        refine h (.ref D) Hi (gb.less less) ?_ ⟨D, rfl, ?_⟩ fun b z p => ?_
        · refine ((l1.trans (Lnk.wipe (own := own))).trans (li.trans ⟨fun a o e _ _ => e, fun a q => .inl (sub a q), fun a q => .inl q, fun _ e => e⟩)).less less
        · exact OwnB.lst hDi (ri.mono fun b z => ⟨fun q => z.1 (less b q), fun q => z.2 (sub b q)⟩)
        · exact PD b (hp b p) (hh b z)
end
end Lw
end

section
set_option Elab.async false
set_option linter.all false
set_option maxRecDepth 100000
set_option maxHeartbeats 4000000
/-! L12: statements -/
namespace Lw
open PySem L2
variable [TabInfo]
section
variable (K : PySem.W.Frag) (mg : Str → Option Value) (W : WX) (st : List Nat)
/-- what is wanted of a statement's end; the slots outside st keep their values -/
def PostS (P : Addr → Prop) (σ : L2.St) (E : SE) (H : Hp) (D : Ends) : SR → Prop
  | .nx E' => ∀ σ' H', Good K P H' σ' E' → Lnk P σ E H P σ' E' H' → Same st σ σ' → D.nx σ' H'
  | .bk E' => ∀ σ' H', Good K P H' σ' E' → Lnk P σ E H P σ' E' H' → Same st σ σ' → D.bk σ' H'
  | .ct E' => ∀ σ' H', Good K P H' σ' E' → Lnk P σ E H P σ' E' H' → Same st σ σ' → D.ct σ' H'
  | .rt s E' => ∀ v σ' H', Good K (Pl P v s) H' σ' E' → Lnk P σ E H (Pl P v s) σ' E' H' → Same st σ σ' → ResR K (Pl P v s) σ' E' H' v s → (∀ a, HeldBy v s a → ¬ P a) → D.rt v H'
  | .exc C x E' => ∀ σ' H' cls d, Good K P H' σ' E' → Lnk P σ E H P σ' E' H' → Same st σ σ' → ExcR K mg (Fz P σ' E') H' C x cls d → W cls d σ' H'
  | .bad => False
def TSof (f : SE → SR) : TS := fun D σ H => ∃ P E, Good K P H σ E ∧ PostS K mg W st P σ E H D (f E)
end
section
variable {K : PySem.W.Frag} {mg : Str → Option Value} {W : WX} {st : List Nat} {P P' P1 P2 : Addr → Prop} {H H' H1 H0 H2 : Hp} {σ σ' σ1 : L2.St} {E E' E1 E0 : SE} {D : Ends}
/-- a later start -/
theorem PostS.step {r : SR} (h : PostS K mg W st P σ E H D r) (l : Lnk P σ E H P1 σ1 E1 H1) (s : Same st σ σ1) (hp : ∀ a, P a → P1 a) : PostS K mg W st P1 σ1 E1 H1 D r := by
  cases r with
  | nx E' => exact fun σ' H' g l' s' => h σ' H' (g.less hp) ((l.trans l').less hp) (s.trans s')
  | bk E' => exact fun σ' H' g l' s' => h σ' H' (g.less hp) ((l.trans l').less hp) (s.trans s')
  | ct E' => exact fun σ' H' g l' s' => h σ' H' (g.less hp) ((l.trans l').less hp) (s.trans s')
  | rt v E' =>
    have hq : ∀ {w} a, Pl P w v a → Pl P1 w v a := fun a z => z.imp (hp a) id
    refine fun w σ' H' g l' s' r n => h w σ' H' (g.less hq) ((l.trans l').less hq) (s.trans s') ?_ fun a z q => n a z (hp a q)
    cases v with
    | no => exact r
    | val d => exact RepB.mono r fun a z => ⟨fun q => z.1 (hq a q), z.2⟩
    | own d =>
      obtain ⟨a, e, r⟩ := r
      exact ⟨a, e, r.monoD fun b _ _ z => ⟨fun q => z.1 (hq b q), z.2⟩⟩
  | exc C x E' => exact fun σ' H' cls d g l' s' x => h σ' H' cls d (g.less hp) ((l.trans l').less hp) (s.trans s') (x.less fun a z => ⟨fun q => z.1 (hp a q), z.2⟩)
  | bad => exact h
theorem PostS.step0 {r : SR} (h : PostS K mg W st P σ E H D r) (l : Lnk P σ E H P σ1 E1 H1) (s : Same st σ σ1) : PostS K mg W st P σ1 E1 H1 D r := h.step l s fun _ z => z
/-! ### blocks -/
theorem ss_nil {σ : L2.St} {H : Hp} (h : TSof K mg W st .nx D σ H) : tNext D σ H := by
  obtain ⟨P, E, g, h⟩ := h
  exact h σ H g Lnk.refl Same.refl
theorem ss_seq {f g : SE → SR} (h : TSof K mg W st (fun E => (f E).then g) D σ H) : tSeq (TSof K mg W st f) (TSof K mg W st g) D σ H := by
  obtain ⟨P, E, gd, h⟩ := h
  dsimp only at h
  refine ⟨P, E, gd, ?_⟩
  cases e : f E with
  | nx E1 =>
    rw [e] at h
    exact fun σ1 H1 g1 l1 s1 => ⟨P, E1, g1, PostS.step0 h l1 s1⟩
  | _ => rw [e] at h; exact h
theorem ss_bk {σ : L2.St} {H : Hp} (h : TSof K mg W st .bk D σ H) : tBreak D σ H := let ⟨_, _, g, h⟩ := h; h σ H g Lnk.refl Same.refl
theorem ss_ct {σ : L2.St} {H : Hp} (h : TSof K mg W st .ct D σ H) : tCont D σ H := let ⟨_, _, g, h⟩ := h; h σ H g Lnk.refl Same.refl
theorem ss_retN {σ : L2.St} {H : Hp} (h : TSof K mg W st (fun E => .rt (.val .non) E) D σ H) : tRetN D σ H := by
  obtain ⟨P, E, g, h⟩ := h
  exact h .non σ H (g.less fun a z => z.elim id False.elim) (Lnk.refl.less fun a z => z.elim id False.elim) Same.refl RepB.non fun a z => z.elim
theorem ss_bad {t : TS} (h : TSof K mg W st (fun _ => .bad) D σ H) : t D σ H := let ⟨_, _, _, h⟩ := h; h.elim
/-- the parts of a statement that end in an expression's value -/
theorem of_post {α : Type} {r : R α} {k : α → SE → SR} {C : Str} {x : Lw.D} {E1 : SE} (e : r = .exc C x E1) (h : PostS K mg W st P σ E H D (.of r k)) :
    ∀ H' cls d, Good K P H' σ E1 → Lnk P σ E H P σ E1 H' → ExcR K mg (Fz P σ E1) H' C x cls d → W cls d σ H' := by
  subst e
  exact fun H' cls d g l x => h σ H' cls d g l Same.refl x
theorem ss_drop {f : M Sl} (h : TSof K mg W st (fun E => .of (f E) fun _ => .nx) D σ H) : tDrop (TEof K mg W f) D σ H := by
  obtain ⟨P, E, g, h⟩ := h
  dsimp only at h
  refine ⟨P, E, g, ?_⟩
  cases e : f E with
  | bad => rw [e] at h; exact h
  | exc C x E1 => exact of_post e h
  | ok s E1 =>
    rw [e] at h
    exact fun v H1 g1 l1 r1 n1 => h σ H1 (g1.less fun a z => .inl z) (l1.less fun a z => .inl z) Same.refl
theorem ss_ret {f : M Sl} (h : TSof K mg W st (fun E => .of (f E) .rt) D σ H) : tRet (TEof K mg W f) D σ H := by
  obtain ⟨P, E, g, h⟩ := h
  dsimp only at h
  refine ⟨P, E, g, ?_⟩
  cases e : f E with
  | bad => rw [e] at h; exact h
  | exc C x E1 => exact of_post e h
  | ok s E1 =>
    rw [e] at h
    exact fun v H1 g1 l1 r1 n1 => h v σ H1 g1 l1 Same.refl r1 n1
theorem ss_if {c : M Bool} {f g : SE → SR} (h : TSof K mg W st (fun E => .of (c E) fun k => if k then f else g) D σ H) : tIfS (TTof K mg W c) (TSof K mg W st f) (TSof K mg W st g) D σ H := by
  obtain ⟨P, E, gd, h⟩ := h
  dsimp only at h
  refine ⟨P, E, gd, ?_⟩
  cases e : c E with
  | bad => rw [e] at h; exact h
  | exc C x E1 => exact of_post e h
  | ok k E1 =>
    rw [e] at h
    intro H1 g1 l1
    cases k with
    | true => exact ⟨P, E1, g1, PostS.step0 h l1 Same.refl⟩
    | false => exact ⟨P, E1, g1, PostS.step0 h l1 Same.refl⟩
theorem putS_eq {i : Nat} {s : Sl} {E : SE} (h : s ≠ .no) : putS i s E = if i < E.length then .nx (E.set i s) else .bad := by
  cases s with
  | no => exact absurd rfl h
  | val d => rfl
  | own d => rfl
theorem Lnk.put2 {v : V} {s : Sl} {i : Nat} (l : Lnk P1 σ1 E1 H1 (Pl P v s) σ E H) (hn : ∀ a, HeldBy v s a → ¬ P1 a) : Lnk P1 σ1 E1 H1 P (σ.set i (some v)) (E.set i s) H :=
  ⟨l.keep, fun a z => (own_set z).elim (l.new a) fun z => (l.pr a (.inr z)).elim (fun p => absurd p (hn a z)) id, fun a z => l.pr a (.inl z), l.tbs⟩
/-- what a slot takes -/
theorem put_ok {i : Nat} {s : Sl} {v : V} (hi : i ∈ st) (g1 : Good K (Pl P v s) H1 σ E1) (l1 : Lnk P σ E H (Pl P v s) σ E1 H1) (r1 : ResR K (Pl P v s) σ E1 H1 v s) (n1 : ∀ a, HeldBy v s a → ¬ P a) (h : PostS K mg W st P σ E H D (putS i s E1)) : D.nx (σ.set i (some v)) H1 := by
  have key : s ≠ .no → i < E1.length → PostS K mg W st P σ E H D (.nx (E1.set i s)) → D.nx (σ.set i (some v)) H1 := fun _ hl h =>
    h _ H1 (g1.put r1 n1 hl) (l1.put n1) (Same.set.mono fun j hj => by simp at hj; rw [hj]; exact hi)
  have hs : s ≠ .no := fun e => by subst e; exact r1
  rw [putS_eq hs] at h
  by_cases hl : i < E1.length
  · rw [if_pos hl] at h; exact key hs hl h
  · rw [if_neg hl] at h; exact h.elim
theorem ss_set {i : Nat} {f : M Sl} (hi : i ∈ st) (h : TSof K mg W st (fun E => .of (f E) fun s => putS i s) D σ H) : tAsg (TEof K mg W f) (gName i) D σ H := by
  obtain ⟨P, E, g, h⟩ := h
  dsimp only at h
  refine ⟨P, E, g, ?_⟩
  cases e : f E with
  | bad => rw [e] at h; exact h
  | exc C x E1 => exact of_post e h
  | ok s E1 =>
    rw [e] at h
    exact fun v H1 g1 l1 r1 n1 => put_ok hi g1 l1 r1 n1 h
theorem ss_setT {ts : List Tgt} {f : M Sl} (hi : ∀ i ∈ Tgt.sts ts, i ∈ st) (h : TSof K mg W st (fun E => .of (f E) fun s E1 => match s with
    | .val (.tup ds) => (match bindT (.tup ts) (.tup ds) E1 with
      | some E2 => .nx E2
      | none => .bad)
    | _ => .bad) D σ H) : tAsg (TEof K mg W f) (tgT K (.tup ts)) D σ H := by
  obtain ⟨P, E, g, h⟩ := h
  dsimp only at h
  refine ⟨P, E, g, ?_⟩
  cases e : f E with
  | bad => rw [e] at h; exact h
  | exc C x E1 => exact of_post e h
  | ok s E1 =>
    rw [e] at h
    intro v H1 g1 l1 r1 n1
    dsimp only [SR.of] at h
    split at h
    · rename_i ds
      split at h
      · rename_i E2 eb
        have g1' : Good K P H1 σ E1 := g1.less fun a z => .inl z
        have l1' : Lnk P σ E H P σ E1 H1 := l1.less fun a z => .inl z
        refine tgt_ok (.tup ts) (.tup ds) v σ E1 E2 H1 _ g1' (RepB.mono r1 fun a z => ⟨fun q => z.1 (.inl q), z.2⟩) eb fun σ2 g2 l2 s2 => ?_
        exact h σ2 H1 g2 (l1'.trans l2) (s2.mono fun j hj => hi j (by rwa [Tgt.st] at hj))
      · exact h.elim
    · exact h.elim
/-- .. several at once -/
def setAll : L2.St → List Nat → List V → L2.St
  | σ, i :: is, v :: vs => setAll (σ.set i (some v)) is vs
  | σ, _, _ => σ
theorem ResR.lnk2 {s : Sl} {v : V} (r : ResR K P σ E H v s) (g : Good K P H σ E) (l : Lnk P σ E H P' σ' E' H') (hn : ∀ a, HeldBy v s a → P a) : ResR K P' σ' E' H' v s := by
  cases s with
  | no => exact r
  | val d => exact RepB.lnk r g l
  | own d =>
    obtain ⟨a, rfl, r⟩ := r
    exact ⟨a, rfl, r.lnk g l fun q => g.dis a q (hn a rfl)⟩
theorem ResR.mono2 {s : Sl} {v : V} (r : ResR K P σ E H v s) (m : ∀ a, Fz P σ E a → Fz P' σ' E' a) : ResR K P' σ' E' H v s := by
  cases s with
  | no => exact r
  | val d => exact RepB.mono r m
  | own d =>
    obtain ⟨a, rfl, r⟩ := r
    exact ⟨a, rfl, r.monoD fun b _ _ z => m b z⟩
theorem putAll_ok : ∀ (is : List Nat) (ss : List Sl) (vs : List V) (σ1 : L2.St) (E1 : SE) (P1 : Addr → Prop), (∀ i ∈ is, i ∈ st) → (∀ a, P a → P1 a) → Good K P1 H1 σ1 E1 → Lnk P σ E H P1 σ1 E1 H1 → Same st σ σ1 → ArgsR K P P1 σ1 E1 H1 vs ss →
    PostS K mg W st P σ E H D (putAll is ss E1) → is.length = vs.length ∧ D.nx (setAll σ1 is vs) H1
  | [], [], vs, σ1, E1, P1, hi, hp, g1, l1, s1, ar, h => by
    have : vs = [] := List.eq_nil_of_length_eq_zero ar.len
    subst this
    exact ⟨rfl, h σ1 H1 (g1.less hp) (l1.less hp) s1⟩
  | i :: is, s :: ss, [], σ1, E1, P1, hi, hp, g1, l1, s1, ar, h => by have := ar.len; simp at this
  | i :: is, s :: ss, v :: vs, σ1, E1, P1, hi, hp, g1, l1, s1, ar, h => by
    have r0 := ar.res 0 v s rfl rfl
    have hh : ∀ a, HeldBy v s a → P1 a ∧ ¬ P a := fun a z => by
      cases s with
      | own d => exact ar.held 0 d a rfl (by rw [show v = .ref a from z]; rfl)
      | _ => exact z.elim
    have key : s ≠ .no → i < E1.length → PostS K mg W st P σ E H D (putAll is ss (E1.set i s)) → (i :: is).length = (v :: vs).length ∧ D.nx (setAll σ1 (i :: is) (v :: vs)) H1 := fun _ hl h => by
      have lp : ∀ a, Pl (fun a => P1 a ∧ ¬ HeldBy v s a) v s a → P1 a := fun a z => z.elim (·.1) fun z => (hh a z).1
      have g2 : Good K (Pl (fun a => P1 a ∧ ¬ HeldBy v s a) v s) H1 σ1 E1 := g1.less lp
      have r2 : ResR K (Pl (fun a => P1 a ∧ ¬ HeldBy v s a) v s) σ1 E1 H1 v s := r0.lnk2 g1 (Lnk.refl.less lp) fun a z => (hh a z).1
      have hn : ∀ a, HeldBy v s a → ¬ (P1 a ∧ ¬ HeldBy v s a) := fun a z q => q.2 z
      have g3 := g2.put r2 hn hl
      have l3 : Lnk P σ E H (fun a => P1 a ∧ ¬ HeldBy v s a) (σ1.set i (some v)) (E1.set i s) H1 := (l1.less lp).put2 fun a z => (hh a z).2
      have hi' : i ∈ st := hi i (by simp)
      have tl : ∀ (j : Nat) (d : Lw.D) (a : Addr), ss[j]? = some (.own d) → vs[j]? = some (.ref a) → P1 a ∧ ¬ P a ∧ ¬ HeldBy v s a := fun j d a e1 e2 => by
        have q := ar.held (j + 1) d a e1 e2
        refine ⟨q.1, q.2, fun z => ?_⟩
        cases s with
        | own d' =>
          have := ar.inj 0 (j + 1) d' d a rfl e1 (by rw [show v = .ref a from z]; rfl) e2
          cases this
        | _ => exact z.elim
      have := putAll_ok is ss vs (σ1.set i (some v)) (E1.set i s) (fun a => P1 a ∧ ¬ HeldBy v s a) (fun j hj => hi j (List.mem_cons_of_mem _ hj)) (fun a p => ⟨hp a p, fun z => (hh a z).2 p⟩) g3 l3 (s1.trans (Same.set.mono fun j hj => by simp at hj; rw [hj]; exact hi'))
        ⟨by have := ar.len; simpa using this, fun j w t e1 e2 => (ar.res (j + 1) w t e1 e2).mono2 fun a z => ⟨fun q => z.1 q.1, fun q => (own_set q).elim z.2 fun y => z.1 (hh a y).1⟩, fun j d a e1 e2 => let ⟨q1, q2, q3⟩ := tl j d a e1 e2; ⟨⟨q1, q3⟩, q2⟩, fun j k d d' a e1 e2 e3 e4 => by have := ar.inj (j + 1) (k + 1) d d' a e1 e2 e3 e4; omega⟩ h
      exact ⟨by simp [this.1], this.2⟩
    have hs : s ≠ .no := fun e => by subst e; exact r0
    rw [putAll, putS_eq hs] at h
    by_cases hl : i < E1.length
    · rw [if_pos hl] at h; exact key hs hl h
    · rw [if_neg hl] at h; exact h.elim
  | [], s :: ss, vs, σ1, E1, P1, hi, hp, g1, l1, s1, ar, h => by simp [putAll] at h; exact h.elim
  | i :: is, [], vs, σ1, E1, P1, hi, hp, g1, l1, s1, ar, h => by simp [putAll] at h; exact h.elim
def tParN (is : List Nat) (ta : TA) : TS := fun D σ H => ta σ H fun vs H1 => is.length = vs.length ∧ D.nx (setAll σ is vs) H1
theorem ss_par {is : List Nat} {as : List Arg} (hi : ∀ i ∈ is, i ∈ st) (h : TSof K mg W st (fun E => .of (evC as E) fun ss => putAll is ss) D σ H) : tParN is (tArgs K mg W as) D σ H := by
  obtain ⟨P, E, g, h⟩ := h
  dsimp only at h
  refine argsC as σ H _ P E g ?_
  cases e : evC as E with
  | bad => rw [e] at h; exact h
  | exc C x E1 => exact of_post e h
  | ok ss E1 =>
    rw [e] at h
    exact fun vs H1 P1 hp g1 l1 ar sa => putAll_ok is ss vs σ E1 P1 hi hp g1 l1 Same.refl ar h
theorem tPar_of {i j : Nat} {ta : TA} (hm : ∀ σ H Q Q', (∀ vs H1, Q vs H1 → Q' vs H1) → ta σ H Q → ta σ H Q') (h : tParN [i, j] ta D σ H) : tPar i j ta D σ H :=
  hm σ H _ _ (fun vs H1 ⟨hl, q⟩ => by
    match vs, hl, q with
    | [v, w], _, q => exact ⟨v, w, rfl, q⟩) h
end
end Lw
end

section
set_option Elab.async false
set_option linter.all false
set_option maxRecDepth 100000
set_option maxHeartbeats 4000000
/-! L13: statements that change objects; loops -/
namespace Lw
open PySem L2
variable [TabInfo]
section
variable {K : PySem.W.Frag} {mg : Str → Option Value} {W : WX} {st : List Nat} {P P' P1 P2 : Addr → Prop} {H H' H1 H0 H2 : Hp} {σ σ' σ1 : L2.St} {E E' E1 E0 : SE} {D : Ends}
/-- a held object is changed in place -/
theorem kp_fz {a : Addr} {o : HO} {d : Lw.D} {i : Nat} (e1 : E[i]? = some (.own d)) (e2 : σ[i]? = some (some (.ref a))) (hm : ∀ u, H a = some u → Mu u) : Kp (Fz P σ E) H (upd H a o) := kp_updP (fun z => z.2 ⟨i, d, e1, e2⟩) hm
theorem Good.upd (g : Good K P H σ E) {a : Addr} {o : HO} {d d' : Lw.D} {i : Nat} (e1 : E[i]? = some (.own d)) (e2 : σ[i]? = some (some (.ref a))) (hm : ∀ u, H a = some u → Mu u) (r : OwnB K (upd H a o) (Fz P σ E) a d') :
    Good K P (upd H a o) σ (E.set i (.own d')) ∧ ∀ b, OwnS σ (E.set i (.own d')) b → OwnS σ E b := by
  have hi : i < E.length := by
    rcases Nat.lt_or_ge i E.length with h | h
    · exact h
    · rw [List.getElem?_eq_none h] at e1; cases e1
  have gE : ∀ (j : Nat), (E.set i (.own d'))[j]? = if i = j then some (.own d') else E[j]? := fun j => by
    rw [getE_set]
    by_cases h : i = j
    · subst h; rw [if_pos rfl, if_pos rfl, if_pos hi]
    · rw [if_neg h, if_neg h]
  have sub : ∀ b, OwnS σ (E.set i (.own d')) b → OwnS σ E b := fun b ⟨j, x, q1, q2⟩ => by
    rw [gE] at q1
    by_cases h : i = j
    · subst h
      exact ⟨i, d, e1, q2⟩
    · rw [if_neg h] at q1; exact ⟨j, x, q1, q2⟩
  have fz : ∀ b, Fz P σ E b → Fz P σ (E.set i (.own d')) b := fun b z => ⟨z.1, fun q => z.2 (sub b q)⟩
  have k := kp_fz (P := P) (o := o) e1 e2 hm
  refine ⟨⟨by rw [List.length_set]; exact g.len, fun b p => ?_, fun j x e => ?_, fun j x e => ?_, fun b q => g.dis b (sub b q), fun j l x x' b q1 q2 q3 q4 => ?_, tabs_upd g.tab hm⟩, sub⟩
  · by_cases hb : b = a
    · subst hb; exact ⟨o, upd_same⟩
    · rw [upd_ne hb]; exact g.dom b p
  · rw [gE] at e
    by_cases h : i = j
    · rw [if_pos h] at e; cases e
    · rw [if_neg h] at e
      obtain ⟨v, q, r⟩ := g.val j x e
      exact ⟨v, q, (r.keep k).mono fz⟩
  · rw [gE] at e
    by_cases h : i = j
    · subst h
      rw [if_pos rfl] at e
      cases e
      exact ⟨a, e2, r.monoD fun b _ _ z => fz b z⟩
    · rw [if_neg h] at e
      obtain ⟨b, q, r'⟩ := g.own j x e
      have hba : b ≠ a := fun z => h (g.inj i j d x a e1 e e2 (by rw [q, z]))
      refine ⟨b, q, (r'.keep fun c u ec tc hc => ?_).monoD fun b _ _ z => fz b z⟩
      rcases hc with (hc | hc) | hc
      · exact k c u ec tc (.inl hc)
      · rw [hc] at ec ⊢; rw [upd_ne hba]; exact ec
      · exact k c u ec tc (.inr hc)
  · rw [gE] at q1 q2
    by_cases h : i = j
    · by_cases h' : i = l
      · omega
      · rw [if_neg h'] at q2
        subst h
        exact g.inj i l d x' b e1 q2 q3 q4
    · rw [if_neg h] at q1
      by_cases h' : i = l
      · subst h'
        exact g.inj j i x d b q1 e1 q3 q4
      · rw [if_neg h'] at q2
        exact g.inj j l x x' b q1 q2 q3 q4
theorem Lnk.upd (l : Lnk P σ E H P1 σ1 E1 H1) {a : Addr} {o : HO} {E2 : SE} (ha : OwnS σ1 E1 a) (sub : ∀ b, OwnS σ1 E2 b → OwnS σ1 E1 b) : Lnk P σ E H P1 σ1 E2 (upd H1 a o) :=
  ⟨fun b u e t n => by
    have hb : b ≠ a := fun z => by
      subst z
      rcases l.new b ha with q | q
      · exact n q
      · rw [e] at q; cases q
    rw [upd_ne hb]; exact l.keep b u e t n, fun b q => l.new b (sub b q), l.pr, fun b e => l.tbs b (none_upd e)⟩
theorem own_at {i : Nat} {d : Lw.D} (g : Good K P H σ E) (e : E[i]? = some (.own d)) : ∃ a, σ[i]? = some (some (.ref a)) ∧ OwnB K H (Fz P σ E) a d ∧ (∀ u, H a = some u → Mu u) := by
  obtain ⟨a, e2, r⟩ := g.own i d e
  refine ⟨a, e2, r, fun u eu => ?_⟩
  obtain ⟨u', eu', m⟩ := g.ownD ⟨i, d, e, e2⟩
  rw [eu] at eu'; cases eu'; exact m
theorem OwnB.lst_inv {a : Addr} {ds : List Lw.D} {T : Addr → Prop} (h : OwnB K H T a (.lst ds)) : ∃ vs, H a = some (.lst vs) ∧ RepsB K H T vs ds := by
  obtain ⟨S, h, hS⟩ := h
  cases h with
  | lst h1 h2 => exact ⟨_, h1, _, h2, hS⟩
theorem RepB.lst_inv {v : V} {ds : List Lw.D} {T : Addr → Prop} (h : RepB K H T v (.lst ds)) : ∃ b vs, v = .ref b ∧ H b = some (.lst vs) ∧ RepsB K H T vs ds ∧ T b := by
  obtain ⟨S, h, hS⟩ := h
  cases h with
  | lst h1 h2 => exact ⟨_, _, rfl, h1, ⟨_, h2, fun a ha => hS a (List.mem_cons_of_mem _ ha)⟩, hS _ List.mem_cons_self⟩
/-- l.append(x) and the like on a slot's list -/
def tMut (i : Nat) (r : V → List V → Hp → VK → Prop) (te : TE) : TE := tBM K "list" r (tVar i) (tCons te tNil)
theorem updS_of {i : Nat} {f : Lw.D → Option Lw.D} (h : PostS K mg W st P σ E H D (updS i f E1)) : ∃ d d', E1[i]? = some (.own d) ∧ f d = some d' ∧ PostS K mg W st P σ E H D (.nx (E1.set i (.own d'))) := by
  unfold updS at h
  split at h
  · rename_i d e
    split at h
    · rename_i d' e'
      exact ⟨d, d', e, e', h⟩
    · exact h.elim
  · exact h.elim
theorem isOwnL_at {i : Nat} (h : isOwnL E i = true) : ∃ ds, E[i]? = some (.own (.lst ds)) := by
  unfold isOwnL at h
  split at h
  · exact ⟨_, by assumption⟩
  · cases h
/-- a statement that changes a slot's list by a value -/
theorem ss_mut {i : Nat} {f : M Sl} {u : Sl → Lw.D → Option Lw.D} {r : V → List V → Hp → VK → Prop}
    (hu : ∀ (H : Hp) (σ : L2.St) (E : SE) (a : Addr) (vs : List V) (v : V) (s : Sl) (ds : List Lw.D) (d' : Lw.D), Good K P H σ E → E[i]? = some (.own (.lst ds)) → σ[i]? = some (some (.ref a)) → H a = some (.lst vs) → RepsB K H (Fz P σ E) vs ds → RepB K H (Fz P σ E) v s.d → u s (.lst ds) = some d' →
      ∃ ws es, d' = .lst es ∧ RepsB K H (Fz P σ E) ws es ∧ ∀ Q : VK, Q .non (upd H a (.lst ws)) → r (.ref a) [v] H Q)
    (hl : ∀ s d d', u s d = some d' → ∃ ds, d = .lst ds)
    (h : ∃ E, Good K P H σ E ∧ PostS K mg W st P σ E H D (if isOwnL E i then .of (f E) fun s => updS i (u s) else .bad)) : tDrop (tMut (K := K) i r (TEof K mg W f)) D σ H := by
  obtain ⟨E, g, h⟩ := h
  by_cases hi : isOwnL E i = true
  · rw [if_pos hi] at h
    obtain ⟨ds0, e0⟩ := isOwnL_at hi
    obtain ⟨a, e2, r0, _⟩ := own_at g e0
    obtain ⟨vs0, ha0, _⟩ := r0.lst_inv
    refine ⟨.ref a, e2, .inl ⟨rfl, vs0, .inl (.inl ha0)⟩, ?_⟩
    show TEof K mg W f σ H _
    refine ⟨P, E, g, ?_⟩
    cases e : f E with
    | bad => rw [e] at h; exact h
    | exc C x E1 => exact of_post e h
    | ok s E1 =>
      rw [e] at h
      intro v H1 g1 l1 r1 n1
      obtain ⟨d, d', e1, ed, h⟩ := updS_of h
      obtain ⟨ds, rfl⟩ := hl s d d' ed
      have g1' : Good K P H1 σ E1 := g1.less fun a z => .inl z
      have l1' : Lnk P σ E H P σ E1 H1 := l1.less fun a z => .inl z
      obtain ⟨b, e3, r3, hm⟩ := own_at g1' e1
      rw [e2] at e3; cases e3
      obtain ⟨vs, ha, rv⟩ := r3.lst_inv
      obtain ⟨ws, es, rfl, rw', q⟩ := hu H1 σ E1 a vs v s ds d' g1' e1 e2 ha rv (r1.frz0 g1 n1) ed
      refine q _ ?_
      obtain ⟨g2, sub⟩ := g1'.upd (o := .lst ws) (d' := .lst es) e1 e2 hm (OwnB.lst upd_same (rw'.keep (kp_fz e1 e2 hm)))
      exact h σ _ g2 (l1'.upd ⟨i, _, e1, e2⟩ sub) Same.refl
  · rw [if_neg hi] at h; exact h.elim
theorem ss_app {i : Nat} {f : M Sl} (h : TSof K mg W st (fun E => if isOwnL E i then .of (f E) fun s => updS i (appD s) else .bad) D σ H) : tDrop (tMut (K := K) i rAppend (TEof K mg W f)) D σ H := by
  obtain ⟨P, E, g, h⟩ := h
  refine ss_mut (P := P) (u := appD) (fun H σ E a vs v s ds d' g e1 e2 ha rv r1 ed => ?_) (fun s d d' ed => ?_) ⟨E, g, h⟩
  · simp only [appD] at ed
    split at ed
    · rename_i hz
      cases ed
      exact ⟨vs ++ [v], _, rfl, rv.append (.cons r1 .nil), fun Q q => ⟨a, vs, v, rfl, rfl, ha, by rw [rv.length]; exact hz, q⟩⟩
    · cases ed
  · cases d with
    | lst ds => exact ⟨ds, rfl⟩
    | _ => cases ed
theorem ss_ext {i : Nat} {f : M Sl} (h : TSof K mg W st (fun E => if isOwnL E i then .of (f E) fun s => updS i (extD s) else .bad) D σ H) : tDrop (tMut (K := K) i rExtend (TEof K mg W f)) D σ H := by
  obtain ⟨P, E, g, h⟩ := h
  refine ss_mut (P := P) (u := extD) (fun H σ E a vs v s ds d' g e1 e2 ha rv r1 ed => ?_) (fun s d d' ed => ?_) ⟨E, g, h⟩
  · simp only [extD] at ed
    split at ed
    · rename_i ys es
      rw [es] at r1
      split at ed
      · rename_i hz
        cases ed
        obtain ⟨b, zs, rfl, hb, rz, _⟩ := r1.lst_inv
        exact ⟨vs ++ zs, _, rfl, rv.append rz, fun Q q => ⟨a, b, vs, zs, rfl, rfl, ha, hb, by rw [rv.length, rz.length]; exact hz, q⟩⟩
      · cases ed
    · cases ed
  · cases d with
    | lst ds => exact ⟨ds, rfl⟩
    | _ => cases ed
/-- name op= e -/
theorem ss_aug {i : Nat} {f : M Sl} {o : Operator} {g : Int → Int → Int} (ho : ∀ d x s, augO o d x = some s → ∃ a b, d = .int a ∧ x = .int b ∧ s = vI (g a b)) (hi : i ∈ st) (h : TSof K mg W st (fun E => .of (evA [.slot i, .ex f] E) fun ds E1 => match ds with
    | [a, b] => (match augO o a b with
      | some s => putS i s E1
      | none => .bad)
    | _ => .bad) D σ H) : tAug i (TEof K mg W f) (ipI g) D σ H := by
  have := argsL (K := K) (mg := mg) (W := W) [.slot i, .ex f] σ H (fun vs H1 => ∃ a b, vs = [.int a, .int b] ∧ D.nx (σ.set i (some (.int (g a b)))) H1) ?_
  · obtain ⟨v, e1, h2⟩ := this
    refine ⟨v, e1, ?_⟩
    obtain ⟨P, E, gd, h2⟩ := (show TEof K mg W f σ H _ from h2)
    refine ⟨P, E, gd, ?_⟩
    cases e : f E with
    | bad => rw [e] at h2; exact h2
    | exc C x E1 => rw [e] at h2; exact h2
    | ok s E1 =>
      rw [e] at h2
      intro w H1 g1 l1 r1 n1
      obtain ⟨a, b, e3, q⟩ := h2 w H1 g1 l1 r1 n1
      cases e3
      exact ⟨a, b, rfl, rfl, q⟩
  · obtain ⟨P, E, gd, h⟩ := h
    dsimp only at h
    refine ⟨P, E, gd, ?_⟩
    cases e : evA [.slot i, .ex f] E with
    | bad => rw [e] at h; exact h
    | exc C x E1 => exact of_post e h
    | ok ds E1 =>
      rw [e] at h
      intro vs H1 P1 hp g1 l1 ts
      dsimp only [SR.of] at h
      split at h
      · rename_i x y
        split at h
        · rename_i s es
          obtain ⟨a, b, rfl, rfl, rfl⟩ := ho _ _ _ es
          have := ts.ints2
          subst this
          refine ⟨a, b, rfl, ?_⟩
          exact put_ok (s := vI (g a b)) hi (g1.less fun a z => z.elim (hp a) False.elim) (l1.less fun a z => z.elim (hp a) False.elim) (RepB.int _) (fun a z => z.elim) h
        · exact h.elim
      · exact h.elim
/-- l[k] = e -/
theorem ss_sidx {i : Nat} {f k : M Sl} (h : TSof K mg W st (fun E => if isOwnL E i then .of (evC [.ex f, .ex k] E) fun ss => (match ss with
    | [v, .val k] => updS i fun d => setD d k v.d
    | _ => fun _ => .bad) else .bad) D σ H) : tAsg (TEof K mg W f) (gSub (tVar i) (TEof K mg W k) rSetL) D σ H := by
  obtain ⟨P, E, g, h⟩ := h
  dsimp only at h
  by_cases hi : isOwnL E i = true
  · rw [if_pos hi] at h
    obtain ⟨ds0, e0⟩ := isOwnL_at hi
    obtain ⟨a, e2, r0, _⟩ := own_at g e0
    have := argsC (K := K) (mg := mg) (W := W) [.ex f, .ex k] σ H (fun vs H1 => ∃ v kv, vs = [v, kv] ∧ rSetL (.ref a) kv v H1 fun H3 => D.nx σ H3) P E g ?_
    · obtain ⟨P2, E2, g2, h2⟩ := (show TEof K mg W f σ H _ from this)
      refine ⟨P2, E2, g2, ?_⟩
      cases e : f E2 with
      | bad => rw [e] at h2; exact h2
      | exc C x E1 => rw [e] at h2; exact h2
      | ok s E1 =>
        rw [e] at h2
        intro v H1 g1 l1 r1 n1
        refine ⟨.ref a, e2, ?_⟩
        obtain ⟨P3, E3, g3, h3⟩ := (show TEof K mg W k σ H1 _ from h2 v H1 g1 l1 r1 n1)
        refine ⟨P3, E3, g3, ?_⟩
        cases e : k E3 with
        | bad => rw [e] at h3; exact h3
        | exc C x E1 => rw [e] at h3; exact h3
        | ok s E1 =>
          rw [e] at h3
          intro kv H2 g4 l4 r4 n4
          obtain ⟨v', kv', eq, q⟩ := h3 kv H2 g4 l4 r4 n4
          cases eq
          exact q
    · cases e : evC [.ex f, .ex k] E with
      | bad => rw [e] at h; exact h
      | exc C x E1 => exact of_post e h
      | ok ss E1 =>
        rw [e] at h
        intro vs H1 P1 hp g1 l1 ar sa
        dsimp only [SR.of] at h
        split at h
        · rename_i s kd
          obtain ⟨d, d', e1, ed, h⟩ := updS_of h
          obtain ⟨v, kv, rfl⟩ : ∃ v kv, vs = [v, kv] := by
            match vs, ar.len with
            | [v, kv], _ => exact ⟨v, kv, rfl⟩
          refine ⟨v, kv, rfl, ?_⟩
          obtain ⟨b, e3, r3, hm⟩ := own_at g1 e1
          rw [e2] at e3; cases e3
          unfold setD at ed
          split at ed
          · rename_i xs n
            obtain ⟨vs, ha, rv⟩ := r3.lst_inv
            have rk := ar.res 1 kv _ rfl rfl
            obtain ⟨S, rk, _⟩ := (show RepB K H1 (Fz P1 σ E1) kv (.int n) from rk)
            cases rk
            cases ej : ixN xs.length n with
            | none => rw [ej] at ed; cases ed
            | some j =>
              rw [ej] at ed
              cases ed
              have g1' : Good K P H1 σ E1 := g1.less hp
              have l1' : Lnk P σ E H P σ E1 H1 := l1.less hp
              have hh : ∀ c, HeldBy v s c → P1 c ∧ ¬ P c := fun c z => by
                cases s with
                | own d => exact ar.held 0 d c rfl (by rw [show v = .ref c from z]; rfl)
                | _ => exact z.elim
              have rs0 := ar.res 0 v s rfl rfl
              have lp : ∀ c, Pl P v s c → P1 c := fun c z => z.elim (hp c) fun z => (hh c z).1
              have rs : RepB K H1 (Fz P σ E1) v s.d := ResR.frz0 (s := s) (ResR.lnk2 rs0 g1 (Lnk.refl.less lp) fun c z => (hh c z).1) (g1.less lp) fun c z => (hh c z).2
              have rv' : RepsB K H1 (Fz P σ E1) vs xs := rv.mono fun c z => ⟨fun q => z.1 (hp c q), z.2⟩
              refine ⟨a, vs, n, j, rfl, rfl, ha, by rw [rv.length]; exact ej, ?_⟩
              obtain ⟨g2, sub⟩ := g1'.upd (o := .lst (vs.set j v)) (d' := .lst (xs.set j s.d)) e1 e2 hm (OwnB.lst upd_same ((rv'.set rs).keep (kp_fz e1 e2 hm)))
              exact h σ _ g2 (l1'.upd ⟨i, _, e1, e2⟩ sub) Same.refl
          · cases ed
        · exact h.elim
  · rw [if_neg hi] at h; exact h.elim
theorem isOwnD_at {i : Nat} (h : isOwnD E i = true) : ∃ ks ds, E[i]? = some (.own (.dk ks ds)) := by
  unfold isOwnD at h
  split at h
  · exact ⟨_, _, by assumption⟩
  · cases h
theorem OwnB.dk_inv {a : Addr} {ks : List Key} {ds : List Lw.D} {T : Addr → Prop} (h : OwnB K H T a (.dk ks ds)) : ∃ vs, H a = some (.dK (ks.zip vs)) ∧ ks.length = vs.length ∧ RepsB K H T vs ds := by
  obtain ⟨S, h, hS⟩ := h
  cases h with
  | dk h1 h2 h3 => exact ⟨_, h1, h2, _, h3, hS⟩
theorem OwnB.dk {a : Addr} {ks : List Key} {vs : List V} {ds : List Lw.D} {T : Addr → Prop} (h : H a = some (.dK (ks.zip vs))) (hl : ks.length = vs.length) (r : RepsB K H T vs ds) : OwnB K H T a (.dk ks ds) :=
  let ⟨S, h1, h2⟩ := r; ⟨S, .dk h hl h1, h2⟩
theorem RepB.key_v {v : V} {d : Lw.D} {key : Key} {T : Addr → Prop} (h : RepB K H T v d) (e : keyD d = some key) : v = kV key := by
  obtain ⟨S, h, _⟩ := h
  cases h with
  | int i => cases e; rfl
  | str x => cases e; rfl
  | _ => cases e
theorem putZ_k {α β : Type} {key : Key} {v : α} {w : β} : ∀ {ks : List Key} {vs : List α} {ws : List β}, ks.length = vs.length → ks.length = ws.length → ((ks.zip vs).any fun kv => decide (kv.1 = key)) = ((ks.zip ws).any fun kv => decide (kv.1 = key))
  | [], _, _, _, _ => rfl
  | k :: ks, v :: vs, w :: ws, h1, h2 => by
    simp only [List.zip_cons_cons, List.any_cons]
    rw [putZ_k (v := v) (w := w) (ks := ks) (by simpa using h1) (by simpa using h2)]
theorem zip_split {α β : Type} : ∀ l : List (α × β), (l.map (·.1)).zip (l.map (·.2)) = l
  | [] => rfl
  | p :: r => by simp [zip_split r]
theorem putZ_map {key : Key} {T : Addr → Prop} {v : V} {d : Lw.D} (rd : RepB K H T v d) : ∀ {ks : List Key} {vs : List V} {ds : List Lw.D}, ks.length = vs.length → RepsB K H T vs ds →
    ((ks.zip ds).map (fun kv => if kv.1 = key then (kv.1, d) else kv)).map (·.1) = ((ks.zip vs).map (fun kv => if kv.1 = key then (kv.1, v) else kv)).map (·.1) ∧
    RepsB K H T (((ks.zip vs).map (fun kv => if kv.1 = key then (kv.1, v) else kv)).map (·.2)) (((ks.zip ds).map (fun kv => if kv.1 = key then (kv.1, d) else kv)).map (·.2))
  | [], _, _, _, _ => ⟨rfl, .nil⟩
  | k :: ks, [], _, h, _ => by simp at h
  | k :: ks, u :: vs, [], _, r => by have := r.length; simp at this
  | k :: ks, u :: vs, e :: ds, h, r => by
    obtain ⟨r1, r2⟩ := r.uncons
    obtain ⟨q1, q2⟩ := putZ_map (ks := ks) rd (by simpa using h) r2
    simp only [List.zip_cons_cons, List.map_cons]
    by_cases hk : k = key
    · simp only [if_pos hk]; exact ⟨by rw [q1], .cons rd q2⟩
    · simp only [if_neg hk]; exact ⟨by rw [q1], .cons r1 q2⟩
theorem putZ_reps {ks : List Key} {vs : List V} {ds : List Lw.D} {key : Key} {v : V} {d : Lw.D} {T : Addr → Prop} (hl : ks.length = vs.length) (r : RepsB K H T vs ds) (rd : RepB K H T v d) :
    putK (ks.zip vs) key v = ((putZ (ks.zip ds) key d).map (·.1)).zip ((putK (ks.zip vs) key v).map (·.2)) ∧ ((putZ (ks.zip ds) key d).map (·.1)).length = ((putK (ks.zip vs) key v).map (·.2)).length ∧
    RepsB K H T ((putK (ks.zip vs) key v).map (·.2)) ((putZ (ks.zip ds) key d).map (·.2)) := by
  have hl2 : ks.length = ds.length := by rw [hl]; exact r.length
  have main : (putZ (ks.zip ds) key d).map (·.1) = (putK (ks.zip vs) key v).map (·.1) ∧ RepsB K H T ((putK (ks.zip vs) key v).map (·.2)) ((putZ (ks.zip ds) key d).map (·.2)) := by
    unfold putK putZ
    rw [putZ_k (key := key) (v := v) (w := d) hl hl2]
    by_cases h : ((ks.zip ds).any fun kv => decide (kv.1 = key)) = true
    · rw [if_pos h, if_pos h]; exact putZ_map rd hl r
    · rw [if_neg h, if_neg h]
      simp only [List.map_append, List.map_fst_zip (Nat.le_of_eq hl), List.map_fst_zip (Nat.le_of_eq hl2), List.map_snd_zip (Nat.le_of_eq hl.symm), List.map_snd_zip (Nat.le_of_eq hl2.symm), List.map_cons, List.map_nil]
      exact ⟨trivial, r.append (.cons rd .nil)⟩
  refine ⟨?_, ?_, main.2⟩
  · rw [main.1, zip_split]
  · rw [main.1, List.length_map, List.length_map]
/-- d[k] = e -/
theorem ss_dset {i : Nat} {f k : M Sl} (h : TSof K mg W st (fun E => if isOwnD E i then .of (evC [.ex f, .ex k] E) fun ss => (match ss with
    | [v, .val k] => updS i fun d => setK d k v.d
    | _ => fun _ => .bad) else .bad) D σ H) : tAsg (TEof K mg W f) (gSub (tVar i) (TEof K mg W k) rSetD) D σ H := by
  obtain ⟨P, E, g, h⟩ := h
  dsimp only at h
  by_cases hi : isOwnD E i = true
  · rw [if_pos hi] at h
    obtain ⟨ks0, ds0, e0⟩ := isOwnD_at hi
    obtain ⟨a, e2, r0, _⟩ := own_at g e0
    have := argsC (K := K) (mg := mg) (W := W) [.ex f, .ex k] σ H (fun vs H1 => ∃ v kv, vs = [v, kv] ∧ rSetD (.ref a) kv v H1 fun H3 => D.nx σ H3) P E g ?_
    · obtain ⟨P2, E2, g2, h2⟩ := (show TEof K mg W f σ H _ from this)
      refine ⟨P2, E2, g2, ?_⟩
      cases e : f E2 with
      | bad => rw [e] at h2; exact h2
      | exc C x E1 => rw [e] at h2; exact h2
      | ok s E1 =>
        rw [e] at h2
        intro v H1 g1 l1 r1 n1
        refine ⟨.ref a, e2, ?_⟩
        obtain ⟨P3, E3, g3, h3⟩ := (show TEof K mg W k σ H1 _ from h2 v H1 g1 l1 r1 n1)
        refine ⟨P3, E3, g3, ?_⟩
        cases e : k E3 with
        | bad => rw [e] at h3; exact h3
        | exc C x E1 => rw [e] at h3; exact h3
        | ok s E1 =>
          rw [e] at h3
          intro kv H2 g4 l4 r4 n4
          obtain ⟨v', kv', eq, q⟩ := h3 kv H2 g4 l4 r4 n4
          cases eq
          exact q
    · cases e : evC [.ex f, .ex k] E with
      | bad => rw [e] at h; exact h
      | exc C x E1 => exact of_post e h
      | ok ss E1 =>
        rw [e] at h
        intro vs H1 P1 hp g1 l1 ar sa
        dsimp only [SR.of] at h
        split at h
        · rename_i s kd
          obtain ⟨d, d', e1, ed, h⟩ := updS_of h
          obtain ⟨v, kv, rfl⟩ : ∃ v kv, vs = [v, kv] := by
            match vs, ar.len with
            | [v, kv], _ => exact ⟨v, kv, rfl⟩
          refine ⟨v, kv, rfl, ?_⟩
          obtain ⟨b, e3, r3, hm⟩ := own_at g1 e1
          rw [e2] at e3; cases e3
          unfold setK at ed
          split at ed
          · rename_i ks xs
            obtain ⟨vs, ha, hl, rv⟩ := r3.dk_inv
            have rk := ar.res 1 kv _ rfl rfl
            split at ed
            · rename_i key ek
              split at ed
              · rename_i hz
                cases ed
                obtain rfl : kv = kV key := RepB.key_v (show RepB K H1 (Fz P1 σ E1) kv kd from rk) ek
                have g1' : Good K P H1 σ E1 := g1.less hp
                have l1' : Lnk P σ E H P σ E1 H1 := l1.less hp
                have hh : ∀ c, HeldBy v s c → P1 c ∧ ¬ P c := fun c z => by
                  cases s with
                  | own d => exact ar.held 0 d c rfl (by rw [show v = .ref c from z]; rfl)
                  | _ => exact z.elim
                have rs0 := ar.res 0 v s rfl rfl
                have lp : ∀ c, Pl P v s c → P1 c := fun c z => z.elim (hp c) fun z => (hh c z).1
                have rs : RepB K H1 (Fz P σ E1) v s.d := ResR.frz0 (s := s) (ResR.lnk2 rs0 g1 (Lnk.refl.less lp) fun c z => (hh c z).1) (g1.less lp) fun c z => (hh c z).2
                have rv' : RepsB K H1 (Fz P σ E1) vs xs := rv.mono fun c z => ⟨fun q => z.1 (hp c q), z.2⟩
                obtain ⟨q1, q2, q3⟩ := putZ_reps (key := key) hl rv' rs
                refine ⟨a, _, rfl, DPut.k ha (by rw [List.length_zip]; omega), ?_⟩
                obtain ⟨g2, sub⟩ := g1'.upd (o := .dK (putK (ks.zip vs) key v)) (d' := .dk ((putZ (ks.zip xs) key s.d).map (·.1)) ((putZ (ks.zip xs) key s.d).map (·.2))) e1 e2 hm (OwnB.dk (by rw [← q1]; exact upd_same) q2 (q3.keep (kp_fz e1 e2 hm)))
                exact h σ _ g2 (l1'.upd ⟨i, _, e1, e2⟩ sub) Same.refl
              · cases ed
            · cases ed
          · cases ed
        · exact h.elim
  · rw [if_neg hi] at h; exact h.elim
/-! ### loops -/
theorem ss_while {c : M Bool} {b : SE → SR} {n : Nat} (h : TSof K mg W st (whlI c b n) D σ H) : tWhile (TTof K mg W c) (TSof K mg W st b) D σ H := by
  obtain ⟨P, E, g, h⟩ := h
  refine ⟨fun m σ' H' => ∃ E', Good K P H' σ' E' ∧ Lnk P σ E H P σ' E' H' ∧ Same st σ σ' ∧ PostS K mg W st P σ E H D (whlI c b m E'), ⟨n, E, g, Lnk.refl, Same.refl, h⟩, ?_⟩
  rintro m σ1 H1 ⟨E1, g1, l1, s1, h1⟩
  refine ⟨P, E1, g1, ?_⟩
  cases m with
  | zero => exact h1.elim
  | succ m =>
    rw [whlI] at h1
    cases e : c E1 with
    | bad => rw [e] at h1; exact h1
    | exc C x E2 =>
      rw [e] at h1
      exact fun H' cls d g' l' x => h1 σ1 H' cls d g' (l1.trans l') s1 x
    | ok k E2 =>
      rw [e] at h1
      intro H2 g2 l2
      cases k with
      | false => exact h1 σ1 H2 g2 (l1.trans l2) s1
      | true =>
        rw [if_pos rfl]
        refine ⟨fun σ' H' => ∃ E', Good K P H' σ' E' ∧ Lnk P σ E H P σ' E' H' ∧ Same st σ σ' ∧ PostS K mg W st P σ E H D (whlI c b m E'), fun σ' H' q => ⟨m, Nat.lt_succ_self m, q⟩, P, E2, g2, ?_⟩
        dsimp only at h1
        cases eb : b E2 with
        | nx E3 => rw [eb] at h1; exact fun σ' H' g' l' s' => ⟨E3, g', (l1.trans l2).trans l', s1.trans s', h1⟩
        | ct E3 => rw [eb] at h1; exact fun σ' H' g' l' s' => ⟨E3, g', (l1.trans l2).trans l', s1.trans s', h1⟩
        | bk E3 => rw [eb] at h1; exact fun σ' H' g' l' s' => h1 σ' H' g' ((l1.trans l2).trans l') (s1.trans s')
        | rt s E3 => rw [eb] at h1; exact PostS.step0 (r := .rt s E3) h1 (l1.trans l2) s1
        | exc C x E3 => rw [eb] at h1; exact PostS.step0 (r := .exc C x E3) h1 (l1.trans l2) s1
        | bad => rw [eb] at h1; exact h1
theorem ss_for {fI : M (List Lw.D)} {tg : Tgt} {b : SE → SR} (ht : ∀ i ∈ tg.st, i ∈ st) (h : TSof K mg W st (fun E => .of (fI E) fun ds => forI (bindT tg) b ds) D σ H) : tFor (TIof K mg W fI) (tgT K tg) (TSof K mg W st b) D σ H := by
  obtain ⟨P, E, g, h⟩ := h
  refine ⟨P, E, g, ?_⟩
  dsimp only at h
  cases eI : fI E with
  | bad => rw [eI] at h; exact h
  | exc C x E1 => exact of_post eI h
  | ok ds E1 =>
    rw [eI] at h
    intro J H1 P1 hp g1 l1 wk
    refine ⟨fun i m σi Hi => m = ds.length - i ∧ i ≤ ds.length ∧ ∃ Ei, Good K P1 Hi σi Ei ∧ Lnk P1 σ E1 H1 P1 σi Ei Hi ∧ Same st σ σi ∧ PostS K mg W st P σ E H D (forI (bindT tg) b (ds.drop i) Ei),
      ⟨ds.length, by simp, Nat.zero_le _, E1, g1, Lnk.refl, Same.refl, by rw [List.drop_zero]; exact h⟩, ?_⟩
    rintro i m σi Hi ⟨rfl, hi, Ei, gi, li, si, ei⟩
    have kp : Kp (fun a => P1 a ∨ Fz P1 σ E1 a) H1 Hi := fun a o e t z => g1.kp li a o e t (z.imp (fun z q => z.elim (fun z => g1.dis a q z) fun z => z.2 q) id)
    obtain ⟨wstop, wgo⟩ := wk Hi kp
    by_cases hlt : i < ds.length
    · right
      have ed : ds[i]? = some ds[i] := by simp [hlt]
      obtain ⟨go, yld⟩ := wgo i ds[i] ed
      rw [List.drop_eq_getElem_cons hlt, forI] at ei
      refine ⟨go, fun σ' H' => ds.length - (i + 1) = ds.length - (i + 1) ∧ i + 1 ≤ ds.length ∧ ∃ Ei, Good K P1 H' σ' Ei ∧ Lnk P1 σ E1 H1 P1 σ' Ei H' ∧ Same st σ σ' ∧ PostS K mg W st P σ E H D (forI (bindT tg) b (ds.drop (i + 1)) Ei), fun σ' H' q => ⟨ds.length - (i + 1), by omega, q⟩, fun x H3 y => ?_⟩
      obtain ⟨ext3, rx⟩ := yld x H3 y
      cases eb : bindT tg ds[i] Ei with
      | none => rw [eb] at ei; exact ei.elim
      | some Eb =>
        rw [eb] at ei
        dsimp only at ei
        have g3 := gi.ext ext3
        have l3 := li.trans (Lnk.ext ext3)
        have rx' : RepB K H3 (Fz P1 σi Ei) x ds[i] := rx.mono fun b ⟨z, o, e⟩ => l3.fz (a := b) e z
        refine tgt_ok tg ds[i] x _ _ Eb H3 _ g3 rx' eb fun σ2 g4 l4 s4 => ⟨P1, Eb, g4, ?_⟩
        have s4' : Same st σi σ2 := s4.mono ht
        cases ebb : b Eb with
        | nx E3 => rw [ebb] at ei; exact fun σ' H' g' l' s' => ⟨rfl, hlt, E3, g', (l3.trans l4).trans l', si.trans (s4'.trans s'), ei⟩
        | ct E3 => rw [ebb] at ei; exact fun σ' H' g' l' s' => ⟨rfl, hlt, E3, g', (l3.trans l4).trans l', si.trans (s4'.trans s'), ei⟩
        | bk E3 => rw [ebb] at ei; exact fun σ' H' g' l' s' => ei σ' H' (g'.less hp) ((l1.trans ((l3.trans l4).trans l')).less hp) (si.trans (s4'.trans s'))
        | rt s E3 => rw [ebb] at ei; exact PostS.step (r := .rt s E3) ei (l1.trans (l3.trans l4)) (si.trans s4') hp
        | exc C x E3 => rw [ebb] at ei; exact PostS.step (r := .exc C x E3) ei (l1.trans (l3.trans l4)) (si.trans s4') hp
        | bad => rw [ebb] at ei; exact ei.elim
    · left
      have en : i = ds.length := by omega
      subst en
      refine ⟨wstop _ (Nat.le_refl _), ?_⟩
      rw [List.drop_length] at ei
      exact (show PostS K mg W st P σ E H D (.nx Ei) from ei) σi Hi (gi.less hp) ((l1.trans li).less hp) si
end
end Lw
end

section
set_option Elab.async false
set_option linter.all false
set_option maxRecDepth 100000
set_option maxHeartbeats 4000000
/-! L13b: a tuple backwards -/
namespace Lw
open PySem L2 PySem.Spec PyProof.Rows
variable [TabInfo]
section
variable {prog : Program} {w : World} {A : Around} {E : Value → Shared → Prop} {s : Shared}
theorem applied_back {sl : Addr} {vl vu vs : Value} {n : Nat} {Q : Int × Int × Nat → Shared → Prop} (hs : s.heap.IsSliceOf sl vl vu vs) (pl : IsPart vl none) (pu : IsPart vu none) (ps : IsPart vs (some (-1)))
    (h : Q ((n : Int) - 1, -1, n) s) : wpAny (model prog w) A (Builtin.Slice.sliceApplied (.ref sl) (pure (n : Int))) Q E s := by
  obtain ⟨o, h1, _, h2⟩ := id hs
  unfold Builtin.Slice.sliceApplied Builtin.Slice.sliceFields
  refine wpAny_bind (wpAny_bind (wpAny_field h1 h2 (x := vl) rfl (wpAny_bind (wpAny_field h1 h2 (x := vu) rfl (wpAny_bind (wpAny_field h1 h2 (x := vs) rfl (wpAny_pure ?_)))))))
  refine wpAny_bind (HT.slicePart_ ps ?_)
  show wpAny _ _ (if ((-1 : Int) == 0) = true then _ else _) _ _ s
  rw [if_neg (by decide)]
  refine wpAny_bind (HT.slicePart_ pl (wpAny_bind (HT.slicePart_ pu (wpAny_bind (wpAny_pure (wpAny_pure ?_))))))
  have e : Builtin.Slice.slicePlaces ((n : Int) - 1) (-1) (-1) = n := by
    unfold Builtin.Slice.slicePlaces
    rw [if_neg (by decide)]
    split
    · have : (- (-1) : Int) = 1 := rfl
      rw [this, Int.ediv_one]; omega
    · omega
  show Q ((n : Int) - 1, -1, Builtin.Slice.slicePlaces ((n : Int) - 1) (-1) (-1)) s
  rw [e]; exact h
theorem fm_congr {α β : Type} {f g : α → Option β} : ∀ {l : List α}, (∀ x ∈ l, f x = g x) → l.filterMap f = l.filterMap g
  | [], _ => rfl
  | a :: l, h => by
    rw [List.filterMap_cons, List.filterMap_cons, h a (by simp), fm_congr fun x hx => h x (List.mem_cons_of_mem _ hx)]
theorem pick_back (xs : Array Value) : ((List.range xs.size).filterMap fun (m : Nat) => xs[(((xs.size : Int) - 1) + (m : Int) * -1).toNat]?) = xs.toList.reverse := by
  have e : (List.range xs.size).filterMap (fun (m : Nat) => xs[(((xs.size : Int) - 1) + (m : Int) * -1).toNat]?) = ((List.range xs.size).map fun k => xs.size - 1 - k).filterMap (xs[·]?) := by
    rw [List.filterMap_map]
    refine fm_congr fun m hm => ?_
    have := List.mem_range.mp hm
    have e : (((xs.size : Int) - 1) + (m : Int) * -1).toNat = xs.size - 1 - m := by omega
    rw [e]; rfl
  rw [e, PySem.W.krv_range, List.filterMap_reverse, PySem.W.krv_all]
theorem tup_back {t sl : Addr} {items : Array Value} {vl vu vs : Value} {Q : Value → Shared → Prop} (ht : IsTup s.heap t items) (hs : s.heap.IsSliceOf sl vl vu vs) (pl : IsPart vl none) (pu : IsPart vu none) (ps : IsPart vs (some (-1)))
    (h : Q (.ref s.heap.objs.size) { s with heap := s.heap.push { cls := .type "tuple", data := .seq items.toList.reverse.toArray } }) (hz : items.size ≤ sizeLine) : wpAny (model prog w) A (getItem (.ref t) (.ref sl)) Q E s := by
  obtain ⟨o, h1, h3, h2⟩ := id hs
  have ty : s.TypeIs (.ref sl) "slice" := ⟨o, h1, h3⟩
  have big : sizeOk (.seq items.toList.reverse.toArray) := by
    show items.toList.reverse.toArray.size ≤ sizeLine
    simpa using hz
  unfold getItem
  try with_reducible refine wpAny_holding ?_
  first | refine wpAny_bind (wpAny_pure ?_) | skip
  refine wpAny_bind (wpAny_sequenceKey ht.typeIs (by decide) (wpAny_bind (wpAny_callSpecial?_slot (name := Str.ofString "__getitem__") ht.typeIs slot_tuple_getitem (wpAny_call_entry slot_tuple_getitem ht.typeIs entry_tuple_getitem ?_ (args_tuple_getitem _ _)))))
  show wpAny _ _ (Builtin.Tuple.tupleItemsOf (.ref t) >>= _) _ _ s
  refine wpAny_bind (tupleItemsOf_ ht (wpAny_bind (wpAny_typeOf ty ?_)))
  rw [if_pos (by decide)]
  refine wpAny_bind (applied_back hs pl pu ps ?_)
  have no : ¬ ((((items.size : Int) - 1) == 0 && (-1 : Int) == 1 && items.size == items.size) = true) := by simp
  show wpAny _ _ (if (((items.size : Int) - 1) == 0 && (-1 : Int) == 1 && items.size == items.size) = true then _ else _) _ _ s
  rw [if_neg no, pick_back]
  first
    | exact wpAny_bind (m := Builtin.Tuple.tupleExact _) (wpAny_newObj_type (wpAny_pure ⟨_, rfl, wpAny_pure h⟩) big)
    | exact wpAny_bind (m := Builtin.Tuple.tupleExact _) (wpAny_newObj_type (wpAny_bind (wpAny_pure (wpAny_pure ⟨_, rfl, wpAny_pure h⟩))) big)
    | exact wpAny_bind (wpAny_bind (m := Builtin.Tuple.tupleExact _) (wpAny_newObj_type (wpAny_pure (wpAny_pure ⟨_, rfl, wpAny_pure h⟩)) big))
    | exact wpAny_bind (wpAny_bind (m := Builtin.Tuple.tupleExact _) (wpAny_newObj_type (wpAny_pure ⟨_, rfl, wpAny_pure h⟩) big))
end
end Lw
end

section
set_option Elab.async false
set_option linter.all false
set_option maxRecDepth 100000
set_option maxHeartbeats 4000000
/-! L13c: sorted(set(..)) of pairs -/
namespace Lw
open PySem L2
variable [TabInfo]
theorem ltP_iff {p q : Int × Int} : ltP p q = true ↔ p.1 < q.1 ∨ (p.1 = q.1 ∧ p.2 < q.2) := by simp [ltP]
theorem mem_insP {p x : Int × Int} : ∀ {l : List (Int × Int)}, x ∈ insP p l ↔ x = p ∨ x ∈ l
  | [] => by simp [insP]
  | q :: r => by
    unfold insP
    split
    · simp
    · split
      · rename_i h; subst h; simp
      · simp only [List.mem_cons, mem_insP (l := r)]
        constructor
        · rintro (h | h | h)
          · exact .inr (.inl h)
          · exact .inl h
          · exact .inr (.inr h)
        · rintro (h | h | h)
          · exact .inr (.inl h)
          · exact .inl h
          · exact .inr (.inr h)
theorem mem_sortP {x : Int × Int} : ∀ {l : List (Int × Int)}, x ∈ sortP l ↔ x ∈ l
  | [] => Iff.rfl
  | q :: r => by rw [sortP, mem_insP, mem_sortP (l := r), List.mem_cons]
abbrev LtP (p q : Int × Int) : Prop := ltP p q = true
theorem ltP_total {p q : Int × Int} (h1 : ¬ LtP p q) (h2 : p ≠ q) : LtP q p := by
  rw [LtP, ltP_iff] at *
  have : ¬ (p.1 = q.1 ∧ p.2 = q.2) := fun z => h2 (Prod.ext z.1 z.2)
  omega
theorem ltP_trans {p q r : Int × Int} (h1 : LtP p q) (h2 : LtP q r) : LtP p r := by
  rw [LtP, ltP_iff] at *
  omega
theorem ltP_irr {p : Int × Int} : ¬ LtP p p := by
  rw [LtP, ltP_iff]; omega
theorem sorted_insP {p : Int × Int} : ∀ {l : List (Int × Int)}, l.Pairwise LtP → (insP p l).Pairwise LtP
  | [], _ => by simp [insP]
  | q :: r, h => by
    rw [List.pairwise_cons] at h
    unfold insP
    split
    · rename_i e
      rw [List.pairwise_cons]
      refine ⟨fun x hx => ?_, List.pairwise_cons.mpr h⟩
      rcases List.mem_cons.mp hx with rfl | hx
      · exact e
      · exact ltP_trans e (h.1 x hx)
    · rename_i e
      split
      · exact List.pairwise_cons.mpr h
      · rename_i ne
        rw [List.pairwise_cons]
        refine ⟨fun x hx => ?_, sorted_insP h.2⟩
        rcases mem_insP.mp hx with rfl | hx
        · exact ltP_total e ne
        · exact h.1 x hx
theorem sorted_sortP : ∀ {l : List (Int × Int)}, (sortP l).Pairwise LtP
  | [] => .nil
  | p :: r => sorted_insP sorted_sortP
theorem sorted_uniq : ∀ {l m : List (Int × Int)}, l.Pairwise LtP → m.Pairwise LtP → (∀ x, x ∈ l ↔ x ∈ m) → l = m
  | [], [], _, _, _ => rfl
  | [], b :: m, _, _, h => absurd ((h b).mpr List.mem_cons_self) List.not_mem_nil
  | a :: l, [], _, _, h => absurd ((h a).mp List.mem_cons_self) List.not_mem_nil
  | a :: l, b :: m, h1, h2, h => by
    rw [List.pairwise_cons] at h1 h2
    have e : a = b := by
      rcases List.mem_cons.mp ((h a).mp List.mem_cons_self) with e | e
      · exact e
      · rcases List.mem_cons.mp ((h b).mpr List.mem_cons_self) with e2 | e2
        · exact e2.symm
        · exact absurd (ltP_trans (h2.1 a e) (h1.1 b e2)) ltP_irr
    subst e
    rw [sorted_uniq h1.2 h2.2 fun x => ?_]
    constructor
    · intro hx
      rcases List.mem_cons.mp ((h x).mp (List.mem_cons_of_mem _ hx)) with e | e
      · exact absurd (h1.1 x hx) (by rw [e]; exact ltP_irr)
      · exact e
    · intro hx
      rcases List.mem_cons.mp ((h x).mpr (List.mem_cons_of_mem _ hx)) with e | e
      · exact absurd (h2.1 x hx) (by rw [e]; exact ltP_irr)
      · exact e
def prL (p : Int × Int) : List Int := [p.1, p.2]
theorem prL_inj {p q : Int × Int} (h : prL p = prL q) : p = q := by
  simp only [prL, List.cons.injEq, and_true] at h
  exact Prod.ext h.1 h.2
section
variable {K : PySem.W.Frag} {H H' : Hp} {T : Addr → Prop}
theorem prs_at : ∀ {xs : List D} {ps : List (Int × Int)} {vs : List V}, prsOf xs = some ps → RepsB K H T vs xs → ∃ ks : List (Addr × List Int), vs = ks.map (fun p => V.ref p.1) ∧ (∀ p ∈ ks, SqT K H p.1 (p.2.map V.int)) ∧ ks.map (·.2) = ps.map prL ∧ ∀ p ∈ ps, (0 ≤ p.1 ∧ p.1 < 2 ^ 31) ∧ (0 ≤ p.2 ∧ p.2 < 2 ^ 31)
  | [], ps, vs, e, r => by
    cases e
    have : vs = [] := List.eq_nil_of_length_eq_zero r.length
    subst this
    exact ⟨[], rfl, fun _ h => (List.not_mem_nil h).elim, rfl, fun _ h => (List.not_mem_nil h).elim⟩
  | d :: xs, ps, vs, e, r => by
    cases vs with
    | nil => have := r.length; simp at this
    | cons v vs =>
      rw [prsOf] at e
      split at e
      · rename_i p qs e1 e2
        cases e
        obtain ⟨r1, r2⟩ := r.uncons
        obtain ⟨ks, rfl, h1, h2, h3⟩ := prs_at e2 r2
        unfold prOf at e1
        split at e1
        · rename_i a b
          split at e1
          · rename_i hb
            cases e1
            obtain ⟨S, r1, _⟩ := r1
            cases r1 with
            | tup q rs =>
              rename_i ad ws
              cases rs with
              | cons ra rs =>
                cases rs with
                | cons rb rs =>
                  cases rs
                  cases ra
                  cases rb
                  refine ⟨(ad, [a, b]) :: ks, rfl, fun p hp => ?_, by simp [h2, prL], fun p hp => ?_⟩
                  · rcases List.mem_cons.mp hp with rfl | hp
                    · exact q
                    · exact h1 p hp
                  · rcases List.mem_cons.mp hp with rfl | hp
                    · exact hb
                    · exact h3 p hp
          · cases e1
        · cases e1
      · cases e
end
end Lw
end

section
set_option Elab.async false
set_option linter.all false
set_option maxRecDepth 100000
set_option maxHeartbeats 4000000
/-! L14: what expressions of the IR come to, as readings -/
namespace Lw
open PySem L2
variable [TabInfo]
section
variable {K : PySem.W.Frag} {mg : Str → Option Value} {W : WX} {P P' P1 P2 : Addr → Prop} {H H' H1 H0 H2 : Hp} {σ σ' σ1 : L2.St} {E E' E1 E0 : SE} {Q : VK}
theorem ok_val {d : D} {v : V} (g : Good K P H σ E) (r : RepB K H (Fz P σ E) v d) (h : PostE K mg W P σ E H Q (.ok (.val d) E)) : Q v H :=
  h v H (g.less fun a z => z.elim id False.elim) (Lnk.refl.less fun a z => z.elim id False.elim) (r.mono fun a z => ⟨fun q => z.1 (q.elim id False.elim), z.2⟩) fun a z => z.elim
theorem te_pure {d : D} {v : V} (r : ∀ H, RepB K H (fun _ => False) v d) : TEof K mg W (M.pure (.val d)) σ H Q → tC v σ H Q := fun ⟨P, E, g, h⟩ =>
  ok_val g ((r H).mono fun _ z => z.elim) h
theorem te_var {i : Nat} : TEof K mg W (varS i) σ H Q → tVar i σ H Q := fun ⟨P, E, g, h⟩ => by
  unfold varS at h
  split at h
  · rename_i d e
    obtain ⟨v, e1, r⟩ := g.val i d e
    exact ⟨v, e1, ok_val g r h⟩
  · exact h.elim
theorem te_mv {i : Nat} : TEof K mg W (popS i) σ H Q → tVar i σ H Q := fun ⟨P, E, g, h⟩ => by
  unfold popS at h
  split at h
  · rename_i d e
    obtain ⟨a, e1, r⟩ := g.own i d e
    refine ⟨_, e1, ?_⟩
    have go := g.out i
    have hp : ∀ b, Pl P (.ref a) (.own d) b → (P b ∨ ∃ d, E[i]? = some (.own d) ∧ σ[i]? = some (some (.ref b))) := fun b z => z.imp id fun z => by
      cases (show V.ref a = .ref b from z)
      exact ⟨d, e, e1⟩
    have ow : OwnS σ E a := ⟨i, d, e, e1⟩
    have sub : ∀ b, OwnS σ (E.set i .no) b → OwnS σ E b := fun b ⟨j, x, q1, q2⟩ => by
      rw [getE_set] at q1
      split at q1
      · split at q1 <;> cases q1
      · exact ⟨j, x, q1, q2⟩
    refine h (.ref a) H (go.less hp) ⟨fun a o e _ _ => e, fun b q => .inl (sub b q), fun b z => (hp b z).imp id fun ⟨d', q1, q2⟩ => .inl ⟨i, d', q1, q2⟩, fun _ e => e⟩ ⟨a, rfl, r.monoD fun b _ _ z => ⟨fun q => ?_, fun q => z.2 (sub b q)⟩⟩ fun b z => by
      cases (show V.ref a = .ref b from z)
      exact g.dis a ow
    rcases q with q | q
    · exact z.1 q
    · cases (show V.ref a = .ref b from q)
      exact z.2 ow
  · rename_i d e
    obtain ⟨v, e1, r⟩ := g.val i d e
    exact ⟨v, e1, ok_val g r h⟩
  · exact h.elim
theorem Good.frz (g : Good K P H σ E) {i : Nat} {d : D} (e : E[i]? = some (.own d)) : Good K P H σ (E.set i (.val d)) ∧ (∀ b, OwnS σ (E.set i (.val d)) b → OwnS σ E b) ∧ ∃ a, σ[i]? = some (some (.ref a)) ∧ RepB K H (Fz P σ (E.set i (.val d))) (.ref a) d := by
  obtain ⟨a, e1, r⟩ := g.own i d e
  have hi : i < E.length := by
    rcases Nat.lt_or_ge i E.length with h | h
    · exact h
    · rw [List.getElem?_eq_none h] at e; cases e
  have gE : ∀ (j : Nat), (E.set i (.val d))[j]? = if i = j then some (.val d) else E[j]? := fun j => by
    rw [getE_set]
    by_cases h : i = j
    · subst h; rw [if_pos rfl, if_pos rfl, if_pos hi]
    · rw [if_neg h, if_neg h]
  have sub : ∀ b, OwnS σ (E.set i (.val d)) b → OwnS σ E b ∧ b ≠ a := fun b ⟨j, x, q1, q2⟩ => by
    rw [gE] at q1
    by_cases h : i = j
    · rw [if_pos h] at q1; cases q1
    · rw [if_neg h] at q1
      exact ⟨⟨j, x, q1, q2⟩, fun z => h (g.inj i j d x a e q1 e1 (by rw [q2, z]))⟩
  have fz : ∀ b, Fz P σ E b → Fz P σ (E.set i (.val d)) b := fun b z => ⟨z.1, fun q => z.2 (sub b q).1⟩
  have ra : RepB K H (Fz P σ (E.set i (.val d))) (.ref a) d := by
    obtain ⟨S, h1, h2⟩ := r
    refine ⟨_, h1.rep, fun b hb => ?_⟩
    rcases List.mem_cons.mp hb with rfl | hb
    · exact ⟨g.dis _ ⟨i, d, e, e1⟩, fun q => (sub _ q).2 rfl⟩
    · exact fz b (h2 b hb)
  refine ⟨⟨by rw [List.length_set]; exact g.len, g.dom, fun j x q => ?_, fun j x q => ?_, fun b q => g.dis b (sub b q).1, fun j l x x' b q1 q2 q3 q4 => ?_, g.tab⟩, fun b q => (sub b q).1, a, e1, ra⟩
  · rw [gE] at q
    by_cases h : i = j
    · subst h
      rw [if_pos rfl] at q
      cases q
      exact ⟨_, e1, ra⟩
    · rw [if_neg h] at q
      obtain ⟨v, q1, r⟩ := g.val j x q
      exact ⟨v, q1, r.mono fz⟩
  · rw [gE] at q
    by_cases h : i = j
    · rw [if_pos h] at q; cases q
    · rw [if_neg h] at q
      obtain ⟨b, q1, r⟩ := g.own j x q
      exact ⟨b, q1, r.monoD fun b _ _ z => fz b z⟩
  · rw [gE] at q1 q2
    by_cases h : i = j
    · rw [if_pos h] at q1; cases q1
    · by_cases h' : i = l
      · rw [if_pos h'] at q2; cases q2
      · rw [if_neg h] at q1; rw [if_neg h'] at q2
        exact g.inj j l x x' b q1 q2 q3 q4
theorem te_fz {i : Nat} : TEof K mg W (fzS i) σ H Q → tVar i σ H Q := fun ⟨P, E, g, h⟩ => by
  unfold fzS at h
  split at h
  · rename_i d e
    obtain ⟨g2, sub, a, e1, r⟩ := g.frz e
    refine ⟨_, e1, ?_⟩
    exact h (.ref a) H (g2.less fun a z => z.elim id False.elim) ⟨fun a o e _ _ => e, fun b q => .inl (sub b q), fun b z => z.elim .inl False.elim, fun _ e => e⟩ (r.mono fun b z => ⟨fun q => z.1 (q.elim id False.elim), z.2⟩) fun b z => z.elim
  · rename_i d e
    obtain ⟨v, e1, r⟩ := g.val i d e
    exact ⟨v, e1, ok_val g r h⟩
  · exact h.elim
/-- two operands -/
theorem te_op2 {oa ob : Opd} {f : D → D → Option Sl} : TEof K mg W (M.bind (evA [oa, ob]) fun ds => M.opt (match ds with | [x, y] => f x y | _ => none)) σ H Q → tOp (r2D K f) (tOpd K mg W oa) (tOpd K mg W ob) σ H Q := fun h =>
  prim_sound (ops := [oa, ob]) (p := fun ds => match ds with | [x, y] => f x y | _ => none) (r := fun Q vs H => match vs with | [x, y] => r2D K f x y H Q | _ => False) (fun vs H Q T ds ts q => by
    cases ts with
    | nil => exact q.elim
    | cons t1 ts =>
      cases ts with
      | nil => exact q.elim
      | cons t2 ts =>
        cases ts with
        | nil => exact ⟨T, _, _, t1, t2, q⟩
        | cons t3 ts => exact q.elim) σ H Q h
theorem te_op1 {oa : Opd} {f : D → Option Sl} : TEof K mg W (M.bind (evA [oa]) fun ds => M.opt (match ds with | [x] => f x | _ => none)) σ H Q → tUn (r1D K f) (tOpd K mg W oa) σ H Q := fun h =>
  prim_sound (ops := [oa]) (p := fun ds => match ds with | [x] => f x | _ => none) (r := fun Q vs H => match vs with | [x] => r1D K f x H Q | _ => False) (fun vs H Q T ds ts q => by
    cases ts with
    | nil => exact q.elim
    | cons t1 ts =>
      cases ts with
      | nil => exact ⟨T, _, t1, q⟩
      | cons t2 ts => exact q.elim) σ H Q h
theorem te_opn {os : List Opd} {f : List D → Option Sl} : TEof K mg W (M.bind (evA os) fun ds => M.opt (f ds)) σ H Q → tCB (rnD K f) (tOpds K mg W os) σ H Q := fun h =>
  prim_sound (ops := os) (p := f) (r := fun Q vs H => rnD K f vs H Q) (fun vs H Q T ds ts q => ⟨T, ds, ts, q⟩) σ H Q h
/-! ### one after another -/
structure PP (K : PySem.W.Frag) (mg : Str → Option Value) (W : WX) (σ : L2.St) {β : Type} (Post : (Addr → Prop) → SE → Hp → R β → Prop) : Prop where
  step : ∀ {P P1 : Addr → Prop} {E E1 : SE} {H H1 : Hp} {r : R β}, Post P E H r → Lnk P σ E H P1 σ E1 H1 → (∀ a, P a → P1 a) → Post P1 E1 H1 r
  exc : ∀ {P : Addr → Prop} {E E1 : SE} {H : Hp} {C : Str} {x : D}, Post P E H (.exc C x E1) → ∀ H' cls d, Good K P H' σ E1 → Lnk P σ E H P σ E1 H' → ExcR K mg (Fz P σ E1) H' C x cls d → W cls d σ H'
  bad : ∀ {P : Addr → Prop} {E : SE} {H : Hp}, ¬ Post P E H .bad
theorem ppE : PP K mg W σ (fun P E H r => PostE K mg W P σ E H Q r) where
  step := fun {P P1 E E1 H H1 r} h l hp => by
    cases r with
    | ok s E' =>
      have hq : ∀ {w} a, Pl P w s a → Pl P1 w s a := fun a z => z.imp (hp a) id
      exact fun v H' g l' r n => h v H' (g.less hq) ((l.trans l').less hq) (r.lnk2 g (Lnk.refl.less hq) fun a z => .inr z) fun a z q => n a z (hp a q)
    | exc C x E' => exact fun H' cls d g l' x => h H' cls d (g.less hp) ((l.trans l').less hp) (x.less fun a z => ⟨fun q => z.1 (hp a q), z.2⟩)
    | bad => exact h
  exc := fun h => h
  bad := id
theorem ppT {Q : Bool → Hp → Prop} : PP K mg W σ (fun P E H r => PostT K mg W P σ E H Q r) where
  step := fun {P P1 E E1 H H1 r} h l hp => by
    cases r with
    | ok s E' => exact fun H' g l' => h H' (g.less hp) ((l.trans l').less hp)
    | exc C x E' => exact fun H' cls d g l' x => h H' cls d (g.less hp) ((l.trans l').less hp) (x.less fun a z => ⟨fun q => z.1 (hp a q), z.2⟩)
    | bad => exact h
  exc := fun h => h
  bad := id
section
variable {β : Type} {Post : (Addr → Prop) → SE → Hp → R β → Prop}
theorem bindE (pp : PP K mg W σ Post) {f : M Sl} {k : Sl → M β} (g : Good K P H σ E) (h : Post P E H ((f E).bind k)) :
    TEof K mg W f σ H (fun v H1 => ∃ s P E, Good K P H1 σ E ∧ ResR K P σ E H1 v s ∧ (∀ a, HeldBy v s a → P a) ∧ Post P E H1 (k s E)) := by
  refine ⟨P, E, g, ?_⟩
  cases e : f E with
  | bad => rw [e] at h; exact pp.bad h
  | exc C x E1 => rw [e] at h; exact pp.exc h
  | ok s E1 =>
    rw [e] at h
    exact fun v H1 g1 l1 r1 n1 => ⟨s, _, E1, g1, r1, fun a z => .inr z, pp.step h l1 fun a z => .inl z⟩
theorem bindB (pp : PP K mg W σ Post) {f : M Bool} {k : Bool → M β} (g : Good K P H σ E) (h : Post P E H ((f E).bind k)) :
    TTof K mg W f σ H (fun b H1 => ∃ P E, Good K P H1 σ E ∧ Post P E H1 (k b E)) := by
  refine ⟨P, E, g, ?_⟩
  cases e : f E with
  | bad => rw [e] at h; exact pp.bad h
  | exc C x E1 => rw [e] at h; exact pp.exc h
  | ok s E1 =>
    rw [e] at h
    exact fun H1 g1 l1 => ⟨P, E1, g1, pp.step h l1 fun a z => z⟩
theorem bindA (pp : PP K mg W σ Post) {os : List Opd} {k : List D → M β} (g : Good K P H σ E) (h : Post P E H ((evA os E).bind k)) :
    tOpds K mg W os σ H (fun vs H1 => ∃ ds P E, Good K P H1 σ E ∧ TopsB K H1 (Fz P σ E) vs ds ∧ Post P E H1 (k ds E)) := by
  refine argsL os σ H _ ⟨P, E, g, ?_⟩
  cases e : evA os E with
  | bad => rw [e] at h; exact pp.bad h
  | exc C x E1 => rw [e] at h; exact pp.exc h
  | ok ds E1 =>
    rw [e] at h
    exact fun vs H1 P1 hp g1 l1 ts => ⟨ds, P1, E1, g1, ts, pp.step h l1 hp⟩
end
theorem ResR.bl {v : V} {b : Bool} (r : ResR K P σ E H v (.val (.bl b))) : v = .bl b := by
  obtain ⟨S, r, _⟩ := (show RepB K H (Fz P σ E) v (.bl b) from r)
  cases r; rfl
theorem te_mono {f : M Sl} {Q' : VK} (h : TEof K mg W f σ H Q) (m : ∀ v H, Q v H → Q' v H) : TEof K mg W f σ H Q' := by
  obtain ⟨P, E, g, h⟩ := h
  refine ⟨P, E, g, ?_⟩
  cases e : f E with
  | bad => rw [e] at h; exact h
  | exc C x E1 => rw [e] at h; exact h
  | ok s E1 => rw [e] at h; exact fun v H1 g1 l1 r1 n1 => m _ _ (h v H1 g1 l1 r1 n1)
theorem tt_mono {f : M Bool} {Q Q' : Bool → Hp → Prop} (h : TTof K mg W f σ H Q) (m : ∀ v H, Q v H → Q' v H) : TTof K mg W f σ H Q' := by
  obtain ⟨P, E, g, h⟩ := h
  refine ⟨P, E, g, ?_⟩
  cases e : f E with
  | bad => rw [e] at h; exact h
  | exc C x E1 => rw [e] at h; exact h
  | ok s E1 => rw [e] at h; exact fun H1 g1 l1 => m _ _ (h H1 g1 l1)
theorem op_mono {o : Opd} {Q' : VK} (h : tOpd K mg W o σ H Q) (m : ∀ v H, Q v H → Q' v H) : tOpd K mg W o σ H Q' := by
  cases o with
  | slot i => obtain ⟨v, e, q⟩ := h; exact ⟨v, e, m _ _ q⟩
  | ex f => exact te_mono h m
theorem te_and {f g : M Sl} (h : TEof K mg W (M.bind f fun s => match s with
    | .val (.bl true) => g
    | .val (.bl false) => M.pure (vB false)
    | _ => M.bad) σ H Q) : tAndV (TEof K mg W f) (TEof K mg W g) σ H Q := by
  obtain ⟨P, E, gd, h⟩ := h
  refine te_mono (bindE ppE gd h) fun v H1 ⟨s, P1, E1, g1, r1, n1, h1⟩ => ?_
  split at h1
  · exact ⟨true, r1.bl, by rw [if_pos rfl]; exact ⟨P1, E1, g1, h1⟩⟩
  · exact ⟨false, r1.bl, by rw [if_neg (by decide)]; exact ok_val g1 (.bl false) h1⟩
  · exact h1.elim
theorem te_or {f g : M Sl} (h : TEof K mg W (M.bind f fun s => match s with
    | .val (.bl false) => g
    | .val (.bl true) => M.pure (vB true)
    | _ => M.bad) σ H Q) : tOrV (TEof K mg W f) (TEof K mg W g) σ H Q := by
  obtain ⟨P, E, gd, h⟩ := h
  refine te_mono (bindE ppE gd h) fun v H1 ⟨s, P1, E1, g1, r1, n1, h1⟩ => ?_
  split at h1
  · exact ⟨false, r1.bl, by rw [if_neg (by decide)]; exact ⟨P1, E1, g1, h1⟩⟩
  · exact ⟨true, r1.bl, by rw [if_pos rfl]; exact ok_val g1 (.bl true) h1⟩
  · exact h1.elim
theorem te_not {f : M Sl} (h : TEof K mg W (M.bind f fun s => match s with
    | .val (.bl b) => M.pure (vB (!b))
    | _ => M.bad) σ H Q) : tNotV (TEof K mg W f) σ H Q := by
  obtain ⟨P, E, gd, h⟩ := h
  refine te_mono (bindE ppE gd h) fun v H1 ⟨s, P1, E1, g1, r1, n1, h1⟩ => ?_
  split at h1
  · exact ⟨_, r1.bl, ok_val g1 (.bl _) h1⟩
  · exact h1.elim
theorem te_ite {c : M Bool} {f g : M Sl} (h : TEof K mg W (M.bind c fun k => if k then f else g) σ H Q) : tIf (TTof K mg W c) (TEof K mg W f) (TEof K mg W g) σ H Q := by
  obtain ⟨P, E, gd, h⟩ := h
  refine tt_mono (bindB ppE gd h) fun b H1 ⟨P1, E1, g1, h1⟩ => ?_
  cases b with
  | true => rw [if_pos rfl]; exact ⟨P1, E1, g1, h1⟩
  | false => rw [if_neg (by decide)]; exact ⟨P1, E1, g1, h1⟩
theorem tt_ite {c f g : M Bool} {Q : Bool → Hp → Prop} (h : TTof K mg W (M.bind c fun k => if k then f else g) σ H Q) : TTof K mg W c σ H fun c H1 => if c = true then TTof K mg W f σ H1 Q else TTof K mg W g σ H1 Q := by
  obtain ⟨P, E, gd, h⟩ := h
  refine tt_mono (bindB ppT gd h) fun b H1 ⟨P1, E1, g1, h1⟩ => ?_
  cases b with
  | true => rw [if_pos rfl]; exact ⟨P1, E1, g1, h1⟩
  | false => rw [if_neg (by decide)]; exact ⟨P1, E1, g1, h1⟩
theorem tt_pure {b : Bool} {Q : Bool → Hp → Prop} (h : TTof K mg W (M.pure b) σ H Q) : Q b H := by
  obtain ⟨P, E, g, h⟩ := h
  exact h H g Lnk.refl
theorem tt_and {f g : M Bool} {Q : Bool → Hp → Prop} (h : TTof K mg W (M.bind f fun k => if k then g else M.pure false) σ H Q) : tAnd (TTof K mg W f) (TTof K mg W g) σ H Q :=
  tt_mono (tt_ite h) fun b H1 q => by
    cases b with
    | true => rw [if_pos rfl] at q ⊢; exact q
    | false => rw [if_neg (by decide)] at q ⊢; exact tt_pure q
theorem tt_or {f g : M Bool} {Q : Bool → Hp → Prop} (h : TTof K mg W (M.bind f fun k => if k then M.pure true else g) σ H Q) : tOr (TTof K mg W f) (TTof K mg W g) σ H Q :=
  tt_mono (tt_ite h) fun b H1 q => by
    cases b with
    | true => rw [if_pos rfl] at q ⊢; exact tt_pure q
    | false => rw [if_neg (by decide)] at q ⊢; exact q
theorem tt_not {f : M Bool} {Q : Bool → Hp → Prop} (h : TTof K mg W (M.bind f fun b => M.pure (!b)) σ H Q) : tNot (TTof K mg W f) σ H Q := by
  obtain ⟨P, E, gd, h⟩ := h
  refine tt_mono (bindB ppT gd h) fun b H1 ⟨P1, E1, g1, h1⟩ => ?_
  exact h1 H1 g1 Lnk.refl
/-- a value's truth -/
def rTru (K : PySem.W.Frag) : V → Hp → (Bool → Hp → Prop) → Prop := fun x H Q => ∃ T d b, TopB K H T x d ∧ truthD d = some b ∧ Q b H
theorem tt_val {o : Opd} {Q : Bool → Hp → Prop} (h : TTof K mg W (M.bind (evA [o]) fun ds => M.opt (match ds with | [d] => truthD d | _ => none)) σ H Q) : tOpd K mg W o σ H fun x H1 => rTru K x H1 Q := by
  obtain ⟨P, E, gd, h⟩ := h
  refine op_mono (show tOpd K mg W o σ H fun x H1 => _ from bindA (os := [o]) ppT gd h) fun v H1 ⟨ds, P1, E1, g1, ts, h1⟩ => ?_
  match ds, ts with
  | [d], .cons t1 .nil =>
    dsimp only at h1
    cases e : truthD d with
    | none => rw [e] at h1; exact h1.elim
    | some b => rw [e] at h1; exact ⟨_, d, b, t1, e, h1 H1 g1 Lnk.refl⟩
end
end Lw
end

section
set_option Elab.async false
set_option linter.all false
set_option maxRecDepth 100000
set_option maxHeartbeats 4000000
/-! LD1: a dict is walked; it stays from then on -/
namespace Lw
open PySem PySem.Spec PyProof.Rows L2
variable [TabInfo]
section
variable {K : PySem.W.Frag} {P : Addr → Prop} {H : Hp} {σ : L2.St} {E : SE}
theorem own_frz {i : Nat} {d : Lw.D} {b : Addr} (h : OwnS σ (E.set i (.val d)) b) : OwnS σ E b := by
  obtain ⟨j, d', e1, e2⟩ := h
  by_cases hj : i = j
  · subst hj
    by_cases hi : i < E.length
    · rw [List.getElem?_set_self hi] at e1; cases e1
    · rw [List.getElem?_eq_none (by rw [List.length_set]; omega)] at e1; cases e1
  · rw [List.getElem?_set_ne hj] at e1
    exact ⟨j, d', e1, e2⟩
theorem own_frzNe (g : Good K P H σ E) {i : Nat} {d d' : Lw.D} {a b : Addr} (e1 : E[i]? = some (.own d')) (e2 : σ[i]? = some (some (.ref a))) (h : OwnS σ (E.set i (.val d)) b) : b ≠ a := by
  obtain ⟨j, d2, q1, q2⟩ := h
  intro z
  subst z
  by_cases hj : i = j
  · subst hj
    by_cases hi : i < E.length
    · rw [List.getElem?_set_self hi] at q1; cases q1
    · rw [List.getElem?_eq_none (by rw [List.length_set]; omega)] at q1; cases q1
  · rw [List.getElem?_set_ne hj] at q1
    exact hj (g.inj i j _ _ _ e1 q1 e2 q2)
/-- the dict of a slot is closed -/
theorem Good.frzD (g : Good K P H σ E) {i : Nat} {a : Addr} {ks : List Key} {ds : List Lw.D} {vs : List V} (e1 : E[i]? = some (.own (.dk ks ds))) (e2 : σ[i]? = some (some (.ref a))) (hv : H a = some (.dK (ks.zip vs))) (hl : ks.length = vs.length)
    (r : RepsB K H (Fz P σ E) vs ds) (o : Obj) : Good K P (L2.upd H a (.frz o (.dK (ks.zip vs)))) σ (E.set i (.val (.dz ks ds))) := by
  have hi : i < E.length := (List.getElem?_eq_some_iff.mp e1).1
  have hO : OwnS σ E a := ⟨i, _, e1, e2⟩
  have nF : ¬ Fz P σ E a := fun z => z.2 hO
  have nP : ¬ P a := g.dis a hO
  have mu : ∀ u, H a = some u → Mu u := fun u e => by rw [hv] at e; cases e; trivial
  have kF : Kp (Fz P σ E) H (L2.upd H a (.frz o (.dK (ks.zip vs)))) := kp_updP nF mu
  have fz : ∀ b, Fz P σ E b → Fz P σ (E.set i (.val (.dz ks ds))) b := fun b z => ⟨z.1, fun q => z.2 (own_frz q)⟩
  refine ⟨by rw [List.length_set]; exact g.len, fun b hb => ?_, fun j d e => ?_, fun j d e => ?_, fun b hb => g.dis b (own_frz hb), fun j k d d' b q1 q2 q3 q4 => ?_, tabs_upd g.tab mu⟩
  · rw [upd_ne (fun z => nP (by rw [← z]; exact hb))]; exact g.dom b hb
  · by_cases hj : i = j
    · subst hj
      rw [List.getElem?_set_self hi] at e
      cases e
      obtain ⟨S, r, hS⟩ := r
      exact ⟨_, e2, S, .dz upd_same hl (r.keep kF hS), fun b hb => fz b (hS b hb)⟩
    · rw [List.getElem?_set_ne hj] at e
      obtain ⟨v, e3, r⟩ := g.val j d e
      exact ⟨v, e3, (r.keep kF).mono fz⟩
  · by_cases hj : i = j
    · subst hj
      rw [List.getElem?_set_self hi] at e
      cases e
    · rw [List.getElem?_set_ne hj] at e
      obtain ⟨c, e3, r⟩ := g.own j d e
      have nc : ¬ (Fz P σ E a ∨ a = c) := fun z => z.elim nF fun z => hj (g.inj i j _ _ _ e1 e (by rw [e2]) (by rw [e3, z]))
      have := r.keep (kp_updP (o := .frz o (.dK (ks.zip vs))) nc mu)
      obtain ⟨S, r2, hS⟩ := this
      exact ⟨c, e3, S, r2, fun b hb => fz b (hS b hb)⟩
  · have n1 : i ≠ j := fun z => by subst z; rw [List.getElem?_set_self hi] at q1; cases q1
    have n2 : i ≠ k := fun z => by subst z; rw [List.getElem?_set_self hi] at q2; cases q2
    rw [List.getElem?_set_ne n1] at q1
    rw [List.getElem?_set_ne n2] at q2
    exact g.inj j k d d' b q1 q2 q3 q4
theorem Lnk.frzD (g : Good K P H σ E) {i : Nat} {a : Addr} {d d' : Lw.D} {u : HO} (e1 : E[i]? = some (.own d')) (e2 : σ[i]? = some (some (.ref a))) : Lnk P σ E H P σ (E.set i (.val d)) (L2.upd H a u) :=
  ⟨fun b o e _ n => by rw [upd_ne (fun z => n (by rw [z]; exact ⟨i, _, e1, e2⟩))]; exact e, fun b h => .inl (own_frz h), fun _ h => .inl h, fun b e => none_upd e⟩
theorem kV_rep {T : Addr → Prop} {H : Hp} : ∀ k : Key, RepB K H T (kV k) (keyOf k)
  | .inl i => .int i
  | .inr x => .str x
theorem wk_keys {T P : Addr → Prop} {a : Addr} {o : Obj} {ks : List Key} {vs : List V} (h : H a = some (.frz o (.dK (ks.zip vs)))) (hl : ks.length = vs.length) : Wk K T P (Itk a o (ks.zip vs)) H (ks.map keyOf) := fun H2 k => by
  have h2 : H2 a = some (.frz o (.dK (ks.zip vs))) := k a _ h (fun _ z => nomatch z) (.inr fun z => z)
  have hz : (ks.zip vs).length = ks.length := by rw [List.length_zip]; omega
  refine ⟨fun i hi => ⟨h2, by rw [hz]; simpa using hi⟩, fun i d e => ?_⟩
  rw [List.getElem?_map] at e
  obtain ⟨key, e1, rfl⟩ := Option.map_eq_some_iff.mp e
  have hi : i < ks.length := (List.getElem?_eq_some_iff.mp e1).1
  refine ⟨⟨h2, by rw [hz]; exact hi⟩, fun x H3 y => ?_⟩
  obtain ⟨rfl, k', v, e2, rfl⟩ := y
  have e3 : (ks.zip vs)[i]? = some (key, vs[i]'(by omega)) := by
    rw [List.getElem?_zip_eq_some]
    exact ⟨e1, by simp⟩
  rw [e2] at e3
  cases e3
  exact ⟨fun _ _ z => z, kV_rep key⟩
end
section
variable {X : Cx} {W : WX} {tg l : Expr} {i : Nat}
theorem pi_keysF (he : PE X l (tVar i)) : PI X tg l (TIof X.K X.mg W (keysM i)) := by
  refine ⟨fun pins s σ H R I h => ?_⟩
  obtain ⟨P, E, g, h⟩ := h
  unfold keysM at h
  cases eE : E[i]? with
  | none => rw [eE] at h; exact h.elim
  | some sl =>
    rw [eE] at h
    cases sl with
    | no => exact h.elim
    | own d =>
      cases d with
      | dk ks ds =>
        obtain ⟨a, e2, ow⟩ := g.own i _ eE
        obtain ⟨vs, hv, hl, r⟩ := ow.dk_inv
        obtain ⟨od, I1⟩ := I.lock hv trivial
        have gF := g.frzD eE e2 hv hl r od
        exact (pi_keys (tg := tg) he).run pins s σ _ R I1 ⟨.ref a, e2, a, od, rfl, .inl ⟨_, upd_same, h _ _ P (fun _ z => z) gF (Lnk.frzD g eE e2) (wk_keys upd_same hl)⟩⟩
      | _ => exact h.elim
    | val d =>
      cases d with
      | dz ks ds =>
        obtain ⟨v, e2, S, r, hS⟩ := g.val i _ eE
        cases r with
        | dz h1 h2 h3 => exact (pi_keys (tg := tg) he).run pins s σ _ R I ⟨_, e2, _, _, rfl, .inl ⟨_, h1, h _ _ P (fun _ z => z) g Lnk.refl (wk_keys h1 h2)⟩⟩
      | _ => exact h.elim
end
end Lw
end

section
set_option Elab.async false
set_option linter.all false
set_option maxRecDepth 100000
set_option maxHeartbeats 4000000
/-! LE: an own exception is made: class B(A), class A(ValueError) whose __init__ says super().__init__(value), self.value = value -/
namespace Lw
open PySem PySem.Spec PySem.W PySem.Calls PyProof.Rows
def supE (p0 p1 : Pos) : Expr := .Call (.Name "super" p0) [] [] p1
def veBody (bd : List Stmt) : Prop := ∃ (p0 p1 p2 p3 p4 p5 p6 p7 p8 p9 : Pos),
  bd = [.Expr (.Call (.Attribute (supE p0 p1) "__init__" p2) [.Name "value" p3] [] p4) p5, .Assign [.Attribute (.Name "self" p6) "value" p7] (.Name "value" p8) p9] ∧
    ∀ env : Env, ∃ pl : Sem Bool, eval (.Call (.Attribute (supE p0 p1) "__init__" p2) [.Name "value" p3] [] p4) env = (do
      let ov ← attributeBase (supE p0 p1) "__init__" env (eval (supE p0 p1) env)
      standAt p2.atName
      let (f, first) ← holding [ov] (getMethod ov "__init__" pl)
      callWith p4 f first (backTo p4 (starEach [.Name "value" p3] env)) [])
/-- the def __init__ and the classes, by what is written -/
structure InitK (prog : Program) (K : Frag) (mg : Str → Option Value) (C fI : Addr) : Prop where
  iC : findIn K (.ref C) "__init__" = some (some (.ref fI))
  tI : typeIn K (.ref fI) = some (.type "function")
  noSup : mg "super" = none
  fn : ∃ (oc cl ccl : Value) (od cld cdd an : Option Addr) (osl csl ccs : Array (Option Value)) (cc cda D : Addr) (params : Arguments) (body : List Stmt) (scope : Scope) (dV kV doc pm ct : Value) (vs : Array Value) (file : Str) (tf : Tok) (cdD : ClassData) (p1 p2 : Pos) (q : Str),
    K.lookup fI = some ⟨oc, od, .func (ksFn "__init__" q params body scope dV kV doc pm an (.ref cda) ct cc), osl⟩ ∧ codeIn K (.ref cda) q = true ∧ K.lookup cda = some ⟨ccl, cdd, .fields vs, ccs⟩ ∧ vs[2]? = some (.str file tf) ∧ ((prog.main.file : Str) == file) = true ∧
    K.lookup cc = some ⟨cl, cld, .cell (some (.ref D)), csl⟩ ∧ clsIn K D = some cdD ∧ mroIn K C (.ref D) = some true ∧ ks_superIn K C D "__init__" = some (some (.builtin "ValueError.__init__")) ∧
    params = { posonlyargs := [], args := [{ arg := "self", annotation := none, pos := p1 }, { arg := "value", annotation := none, pos := p2 }], vararg := none, kwonlyargs := [], kw_defaults := [], kwarg := none, defaults := [] } ∧ veBody body ∧
    scope = { kind := .function, names := [("self", .local), ("value", .local), ("__class__", .free), ("super", .globalImplicit)], isGenerator := false, isCoroutine := false, more := [] } ∧ ∀ u v : Value, bindArgs (ksFn "__init__" q params body scope dV kV doc pm an (.ref cda) ct cc) ⟨[u, v], []⟩ = pure ([("self", u), ("value", v)] : List (Str × Value))
  sub : subIn K (.ref C) (.type "ValueError") = some true
  opq : nsIn K cStatics "thirdparty.any" = some none
  val : findIn K (.ref C) "value" = some none
  top : (prog.main.scope.names.lookup ("super" : Str)).isSome = false
section
variable {prog : Program} {w : World} {A : Around} {R : Result → Shared → Prop} {K : Frag} {mg : Str → Option Value} {C fI e t0 : Addr} {v : Value} {hp : Heap} {g : Array GenState} {d : Drawn} {t : Nat} {os : OsState}
theorem call_sup {nm q : Str} {N : Addr} {bs bm : List Value} {hdct : Bool} {sn : List Str} {sub : List Value} {ab : Bool} {col : Option Bool} {dd : Option Addr} {k0 k1 k2 k3 k5 : Option Value} {E : Value → Shared → Prop} {u : Addr} {rest : List Value} {Q : Value → Shared → Prop}
    (hC : hp.get? C = some (excClassObj nm q C N bs bm hdct sn sub ab col dd k0 k1 k2 k3 k5 "ValueError.__new__")) (he : hp.get? e = some (HandSPX.excO C t0)) (hu : hp.get? u = some (kxs_mw "ValueError.__init__" e)) (hrest : rest.length ≤ sizeLine)
    (hq : ∀ h' t1, (∀ b o, b ≠ e → hp.get? b = some o → h'.get? b = some o) → h'.get? e = some (HandSPX.excO C t1) → Q .none ⟨h', g, d, t, os⟩) :
    wpAny (model prog w) A (call (.ref u) rest) Q E ⟨hp, g, d, t, os⟩ := by
  refine wpAny_call (codeAny_of_tree ?_)
  show wpAny _ A.in1 (callAny (.ref u) ⟨rest, []⟩) _ _ _
  simp only [callAny]
  refine wpAny_bind (wpAny_load hu ?_)
  simp only [kxs_mw, show (Value.type "method-wrapper" == Value.type "method" || Value.type "method-wrapper" == Value.type "builtin_function_or_method" || Value.type "method-wrapper" == Value.type "method-wrapper") = true by decide, if_true]
  refine KFB.if_so (by decide) ?_
  refine wpAny_bind (ESX.check_bound F.excBase_ValueError hC he rfl ?_)
  refine wpAny_bind (wpAny_pure (wpAny_pure ?_))
  refine ⟨Code.quiet_builtin _ (by decide +kernel), codeAny_builtin F.excBase_ValueError.initEntry ?_⟩
  rw [Around.under_plainId F.excBase_ValueError.init.plain _]
  wp_walk
  refine hq _ hp.objs.size (fun b o hb ho => ?_) ?_
  · rw [Heap.get?_update_other _ _ (Ne.symm hb)]
    exact Heap.get?_push_of_some _ ho
  · rw [Heap.get?_update_self _ (Heap.get?_push_of_some _ he) rfl]
    rfl
/-- __init__(e, v): args laid anew, then a dict with value -/
theorem init_pass (T : L2.OexC K C) (IK : InitK prog K mg C fI) (X : K.In hp) (hg : hp.Ns mainGlobals mg) (hb : ∃ mb, hp.Ns builtinsNs mb ∧ ∀ x : Str, x ≠ "__name__" → mb x = bootBuiltins x) (hlim : hp.NoLimit) (hroom : A.depth < recursionLimit)
    (he : hp.get? e = some (HandSPX.excO C t0)) (hne : K.lookup e = none)
    (hq : ∀ h' t1 dx tk, (∀ b o, b ≠ e → hp.get? b = some o → h'.get? b = some o) → hp.objs.size ≤ dx → dx ≠ e → h'.get? e = some { cls := .ref C, dict := some dx, data := .fields #[.ref t1, .none, .none, .none, .bool false, .none] } →
      h'.Ns1 dx (fun y => if y = ("value" : Str) then some v else none) → R (.ok (.ret .none)) ⟨h', g, d, tk, os⟩) :
    codeAny (model prog w) A (.call (.ref fI) ⟨[.ref e, v], []⟩) R ⟨hp, g, d, t, os⟩ := by
  obtain ⟨nm, q, N, bs, bm, sn, sub, ab, col, dd, k0, k1, k2, k3, k5, hC, hbm⟩ := T.cls
  have hcl : clsIn K C = some { name := nm, bases := bs, mro := .ref C :: bm, ns := N, qualname := q, hasDict := true, slotNames := sn, subclasses := sub, abstract := ab, collection := col, hasDel := false } := by unfold clsIn; rw [hC] <;> rfl
  obtain ⟨oc, cl, ccl, od, cld, cdd, an, osl, csl, ccs, cc, cda, D, params, body, scope, dV, kV, doc, pm, ct, vs, file, tf, cdD, p1, p2, qn, hf, hcd, hcode, hvs, hfile, hcell, hD, hsub, hsup, rfl, ⟨a0, a1, a2, a3, a4, a5, a6, a7, a8, a9, rfl, hmth⟩, rfl, hbind⟩ := IK.fn
  obtain ⟨mb, hbn, hbb⟩ := hb
  have nms : ∀ x ∈ ([("self", .local), ("value", .local), ("__class__", .free), ("super", .globalImplicit)] : List (Str × NameKind)), x.2 ≠ .cell := by decide
  have lcs : ∀ x ∈ ([("self", .ref e), ("value", v)] : List (Str × Value)), ([("self", .local), ("value", .local), ("__class__", .free), ("super", .globalImplicit)] : List (Str × NameKind)).lookup x.1 = some .local := fun x hx => by
    simp only [List.mem_cons, List.not_mem_nil, or_false] at hx
    rcases hx with rfl | rfl <;> rfl
  refine ks_codeAny_call_defAt (binds := [("self", .ref e), ("value", v)]) hroom (X _ _ hf) rfl hlim (codeRec_of X hcd) rfl (.of_eq (hbind _ _)) nms lcs (fun h₁ hns hk => ?_)
  generalize hEnv : callEnv _ hp.objs.size fI = env
  have eEnv : env = ksEnv qn { kind := .function, names := [("self", .local), ("value", .local), ("__class__", .free), ("super", .globalImplicit)], isGenerator := false, isCoroutine := false, more := [] } hp.objs.size fI (.ref cda) cc := by rw [← hEnv]; rfl
  clear hEnv
  subst eEnv
  have he1 := hk _ _ he
  have X1 : K.In h₁ := fun b o e => hk b o (X b o e)
  have g1 : h₁.Ns mainGlobals mg := hg.keeps hk
  have b1 : h₁.Ns builtinsNs mb := hbn.keeps hk
  have I1 : InstAt h₁ e (HandSPX.excO C t0) C none := ⟨he1, rfl, rfl, trivial⟩
  obtain ⟨oD, hD1, hD2⟩ : ∃ oD, h₁.get? D = some oD ∧ oD.data = .cls cdD := by
    unfold clsIn at hD
    split at hD
    · rename_i c d cd' sl ho
      cases hD
      exact ⟨_, X1 _ _ ho, rfl⟩
    · cases hD
  have lse : e < hp.objs.size := Heap.lt_size he
  obtain ⟨pl, heq⟩ := hmth (ksEnv qn { kind := .function, names := [("self", .local), ("value", .local), ("__class__", .free), ("super", .globalImplicit)], isGenerator := false, isCoroutine := false, more := [] } hp.objs.size fI (.ref cda) cc)
  refine ks_wpAt_execs_cons (ks_wpAt_Expr_any (ks_wpAt_MethodCall (pl := pl) ?_ heq))
  refine ks_wpAt_super_base (attr := "__init__") (by rfl) (by rfl) (by decide) rfl (X1 _ _ hf) rfl rfl rfl (X1 _ _ hcode) rfl hvs hfile IK.top ?_
  refine ks_loadName_global rfl (by rfl) (loadGlobal_builtin g1 IK.noSup b1 ((hbb _ (by decide +kernel)).trans (by decide +kernel)) ⟨rfl, ?_⟩)
  refine wpAny_loadName_free rfl (by rfl) rfl ⟨_, X1 _ _ hcell, rfl⟩ ?_
  refine wpAny_loadName_local rfl (by rfl) hns (v := .ref e) (by rfl) ?_
  refine ks_wpAny_isType_cls hD1 hD2 ⟨rfl, ?_⟩
  refine ks_wpAny_call_super hD1 hD2 I1.at_ I1.cls (fun c z => by cases z) (looks_mroIn X1 hsub) (fun h2 e2 k2 => ?_)
  have X2 : K.In h2 := fun b o e => k2 b o (X1 b o e)
  have he2 := k2 _ _ he1
  have I2 : InstAt h2 e (HandSPX.excO C t0) C none := ⟨he2, rfl, rfl, trivial⟩
  have hI : Looks (model prog w) h2 (isInstance (.ref e) (.type "ValueError")) true := I2.type.andThen (looks_subIn X2 IK.sub)
  have hno : Looks (model prog w) h2 (opaqueClassAbove (.ref C)) none := looks_opaque X2 IK.opq
  unfold ks_superIn at hsup
  rw [hcl] at hsup
  refine kxs_getMethod kxs_ValueError e2 hno (l₀ := .ref C :: bm) (fun A Q E s k q => wpAny_bind ((looks_clsIn X2 hcl) A _ E s k (wpAny_pure q))) rfl X2 hsup hI (ks_ne X2 I2 hcl) (by decide) ?_
  have k3 : ∀ b o, h2.get? b = some o → (h2.push (kxs_mw "ValueError.__init__" e)).get? b = some o := fun b o q => Heap.get?_push_of_some _ q
  have hm3 : (h2.push (kxs_mw "ValueError.__init__" e)).get? h2.objs.size = some (kxs_mw "ValueError.__init__" e) := Heap.get?_push_at rfl rfl
  generalize h2.push (kxs_mw "ValueError.__init__" e) = h3 at k3 hm3 ⊢
  have hns3 := hns.keeps fun b o q => k3 b o (k2 b o q)
  have hk3 : ∀ b o, hp.get? b = some o → h3.get? b = some o := fun b o q => k3 b o (k2 b o (hk b o q))
  have X3 : K.In h3 := fun b o q => hk3 b o (X b o q)
  refine kxs_callWith (i := "ValueError.__init__") (x := e) (by rfl) ?_
  refine evalArgs_plain (rest := []) (Calls.spliced_cons ?_)
  refine ESX.ldL hns3 (v := v) (by rfl) ?_ (hl := by rfl)
  refine Calls.spliced_nil ⟨hm3, ?_⟩
  refine call_sup (X3 _ _ hC) (hk3 _ _ he) hm3 (by rw [sizeLine_eq]; simp) fun h4 t1 k4 he4 => ?_
  have X4 : K.In h4 := fun b o q => k4 b o (fun z => by rw [z, hne] at q; cases q) (X3 b o q)
  have nL : hp.objs.size ≠ e := Nat.ne_of_gt lse
  have hns4 : h4.Ns hp.objs.size (fun x => ([("self", .ref e), ("value", v)] : List (Str × Value)).reverse.lookup x) := by
    obtain ⟨o, es, ep, q1, q2, q3⟩ := hns3
    exact ⟨o, es, ep, k4 _ _ nL q1, q2, q3⟩
  refine ks_wpAt_execs_cons (ks_wpAt_Assign_Attr ?_)
  refine wpAt_of_wpAny ?_
  refine ESX.ldL hns4 (v := v) (by rfl) ?_ (hl := by rfl)
  refine ESX.ldL hns4 (v := .ref e) (by rfl) ?_ (hl := by rfl)
  refine set_plain X4 (ox := { cls := .ref C, dict := none, data := .fields #[.ref t1, .none, .none, .none, .bool false, .none] }) (od := none) ⟨he4, rfl, rfl, trivial⟩ T.sa ?_
  refine HandSPX.exc_osa X4 he4 hcl (show HandSPX.refsVE (.ref C :: bm) = true from hbm) rfl IK.val (fun h5 tk dx k5 dn dne hx hn => ?_)
  refine wpAt_of_wpAny (wpAny_execs_nil ?_)
  have big : hp.objs.size ≤ h4.objs.size := by
    obtain ⟨o, es, ep, q1, q2, q3⟩ := hns4
    exact Nat.le_of_lt (Heap.lt_size q1)
  exact hq h5 t1 dx _ (fun b o hb q => k5 b o hb (k4 b o hb (hk3 b o q))) (Nat.le_trans big dn) dne hx hn
end

section
open L2
variable {X : Cx}
/-- x(e), where x is such a class -/
theorem pmk_pass {x : Str} {C fI : Addr} {e : Expr} {te : TE} {p pos : Pos} {k : Nat} (T : OexC X.K C) (IK : InitK X.prog X.K X.mg C fI) (hr : Room (k + 1) X.A) (hg : Gl X x) (hm : X.mg x = some (.ref C)) (he : PE X e te)
    (hdb : (x == ("__debug__" : Str)) = false) (hs : starEach [e] X.env = (false, eval e X.env) :: starEach [] X.env) :
    PMk X (.Call (.Name x p) [e] [] pos) (fun σ H Q => te σ H fun v H1 => ∀ d, H1 d = none → Q (.ref C) (some d) (upd H1 d (.xd [(("value" : Str), v)]))) := by
  intro pins s σ H Q I h
  obtain ⟨nm, q, N, bs, bm, sn, sub, ab, col, dd, k0, k1, k2, k3, k5, hC, hbm⟩ := T.cls
  refine wpAny_Call_Name_kw (ld_glob I hg hm ?_ hdb)
  refine PySem.W.callWith_K (h₀ := X.base) I.ok.mod.kin T.kC ?_ hs (by rfl)
  rw [hs]
  show wpAny _ _ (spliced ((false, eval e X.env) :: backTo pos (starEach [] X.env))) _ _ s
  refine Calls.spliced_cons (thn (he.run pins s σ H _ I h) fun u s1 ⟨v, H1, I1, r1, q1⟩ => ?_)
  refine Calls.spliced_nil ⟨I1.kIn, ?_⟩
  show wpAny _ _ (call (.ref C) [u]) _ _ _
  obtain ⟨hp, g, dr, tk, os⟩ := s1
  have hsz : hp.objs.size ≤ hp.objs.size + 1 := Nat.le_succ _
  have kk : ∀ b o, hp.get? b = some o → ((hp.push (PySem.W.kdv_tup [u])).push (PySem.HandSPX.excO C hp.objs.size)).get? b = some o := fun b o e => Heap.get?_push_of_some _ (Heap.get?_push_of_some _ e)
  have hget : ((hp.push (PySem.W.kdv_tup [u])).push (PySem.HandSPX.excO C hp.objs.size)).get? (hp.objs.size + 1) = some (PySem.HandSPX.excO C hp.objs.size) := by heap_get
  have I2 : Inv X pins σ (upd H1 (hp.objs.size + 1) (exo (hp.objs.size + 1) C none)) ⟨(hp.push (PySem.W.kdv_tup [u])).push (PySem.HandSPX.excO C hp.objs.size), g, dr, tk, os⟩ :=
    I1.laid (t' := tk) (a := hp.objs.size + 1) (o := exo (hp.objs.size + 1) C none) (h' := (hp.push (PySem.W.kdv_tup [u])).push (PySem.HandSPX.excO C hp.objs.size)) kk hsz (exo_ok hget)
  refine wpAny_call (PySem.HandSPX.call_own F.excBase_ValueError (fun Y => PySem.HandSPX.refsVE_contains Y bm hbm) (I1.kIn _ _ hC) (PySem.W.looks_findIn I1.kIn IK.iC) (fun self => PySem.W.bind_fn I1.kIn self IK.tI) (by rw [sizeLine_eq]; simp) ?_)
  have nK : X.K.lookup (hp.objs.size + 1) = none := by
    cases z : X.K.lookup (hp.objs.size + 1) with
    | none => rfl
    | some o => exact absurd (Heap.lt_size (I1.kIn _ _ z)) (by show ¬ (hp.objs.size + 1 < hp.objs.size); omega)
  have m2 := I2.ok.mod
  refine init_pass (e := hp.objs.size + 1) (t0 := hp.objs.size) T IK I2.kIn (m2.glob.keeps I2.bk) ?_ ?_ ?_ hget nK fun h' t1 dx tk' k dn dne hx hn => ?_
  · obtain ⟨mb, b1, b2⟩ := m2.blt
    exact ⟨mb, b1.keeps I2.bk, b2⟩
  · exact m2.nolimit.keeps I2.bk
  · exact (hr.make C [u] []).depth
  · refine ⟨rfl, ?_⟩
    generalize hA : (hp.push (PySem.W.kdv_tup [u])).push (PySem.HandSPX.excO C hp.objs.size) = hp2 at kk hget I2 k dn
    generalize ha : hp.objs.size + 1 = a at hsz hget nK I2 k dne hx hn ⊢
    have na1 : H1 a = none := I1.hok.fresh hsz
    have e : upd H1 a (exo a C none) a = some (exo a C none) := upd_same
    have hnd : upd H1 a (exo a C none) dx = none := I2.hok.fresh dn
    have hnd1 : H1 dx = none := by rw [upd_ne dne] at hnd; exact hnd
    have nd : ∀ {b : Addr} {o : Obj}, hp2.get? b = some o → b ≠ dx := fun {b o} q => Nat.ne_of_lt (Nat.lt_of_lt_of_le (Heap.lt_size q) dn)
    have na : ∀ {b : Addr}, upd H1 a (exo a C none) b = none → b ≠ a := fun {b} n z => by
      rw [z, e] at n
      cases n
    have fr : ∀ b ∈ frs X.stack, b ≠ a := fun b hb z => by
      rcases List.mem_cons.mp (I2.stkSub _ hb) with z2 | z2
      · have h1 := I2.free
        rw [← z2, z, e] at h1
        cases h1
      · exact absurd z2 (by rw [z]; exact I1.nofs hsz)
    have Un1 : Un (frs X.stack) [] (upd H1 a (exo a C none)) (upd (upd (upd H1 a (exo a C none)) dx (exd dx [(("value" : Str), v)])) a (exo a C (some dx))) hp2 h' := {
      keep := fun b o q n _ _ => k b o (na n) q
      slot := fun b o q n hb _ => ⟨o.slots, k b o (fr b hb) q⟩
      free := fun b o q n _ => by rw [upd_ne (na n), upd_ne (nd q)]; exact n
      there := fun b o q _ => by
        by_cases hb : b = a
        · exact ⟨_, by rw [hb]; exact hx⟩
        · exact ⟨o, k b o hb q⟩
      tups := fun b xs q => by rw [upd_ne (at_ne e q exo_tup), upd_ne (ne_of_none q hnd)]; exact q
      frzs := fun b o v q => by rw [upd_ne (at_ne e q exo_frz), upd_ne (ne_of_none q hnd)]; exact q
      tbls := fun b ps q => ⟨#[], by rw [upd_ne (at_ne e q exo_tbl), upd_ne (ne_of_none q hnd), q]; simp⟩ }
    have hok2 : HOk X.prog X.w (upd (upd (upd H1 a (exo a C none)) dx (exd dx [(("value" : Str), v)])) a (exo a C (some dx))) h' := fun b o q => by
      by_cases hb : b = a
      · subst hb
        rw [upd_same] at q
        cases q
        exact exo_ok hx
      · rw [upd_ne hb] at q
        by_cases hd : b = dx
        · subst hd
          rw [upd_same] at q
          cases q
          exact exd_ok hn (relO_put (fs := []) r1 fun g => True.intro)
        · rw [upd_ne hd] at q
          exact (I2.hok b o q).stay (fun c v hc z => k c v (by
              rcases hc with hc | hc
              · rw [hc]
                exact hb
              · exact at_ne e hc exo_own) z)
            (fun c hc => by rw [upd_ne (at_ne e hc exo_own), upd_ne (ne_of_none hc hnd)]; exact hc) (fun c xs hc => by rw [upd_ne (at_ne e hc exo_tup), upd_ne (ne_of_none hc hnd)]; exact hc)
    have q2 := q1 dx hnd1
    have eq : upd (del (upd (upd (upd H1 a (exo a C none)) dx (exd dx [(("value" : Str), v)])) a (exo a C (some dx))) a) dx (.xd [(("value" : Str), v)]) = upd H1 dx (.xd [(("value" : Str), v)]) := by
      funext b
      by_cases hb : b = dx
      · subst hb; rw [upd_same, upd_same]
      · rw [upd_ne hb, upd_ne hb]
        by_cases hb2 : b = a
        · subst hb2; rw [del_same, na1]
        · rw [del_ne hb2, upd_ne hb2, upd_ne hb, upd_ne hb2]
    rw [← eq] at q2
    exact mk_end (raises_own T.exC T.tyC) I1 hsz kk Un1 hok2 rfl I2.bare upd_same (by rw [upd_ne dne, upd_same]) hnd1 q2
end
end Lw
end

section
set_option Elab.async false
set_option linter.all false
set_option maxRecDepth 100000
set_option maxHeartbeats 4000000
/-! LX: exceptions that are caught and kept: try: .. except C as e: .., whose end knows e's object; isinstance(e, T); e.value -/
namespace Lw
open PySem PySem.Spec PyProof.Rows L2
/-- the object at a is an exception of the class cls, its dict at d -/
def exoX (cls : Value) (d : Option Addr) (a : Addr) : HO := .ext fun h => ∃ (oe : Obj) (vs : Array Value), h.get? a = some oe ∧ Zc cls d oe ∧ oe.data = .fields vs
theorem exoX_ok {P : Program} {w : World} {H : Hp} {h : Heap} {a : Addr} {cls : Value} {d : Option Addr} {oe : Obj} {vs : Array Value} (e : h.get? a = some oe) (z : Zc cls d oe) (q : oe.data = .fields vs) : ObjOk P w H h a (exoX cls d a) :=
  ⟨⟨oe, vs, e, z, q⟩, ⟨oe, e⟩, fun _ _ ⟨o, v, r1, r2⟩ k => ⟨o, v, k o r1, r2⟩⟩
section
variable {X : Cx} {pins : List (Addr × Obj)} {σ : L2.St} {H : Hp} {s : Shared}
/-- an object of ours that is not tracked is tracked from now on -/
theorem inv_track {a : Addr} {u : HO} (I : Inv X pins σ H s) (na : H a = none) (n0 : ∀ o, X.s_0.heap.get? a = some o → a ∈ X.ex) (nL : a ≠ X.env.locals) (nc : ∀ x c, X.env.cells.lookup x = some c → c ≠ a) (np : ∀ p ∈ X.pn ++ pins, p.1 ≠ a)
    (ok : ObjOk X.prog X.w (upd H a u) s.heap a u) : Inv X pins σ (upd H a u) s := by
  have ne : ∀ {b : Addr} {o : HO}, H b = some o → b ≠ a := fun {b o} e z => by rw [z, na] at e; cases e
  refine ⟨I.ok, I.os, I.bare, ⟨I.base.keep, I.base.slot, fun b o e n hx => ?_, I.base.there, fun b xs e => ?_, fun b o xs e => ?_, fun b ps e => ?_⟩, I.loc, I.cell, ?_, fun x c e => ?_, fun p hp => ?_, fun b o e => ?_, I.len⟩
  · have : b ≠ a := fun z => hx (by rw [z] at e ⊢; exact n0 o e)
    rw [upd_ne this]; exact I.base.free b o e n hx
  · have q := I.base.tups b xs e
    rw [upd_ne (ne q)]; exact q
  · have q := I.base.frzs b o xs e
    rw [upd_ne (ne q)]; exact q
  · obtain ⟨m, q⟩ := I.base.tbls b ps e
    exact ⟨m, by rw [upd_ne (ne q)]; exact q⟩
  · rw [upd_ne (Ne.symm nL)]; exact I.free
  · rw [upd_ne (nc x c e)]; exact I.freeC x c e
  · obtain ⟨q1, q2, q3⟩ := I.pin p hp
    exact ⟨q1, by rw [upd_ne (np p hp)]; exact q2, q3⟩
  · by_cases hb : b = a
    · subst hb
      rw [upd_same] at e; cases e
      exact ok
    · rw [upd_ne hb] at e
      exact (I.hok b o e).stay (fun _ _ _ q => q) (fun c q => by rw [upd_ne (ne q)]; exact q) fun c xs q => by rw [upd_ne (ne q)]; exact q
/-- what the clause wishes: the body of the clause falls through; the exception's object is known from then on -/
def wKeep (K : PySem.W.Frag) (cv : Value) (i : Nat) (ts : Addr → TS) (Wout : WX) (D : Ends) : WX := fun cls d σ H =>
  ∃ b, PySem.W.exmOne K cls cv = some b ∧ (b = true → ∀ a, H a = none → ts a { nx := fun σ1 H1 => H1 a = none ∧ D.nx (σ1.set i none) (upd H1 a (exoX cls d a)), rt := fun _ _ => False, bk := fun _ _ => False, ct := fun _ _ => False } (σ.set i (some (.ref a))) H) ∧ (b = false → Wout cls d σ H)
theorem ps_try_keep {x n : Str} {cv : Value} {i : Nat} {body suite : List Stmt} {b0 : Stmt} {np pos pos' : Pos} {tb : WX → TS} {ts : Addr → TS} {Wout : WX}
    (hs : X.stack = X.env :: X.outer) (hf : X.env.frame = some X.env.locals) (hex : X.ex = []) (hN : X.N.Nodup) (hi : X.N[i]? = some n) (hln : X.env.kindOf n = some .local) (hc : Names X x cv) (tk : Takes X Wout)
    (hb : ∀ (W : WX) (pn : List (Addr × Obj)) (xe : Value → Shared → Prop), Takes (X.tr pn xe) W → PassesOwn (model X.prog X.w) X.A X.env xe → PSs (X.tr pn xe) body (tb W))
    (hsu : ∀ (a : Addr) (oe : Obj) (pn : List (Addr × Obj)), PSs (X.suite a ((a, oe) :: pn)) (b0 :: suite) (ts a)) :
    PS X (.Try body [.ExceptHandler (some (.Name x np)) (some n) (b0 :: suite) pos'] [] [] pos) (fun D σ H => tb (wKeep X.K cv i ts Wout D) D σ H) := by
  refine ⟨fun pn0 sh σ0 H0 D I0 h0 => ?_⟩
  have okX := I0.ok
  have frX : X.A.frames = some (X.env :: X.outer) := by rw [okX.frames, hs]
  have locN : L2.Loc X.env.scope n := .inl hln
  refine wpAny_Try_except (wpAny_mono ((hb (wKeep X.K cv i ts Wout D) (X.pn ++ pn0) (fun e s1 => wpAny (model X.prog X.w) X.A (noteFrame e X.env) (fun _ s2 => wpAny (model X.prog X.w) X.A (setFlight e none) (fun _ s3 =>
    wpAny (model X.prog X.w) X.A (handleBy e X.env [.ExceptHandler (some (.Name x np)) (some n) (b0 :: suite) pos']) (SP X pn0 D) X.xe s3) X.xe s2) X.xe s1) (fun u s2 xx => ?_) PassesOwn.looking).run [] sh σ0 H0 D (I0.toTry _) h0) (fun f s1 hsp => ?_) fun e s1 he => he)
  · obtain ⟨a, B, sI, pn1, σ1, H1, cls, d, rfl, J', nb, up, sky, na, os, ag, b, hb1, hyes, hno⟩ := xx
    have J : Inv X pn0 σ1 H1 sI := J'.ofTry okX
    have sky2 : Sky B (X.env :: X.outer) a (Zc cls d) X.env.locals s2.heap := by rw [← hs]; exact sky
    show wpAny (model X.prog X.w) X.A (noteFrame (.ref a) X.env) _ _ _
    refine Sky.land Zc.steady frX hf sky2 fun g3 fly up3 => ?_
    have J3 : Inv X pn0 σ1 H1 { s2 with heap := g3 } := J.landed nb fly.1 (up.trans up3) os ag
    obtain ⟨oe3, vs3, he3, hz3, hd3⟩ := fly.there
    have notFr : ∀ {h : Heap} {o : Obj} {vs : Array Value}, h.FunFrames B (X.env :: X.outer) → h.get? a = some o → o.data = .fields vs → a ∉ frs (X.env :: X.outer) := fun {h o vs} ff e dd hm => by
      obtain ⟨_, o', e', hnf⟩ := ff.mem hm
      rw [e] at e'; cases e'
      exact hnf _ dd
    have nfr := notFr fly.2.2.1 he3 hd3
    have nL : a ≠ X.env.locals := fun z => nfr (List.mem_filterMap.mpr ⟨X.env, List.mem_cons_self, by rw [hf, z]⟩)
    have nF : a ∉ X.fs := fun hm => by
      obtain ⟨e, he, q⟩ := List.mem_filterMap.mp hm
      exact nfr (List.mem_filterMap.mpr ⟨e, List.mem_cons_of_mem _ he, q⟩)
    have nB : B.get? a = none := by
      obtain ⟨_, q, _⟩ := id fly
      exact q
    -- the exception is not among the objects that stood here before
    have nI : sI.heap.get? a = none := by
      cases q : sI.heap.get? a with
      | none => rfl
      | some o =>
        have hst : a ∉ frs X.stack := by rw [hs]; exact nfr
        rw [nb a o q hst] at nB; cases nB
    have n0 : ∀ o, X.s_0.heap.get? a = some o → a ∈ X.ex := fun o q => by
      by_cases hx : a ∈ X.ex
      · exact hx
      · obtain ⟨o', q'⟩ := J.base.there a o q hx
        rw [nI] at q'; cases q'
    have np1 : ∀ p ∈ X.pn ++ pn0, p.1 ≠ a := fun p hp z => by
      obtain ⟨q, _⟩ := J.pin p hp
      rw [z, nI] at q; cases q
    have nc : ∀ y c, X.env.cells.lookup y = some c → c ≠ a := fun y c e z => by
      obtain ⟨v, o, q, _⟩ := J.cell y c e
      rw [z, nI] at q; cases q
    have S3 := J3.suite he3 hd3 na nL nF
    refine wpAny_handleBy_cons (codeAny_handlers_test ?_) (by intro q; cases q)
    have LT : PySem.W.Looks (model X.prog X.w) g3 (typeOf (.ref a)) cls := fun A Q E s k q => wpAny_typeOf_ref (k _ _ he3) (by rw [hz3.1]; exact q)
    have LM := PySem.W.exm_one (M := model X.prog X.w) (J3.kIn) LT hb1
    have test : ∀ {Q : Value → Shared → Prop} {E : Value → Shared → Prop}, Q cv { s2 with heap := g3 } → wpAny (model X.prog X.w) (X.A.mark (some (.ref a))) (eval (.Name x np) X.env) Q E { s2 with heap := g3 } := fun {Q E} q => by
      obtain ⟨hg, hdbg, hm | ⟨hm, hv, hnn⟩⟩ := hc
      · exact ld_glob (X := X.suite a ((a, oe3) :: (X.pn ++ pn0))) S3 hg hm q hdbg
      · exact ld_blt (X := X.suite a ((a, oe3) :: (X.pn ++ pn0))) S3 hg hm hv q hnn hdbg
    refine test (LM.here ?_)
    cases b with
    | true =>
      refine codeAny_handlers_suite_as (HandSPX.lands_againZ fly fun g4 fly4 up4 => ?_)
      have J4 : Inv X pn0 σ1 H1 { s2 with heap := g4 } := J.landed nb fly4.1 ((up.trans up3).trans up4) os ag
      obtain ⟨oe4, vs4, he4, hz4, hd4⟩ := fly4.there
      have S4 := J4.suite he4 hd4 na nL nF
      refine store_ok (X := X.suite a ((a, oe4) :: (X.pn ++ pn0))) (v := .ref a) S4 hN hi locN rfl (fun s5 S5 => ?_) (.inr hln)
      refine wpAny_mono ((hsu a oe4 (X.pn ++ pn0)).run [] s5 _ H1 _ S5 (hyes rfl a na)) (fun f s6 hsp => ?_) fun _ _ z => False.elim z
      cases f with
      | next =>
        obtain ⟨σ6, H6, S6, n6, q6⟩ := hsp
        obtain ⟨at6, _⟩ := S6.pin (a, oe4) (List.mem_append_left _ List.mem_cons_self)
        -- the name of the clause goes; the object at a stays
        have G6 := S6.unsuite okX
        have P6 : Inv X ((a, oe4) :: pn0) σ6 H6 s6 := ⟨G6.ok, G6.os, G6.bare, G6.base, G6.loc, G6.cell, G6.free, G6.freeC, fun p hp => by
          rcases List.mem_append.mp hp with hp | hp
          · exact G6.pin p (List.mem_append_left _ hp)
          · rcases List.mem_cons.mp hp with rfl | hp
            · exact ⟨at6, n6, nL, nF, fun v z => by have z' : oe4.data = .cell v := z; rw [hd4] at z'; cases z'⟩
            · exact G6.pin p (List.mem_append_right _ hp), G6.hok, G6.len⟩
        show wpAny (model X.prog X.w) X.A (do bindName X.env n .none; unbindBehindTheSuite X.env n pos') _ X.xe s6
        refine gone_ok P6 hN hi hln fun s7 P7 => ?_
        obtain ⟨at7, _⟩ := P7.pin (a, oe4) (List.mem_append_right _ List.mem_cons_self)
        have J7 : Inv X pn0 (σ6.set i none) H6 s7 := ⟨P7.ok, P7.os, P7.bare, P7.base, P7.loc, P7.cell, P7.free, P7.freeC, fun p hp => by
          rcases List.mem_append.mp hp with hp | hp
          · exact P7.pin p (List.mem_append_left _ hp)
          · exact P7.pin p (List.mem_append_right _ (List.mem_cons_of_mem _ hp)), P7.hok, P7.len⟩
        exact ⟨_, _, inv_track J7 n6 n0 nL nc np1 (exoX_ok at7 hz4 hd4), q6⟩
      | brk => obtain ⟨_, _, _, z⟩ := hsp; exact z.elim
      | cont => obtain ⟨_, _, _, z⟩ := hsp; exact z.elim
      | ret u => obtain ⟨_, _, _, _, _, z⟩ := hsp; exact z.elim
    | false =>
      show wpAny _ X.A (handleBy (.ref a) X.env []) _ _ _
      refine wpAny_handleBy_nil ?_
      obtain ⟨k1, k2, k3, oe, vs, T, oT, ts', he, hz, hd, h1, hr⟩ := id fly
      unfold PySem.passOn
      refine wpAny_bind (wpAny_field he hd h1 ?_)
      rw [if_neg (show ¬ ((Value.ref T == Value.none) = true) from by simp)]
      have fin : wpAny (model X.prog X.w) X.A (setFlight (.ref a) X.env.frame) (fun _ s4 => wpAny (model X.prog X.w) X.A (throw (.ref a) : Sem Flow) (SP X pn0 D) X.xe s4) X.xe { s2 with heap := g3 } := by
        rw [hf]
        refine HandSPX.setFlight_upZ fly fun g4 hh4 up4 => wpAny_throw (tk _ _ ?_)
        exact ⟨a, B, sI, pn0, σ1, H1, cls, d, rfl, J, nb, (up.trans up3).trans up4, .inr (.inr (by rw [hs]; exact hh4)), na, os, ag, hno rfl⟩
      first
        | exact wpAny_bind (wpAny_pure (wpAny_bind fin))
        | exact wpAny_bind fin
  · cases f with
    | next =>
      obtain ⟨σ2, H2, J2, q⟩ := hsp
      exact wpAny_execs_nil ⟨σ2, H2, J2.ofTry okX, q⟩
    | brk =>
      obtain ⟨σ2, H2, J2, q⟩ := hsp
      exact ⟨σ2, H2, J2.ofTry okX, q⟩
    | cont =>
      obtain ⟨σ2, H2, J2, q⟩ := hsp
      exact ⟨σ2, H2, J2.ofTry okX, q⟩
    | ret u =>
      obtain ⟨v, σ2, H2, J2, r, q⟩ := hsp
      exact ⟨v, σ2, H2, J2.ofTry okX, r, q⟩
end
/-! ### the own classes of exceptions -/
variable [TabInfo]
structure ExcK (prog : Program) (K : PySem.W.Frag) (mg : Str → Option Value) (C : Str) (c : Addr) : Prop where
  nm : mg C = some (.ref c)
  oc : OexC K c
  init : ∃ fI, InitK prog K mg c fI
  xf : XfC K c
  is : ExcC K c
  nv : PySem.W.findIn K (.ref c) "value" = some none
  ve : PySem.W.kitOne K (.ref c) (.type "ValueError") = some true
structure ExcF (prog : Program) (K : PySem.W.Frag) (mg : Str → Option Value) : Prop where
  one : ∀ C c, TabInfo.exc C = some c → ExcK prog K mg C c
  two : ∀ C c D d, TabInfo.exc C = some c → TabInfo.exc D = some d → PySem.W.kitOne K (.ref c) (.ref d) = some (excIs C D)
section
variable {X : Cx}
theorem excO_at {prog : Program} {w : World} {H : Hp} {h : Heap} {a c d : Addr} {v : V} (hok : HOk prog w H h) (e1 : H a = some (ExcO c d a)) (e2 : H d = some (.xd [(("value" : Str), v)])) :
    ∃ oe od u, PySem.W.InstAt h a oe c (some od) ∧ L2.RelV v u ∧ PySem.W.lookIn "value" od = some (some u) := by
  obtain ⟨⟨oe, vs, ha, hz, hd⟩, _, _⟩ := hok a _ e1
  have hx : ObjOk prog w H h d (.xd [(("value" : Str), v)]) := hok d _ e2
  obtain ⟨mA, hns, hr⟩ := hx
  obtain ⟨od, ho, hl⟩ := lookIn_ns hns
  obtain ⟨u, hu, ru⟩ := RelO.some_of (v := v) (o := mA "value") (hr "value")
  exact ⟨oe, od, u, ⟨ha, hz.1, by unfold PySem.W.notCls; rw [hd] <;> rfl, by rw [hz.2]; exact ho⟩, ru, by rw [hl, hu]⟩
theorem TopB.exc {K : PySem.W.Frag} {H : Hp} {T : Addr → Prop} {v : V} {C : Str} {x : Lw.D} (h : TopB K H T v (.exc C x)) : ∃ a c d w, v = .ref a ∧ TabInfo.exc C = some c ∧ H a = some (ExcO c d a) ∧ H d = some (.xd [(("value" : Str), w)]) ∧ RepB K H T w x := by
  obtain ⟨S, h, hS⟩ := h
  cases h with
  | sc h _ => cases h with
    | exc h1 h2 h3 h4 => exact ⟨_, _, _, _, rfl, h1, h2, h3, S, h4, hS⟩
/-- e.value -/
theorem pe_xval {e : Expr} {te : TE} {pos : Pos} {n : Str} (F : ExcF X.prog X.K X.mg) (he : PE X e te) (hn : n = ("value" : Str)) (hb : attributeBase e n X.env (eval e X.env) = eval e X.env) : PE X (.Attribute e n pos) (tUn (r1D X.K xvalS) te) := by
  subst hn
  refine ⟨fun pins s σ H Q I h => attr_of hb (thn (he.run pins s σ H _ I h) fun u s1 hh => ?_)⟩
  obtain ⟨x, H1, I1, rx, T, d, hd, q⟩ := hh
  unfold xvalS at q
  split at q
  · rename_i C x'
    obtain ⟨a, c, dd, w, rfl, e1, e2, e3, r⟩ := hd.exc
    obtain rfl : u = Value.ref a := rx
    obtain ⟨oe, od, u', J, ru, hl⟩ := excO_at I1.hok e2 e3
    have k := F.one _ _ e1
    exact HandSPX.exc_get I1.kIn J k.xf.ga k.xf.gg k.xf.exC (PySem.W.findObj_own k.xf.hdC k.nv rfl hl) (handed_of ru) ⟨w, H1, I1.tok _, ru, PostP.v q r⟩
  · exact q.elim
/-- isinstance(e, T), e an exception -/
def rIsX (K : PySem.W.Frag) (n : Str) (cv : Value) : List V → Hp → VK → Prop := fun xs H Q => ∃ T x d c, xs = [x, c] ∧ (∀ u, L2.RelV c u → u = cv) ∧ TopB K H T x d ∧ PostP K H T Q (isxS n d)
theorem call_isX {n : Str} {cv : Value} (F : ExcF X.prog X.K X.mg) (hk : ∀ C c, TabInfo.exc C = some c → PySem.W.kitOne X.K (.ref c) cv = some (excIs C n)) : CallR X (.builtin "isinstance") (rIsX X.K n cv) := by
  intro pins s σ H xs us Q I r ⟨T, x, d, c, e, hcv, hd, q⟩
  subst e
  cases r with
  | cons rx rr => cases rr with
    | cons rt rr =>
      cases rr
      have ec := hcv _ rt
      subst ec
      unfold isxS at q
      split at q
      · rename_i C x'
        obtain ⟨a, cc, dd, w, rfl, e1, e2, e3, r⟩ := hd.exc
        cases rx
        obtain ⟨oe, od, u', J, ru, hl⟩ := excO_at I.hok e2 e3
        have k := (F.one _ _ e1).is
        have hcl : (PySem.W.clsIn X.K cc).isSome = true := by
          obtain ⟨cd, hc, _⟩ := PySem.W.any_some k.hd
          rw [hc] <;> rfl
        exact PySem.W.kia_one (PySem.W.kitx_exc hcl k.hg k.hk k.hs k.ha k.hn k.ht k.hm) I.kIn J (hk _ _ e1) (fun z => nomatch z) fun tk => ⟨.bl _, H, I.kept (t' := tk) fun _ _ z => z, rfl, PostP.v q (.bl _)⟩
      · exact q.elim
end
end Lw
end

section
set_option Elab.async false
set_option linter.all false
set_option maxRecDepth 100000
set_option maxHeartbeats 4000000
/-! LH: lambdas without parameters, and the def that hears what they raise -/
namespace Lw
open PySem PySem.Spec PyProof.Rows L2 LamX
variable [TabInfo]
abbrev lamN (X : Cx) : Str := X.env.qual ++ "<lambda>"
theorem lamO_at {P : Program} {w : World} {H : Hp} {h : Heap} {f : Addr} {F : LF} (hok : HOk P w H h) (e : H f = some (LamO f F)) : ∃ pm ctv : Value, h.get? f = some (PySem.W.kla_obj "<lambda>" F.qual F.params F.body F.scope F.cl pm F.c ctv) := by
  obtain ⟨z, _, _⟩ := hok f _ e
  exact z
/-- the lambda of the context X, of these words -/
abbrev lfOf (X : Cx) (params : Arguments) (body : Expr) (scope : Scope) (c' : Addr) : LF := ⟨lamN X, params, body, scope, cloFrom X.env.cells scope.names [], c'⟩
section
variable {X : Cx} {pins : List (Addr × Obj)} {σ : L2.St} {H : Hp} {s : Shared}
/-- the lambda is made, and known from then on -/
theorem lam_mk {T : List (Addr × Str)} {cc tb : Addr} {params : Arguments} {body : Expr} {scope : Scope} {pos : Pos} {E Q : Value → Shared → Prop} (I : Inv X pins σ H s) (B : TabB X.base X.mg cc tb) (ec : X.env.code = .ref cc)
    (mT : (tb, lamN X) ∈ T) (uT : ∀ p ∈ T, p.1 = tb → p.2 = lamN X) (hT : Tabs T H) (nd : defaultsOf params X.env = ([], [])) (fr : ∀ y ∈ scope.names, y.2 = .free → ∃ c, X.env.cells.lookup y.1 = some c)
    (h : ∀ (f c' : Addr) (pm ctv : Value) (H1 : Hp) (t : Shared), Inv X pins σ H1 t → ExtN H H1 ∧ Tabs T H1 ∧ (∀ b, H1 b = none → H b = none) →
      t.heap.get? f = some (PySem.W.kla_obj "<lambda>" (lamN X) params body scope (cloFrom X.env.cells scope.names []) pm c' ctv) → H1 f = none ∧ f ∉ frs X.stack ∧ s.heap.objs.size ≤ f → H1 c' = some (CodeO c' (lamN X)) → Q (.ref f) t) :
    wpAny (model X.prog X.w) X.A (eval (.Lambda params body scope pos) X.env) Q E s := by
  obtain ⟨ps, e1, e2, e3⟩ := hT _ mT
  have onH : s.heap.get? tb = some { cls := .none, data := .fields ps } := I.hok tb _ e1
  have newF : ∀ {f}, s.heap.objs.size ≤ f → f ∉ frs X.stack := fun {f} hf z => (List.mem_cons.mp (I.stkSub _ z)).elim (fun q => by have h1 := I.lt; rw [← q] at h1; exact Nat.lt_irrefl _ (Nat.lt_of_lt_of_le h1 hf)) (I.nofs hf)
  have Bb := B.bm.keeps I.bk
  refine PySem.W.kla_eval nd ?_
  cases q : codeAmong pos ps.toList with
  | some cv =>
    -- the code object stands in the table
    obtain ⟨c', rfl, hco⟩ := e3 pos cv q
    refine PySem.W.kla_makeFunctionHit (mg := X.mg) (c := cc) (P := tb) (ps := ps) (closure_ok fr) I.ok.glob (I.mod.glob.keeps I.bk) ec (B.code.keeps I.bk) onH e2 q Bb fun ctv g tk hx hz => ?_
    exact h g.objs.size c' _ ctv H _ (I.kept fun b o e => Heap.get?_push_of_some _ (hx b o e)) ⟨ExtN.refl H, hT, fun _ z => z⟩ (Heap.get?_push_size _ rfl) ⟨I.hok.fresh hz, newF hz, hz⟩ hco
  | none =>
    refine PySem.W.kla_makeFunction (mg := X.mg) (c := cc) (P := tb) (ps := ps) (closure_ok fr) I.ok.glob (I.mod.glob.keeps I.bk) ec (B.code.keeps I.bk) onH e2 q B.gP Bb fun c' ctv g tk hx hge hlt hrec hg => ?_
    obtain ⟨c2, oc, vs, tt, r0, r1, r2, r3⟩ := hrec
    cases r0
    have big : s.heap.objs.size ≤ g.objs.size := by omega
    have nc : H c' = none := I.hok.fresh hge
    have J := inv_table (t' := tk) (more := #[rawInt pos.line, rawInt pos.col, .ref c']) (h' := g.push (PySem.W.kla_obj "<lambda>" (lamN X) params body scope (cloFrom X.env.cells scope.names []) ((X.mg "__name__").getD .none) c' ctv)) I e1
      (fun b o hb e => Heap.get?_push_of_some _ (hx b o hb e)) (Heap.get?_push_of_some _ hg) hge ⟨oc, vs, tt, Heap.get?_push_of_some _ r1, r2, r3⟩
    have keep : ExtN H (upd (upd H tb (.tbl (ps ++ #[rawInt pos.line, rawInt pos.col, .ref c']))) c' (CodeO c' (lamN X))) := fun b o e nt => by
      have h1 : b ≠ tb := fun z => nt ps (Option.some.inj (e.symm.trans (z ▸ e1)))
      rw [upd_ne (ne_of_none e nc), upd_ne h1]; exact e
    have app : (ps ++ #[rawInt pos.line, rawInt pos.col, .ref c']).toList = ps.toList ++ [rawInt pos.line, rawInt pos.col, .ref c'] := by simp
    refine h g.objs.size c' _ ctv _ _ J ⟨keep, fun p hp => ?_, fun b z => none_upd (none_upd z)⟩ (Heap.get?_push_size _ rfl) ⟨?_, newF big, big⟩ upd_same
    · by_cases hb : p.1 = tb
      · rw [uT p hp hb, hb]
        refine ⟨_, by rw [upd_ne (ne_of_none e1 nc)]; exact upd_same, by rw [app]; exact PySem.TriplesOk_snoc _ _ _ _ e2, fun pp cv z => ?_⟩
        rw [app] at z
        rcases among_app _ e2 z with z | z
        · obtain ⟨c0, f1, f2⟩ := e3 pp cv z
          exact ⟨c0, f1, keep _ _ f2 codeO_ne⟩
        · exact ⟨c', z, upd_same⟩
      · obtain ⟨qs, f1, f2, f3⟩ := hT p hp
        refine ⟨qs, by rw [upd_ne (ne_of_none f1 nc), upd_ne hb]; exact f1, f2, fun pp cv z => ?_⟩
        obtain ⟨c0, f4, f5⟩ := f3 pp cv z
        exact ⟨c0, f4, keep _ _ f5 codeO_ne⟩
    · have h1 := Heap.lt_size onH
      have n1 : g.objs.size ≠ c' := by omega
      have n2 : g.objs.size ≠ tb := Nat.ne_of_gt (Nat.lt_of_lt_of_le h1 big)
      rw [upd_ne n1, upd_ne n2]
      exact I.hok.fresh big

end
/-- a lambda is made -/
def tLamMk (X : Cx) (params : Arguments) (body : Expr) (scope : Scope) : TE := fun σ H Q => Tabs TabInfo.T H ∧ ∀ (f c' : Addr) (H1 : Hp), (ExtN H H1 ∧ Tabs TabInfo.T H1 ∧ ∀ b, H1 b = none → H b = none) → H f = none → H1 f = some (LamO f (lfOf X params body scope c')) → H1 c' = some (CodeO c' (lamN X)) → Q (.ref f) H1
theorem pe_lam {X : Cx} {cc tb : Addr} {params : Arguments} {body : Expr} {scope : Scope} {pos : Pos} (B : TabB X.base X.mg cc tb) (ec : X.env.code = .ref cc) (mT : (tb, lamN X) ∈ TabInfo.T) (uT : ∀ p ∈ TabInfo.T, p.1 = tb → p.2 = lamN X) (nd : defaultsOf params X.env = ([], []))
    (fr : X.Ok → ∀ y ∈ scope.names, y.2 = .free → ∃ c, X.env.cells.lookup y.1 = some c) : PE X (.Lambda params body scope pos) (tLamMk X params body scope) := by
  refine ⟨fun pins s σ H Q I ⟨hT, h⟩ => ?_⟩
  refine lam_mk I B ec mT uT hT nd (fr I.ok) fun f c' pm ctv H1 t J ⟨e1, e2, e3⟩ of1 ⟨nf, nfr, big⟩ oc => ?_
  have lt : ∀ {b : Addr}, b < s.heap.objs.size → b ≠ f := fun {b} h z => Nat.lt_irrefl _ (Nat.lt_of_lt_of_le (z ▸ h) big)
  have K : Inv X pins σ (upd H1 f (LamO f (lfOf X params body scope c'))) t := by
    refine inv_track J nf (fun o q => ?_) (Ne.symm (lt I.lt)) (fun x c e => ?_) (fun p hp => ?_) ⟨⟨pm, ctv, of1⟩, ⟨_, of1⟩, fun _ _ ⟨p, c, z⟩ k => ⟨p, c, k _ z⟩⟩
    · exact absurd rfl (lt (Nat.lt_of_lt_of_le (Heap.lt_size q) I.sz))
    · obtain ⟨v, o, q, _⟩ := I.cell x c e
      exact lt (Heap.lt_size q)
    · exact lt (Heap.lt_size (I.pin p hp).1)
  have ex : ∀ b o, H1 b = some o → upd H1 f (LamO f (lfOf X params body scope c')) b = some o := ext_upd nf
  refine ⟨.ref f, _, K, rfl, h f c' _ ⟨fun b o q nt => ex _ _ (e1 b o q nt), e2.ext ex, fun b q => e3 b (none_upd q)⟩ (e3 f nf) upd_same (ex _ _ oc)⟩
/-- the lambda's body begins: X, the context that made it, stands as I says; the frames fs may have slots of their own since -/
theorem lam_begin {X : Cx} {pins : List (Addr × Obj)} {σ : L2.St} {H HZ : Hp} {s s1 : Shared} {fs : List Addr} {A : Around} {outer : List Env} {E : XK} {scope : Scope} {f c' : Addr} {g1 : Heap} {tk : Nat} (I : Inv X pins σ H s) (L : LamS X.env.scope scope)
    (e0 : Env0 X.prog X.w X.K X.mg X.base A outer s1 HZ) (hd : A.handled = none) (un : Un fs [] H HZ s.heap s1.heap) (hns : g1.Ns s1.heap.objs.size fun y => ([] : List (Str × Value)).reverse.lookup y) (kp : ∀ b o, s1.heap.get? b = some o → g1.get? b = some o) :
    Inv (lamCx X A outer s1 HZ E scope f c') [] σ HZ { s1 with heap := g1, toks := tk } := by
  have capt := L.has I.ok
  have fromX : ∀ {y c}, (cloFrom X.env.cells scope.names []).lookup y = some c → X.env.cells.lookup y = some c := fun {y c} e => by
    rcases cloFrom_mem (PySem.mem_of_lookup e) with hm | ⟨h1, h2⟩
    · cases hm
    · obtain ⟨c1, hc⟩ := capt _ h1 rfl
      have hc : X.env.cells.lookup y = some c1 := hc
      have : c = c1 := by rw [h2, hc] <;> rfl
      rw [this]; exact hc
  have inLam : ∀ {y}, scope.names.lookup y = some .free → ∃ c, (cloFrom X.env.cells scope.names []).lookup y = some c := fun {y} hl =>
    mem_lookup (cloFrom_has (cells := X.env.cells) (acc := []) (PySem.mem_of_lookup hl))
  have stays : ∀ {c : Addr} {v : Option Value}, H c = none → s.heap.IsCell c v → g1.IsCell c v := fun {c v} n ⟨o, ho, hdat⟩ => by
    obtain ⟨sl, q⟩ := un.any ho n (by simp)
    exact ⟨_, kp _ _ q, hdat⟩
  have noEx : ∀ b : Addr, b ∉ (lamCx X A outer s1 HZ E scope f c').ex := fun b z => absurd (show b ∈ ([] : List Addr) from z) (by simp)
  refine ⟨⟨e0.mod, L.kind, rfl, rfl, Nat.le_refl _, fun y z c e1 e2 => I.ok.inj y z c (fromX e1) (fromX e2), fun y hy => ?_, fun y c z _ => ?_, fun _ => hd, Around.frames_deeper e0.frames, .inr ⟨rfl, rfl⟩, fun b z => absurd z (noEx b), e0.bs, e0.bsz, fun b _ _ => noEx b,
      fun b z => absurd z (noEx b), e0.funs, e0.frf⟩, rfl, e0.bare, Un.kept kp, ⟨_, hns, fun i y v e1 e2 e3 => ?_⟩, fun y c e => ?_, e0.hok.fresh (Nat.le_refl _), fun y c e => ?_, fun q hq => absurd (show q ∈ ([] : List (Addr × Obj)) ++ [] from hq) (by simp), e0.hok.kept kp, I.len⟩
  · rcases (hy : scope.names.lookup y = some .cell ∨ scope.names.lookup y = some .free) with hy | hy
    · exact absurd rfl (L.own _ (PySem.mem_of_lookup hy)).2
    · exact inLam hy
  · cases (show false = true from z)
  · rcases (e3 : Vis scope y) with k | k | k
    · exact absurd rfl (L.own _ (PySem.mem_of_lookup k)).1
    · exact absurd rfl (L.own _ (PySem.mem_of_lookup k)).2
    · obtain ⟨m, hn, hl⟩ := I.loc
      have vis : Vis X.env.scope y := (L.free _ (PySem.mem_of_lookup k) rfl).elim (fun k => .inr (.inl k)) (fun k => .inr (.inr k))
      obtain ⟨w', r, q⟩ := hl i y v e1 e2 vis
      obtain ⟨c2, h2⟩ := inLam k
      refine ⟨w', r, .inr ⟨.inr k, c2, h2, ?_⟩⟩
      have c1 := fromX h2
      rcases q with ⟨k', _⟩ | ⟨_, c3, e', z⟩
      · have k' : X.env.scope.names.lookup y = some .local := k'
        rcases L.free _ (PySem.mem_of_lookup k) rfl with k2 | k2 <;> rw [show X.env.scope.names.lookup y = _ from k2] at k' <;> cases k'
      · rw [c1] at e'
        cases e'
        exact stays (I.freeC y _ c1) z
  · obtain ⟨w', z⟩ := I.cell y c (fromX e)
    exact ⟨w', stays (I.freeC y c (fromX e)) z⟩
  · obtain ⟨v, o, ho, _⟩ := I.cell y c (fromX e)
    exact un.free c o ho (I.freeC y c (fromX e)) (by simp)
/-- x() in a def that got the lambda F, which was made in the context X; Z is that def's context, entered where I stands -/
theorem pe_actX {X : Cx} {pins : List (Addr × Obj)} {σ : L2.St} {H : Hp} {s : Shared} {CXg : CXT} {Eg : XK} {Ng : List Str} {qg : Str} {sg : Scope} {g f c' : Addr} {cdg : Value} {params : Arguments} {body : Expr} {scope : Scope} {k i : Nat} {a : Str} {pn : List (Addr × Obj)} {xe : Value → Shared → Prop} {W : WX} {tb : XK → TE} {p1 p2 : Pos} {A0 : Around} {stk : List Env}
    (I : Inv X pins σ H s) (L : LamS X.env.scope scope)
    (hb : ∀ pm ctv : Value, bindArgs (PySem.W.kla_fn "<lambda>" (lamN X) params body scope (cloFrom X.env.cells scope.names []) pm (.ref c') ctv) ⟨[], []⟩ = pure []) (tk : Takes ((cxOf CXg X.prog X.w X.K X.mg X.base Ng qg sg g cdg A0 stk s H Eg).tr pn xe) W)
    (hr : Room (k + 1) (A0.deeper (envOfC qg sg s.heap.objs.size g cdg))) (hg : A0.guards = some [])
    (run : ∀ (A : Around) (outer : List Env) (s : Shared) (H : Hp) (E : XK), A.guards = some [] → Room k (A.deeper (lamEnv X scope s.heap.objs.size f c')) → PE (lamCx X A outer s H E scope f c') body (tb E))
    (hN : Ng[i]? = some a) (hv : Vis sg a) (hd : (a == ("__debug__" : Str)) = false) (hcd : (a == ("__classdict__" : Str)) = false) :
    PE ((cxOf CXg X.prog X.w X.K X.mg X.base Ng qg sg g cdg A0 stk s H Eg).tr pn xe) (.Call (.Name a p1) [] [] p2)
      (fun σZ HZ Q => ∃ E : XK, (∀ cls d H', E cls d H' → W cls d σZ H') ∧ σZ[i]? = some (some (.ref f)) ∧ HZ f = some (LamO f (lfOf X params body scope c')) ∧ HZ c' = some (CodeO c' (lamN X)) ∧ tb E σ HZ Q) := by
  refine ⟨fun pZ sZ σZ HZ Q J ⟨E, hW, h1, h0, h2, h3⟩ => ?_⟩
  refine wpAny_Call_Name_kw (thn ((pe_var (pos := p1) (i := i) hN hv hd hcd).run pZ sZ σZ HZ (fun v K1 => v = .ref f ∧ K1 = HZ) J ⟨.ref f, h1, rfl, rfl⟩) fun u t ⟨v, K1, J1, r1, ev, eH⟩ => ?_)
  subst ev eH
  obtain rfl : u = Value.ref f := r1
  obtain ⟨pm, ctv, of1⟩ := lamO_at J1.hok h0
  obtain ⟨⟨oc, vs, tt, q1, q2, q3⟩, -, -⟩ := J1.hok c' _ h2
  refine PySem.W.callWith_F0 ⟨_, _, _, _, of1⟩ ?_
  generalize hA : A0.deeper (envOfC qg sg s.heap.objs.size g cdg) = A1 at hr
  have gA : A1.guards = some [] := by rw [← hA]; exact hg
  have act : codeAny (model X.prog X.w) A1 (.call (.ref f) ⟨[], []⟩) (CR (L2.CX X.prog X.w) (envOfC qg sg s.heap.objs.size g cdg   :: stk) X.prog X.w K1 t Q E) t := by
    refine PySem.W.kla_callFunE hr.depth of1 rfl L.co L.gen rfl ⟨c', oc, vs, tt, rfl, q1, q2, q3⟩ ?_
    rw [hb]
    refine wpAny_pure (wpAny_newFunctionEnv (fun y hy => (L.own y hy).2) (fun y hy => absurd hy List.not_mem_nil) (fun h₁ hn sb => ⟨J1.nolimit.fresh _ sb, ?_⟩) L.kind)
    have kp : ∀ b o, t.heap.get? b = some o → h₁.get? b = some o := fun b o e => sb.extBut b o (Nat.ne_of_lt (Heap.lt_size e)) (Heap.get?_push_of_some _ e)
    have un : Un (frs stk) [] H K1 s.heap t.heap := J1.base
    have J2 : Inv (lamCx X A1 (envOfC qg sg s.heap.objs.size g cdg   :: stk) t K1 E scope f c') [] σ K1 { t with heap := h₁, toks := t.toks + ([] : List (Str × Value)).length } := by
      have e0 := J1.env0
      have hd0 := hr.hd
      rw [← hA] at hd0 ⊢
      exact lam_begin I L e0 hd0 un hn kp
    refine PySem.W.kla_codeExpr (wpAny_mono ((run A1 _ t K1 E gA (hr.deeper _)).run [] _ _ K1 Q J2 h3) (fun v t2 ⟨w2, K2, J3, rv, q⟩ => ⟨w2, K2, J3.os, J3.bare, J3.base, J3.hok, rv, q⟩) fun e t2 hq => hq)
  subst hA
  refine wpAny_call (codeAny_mono act fun r t2 hq => ?_)
  match r, hq with
  | .error e, hq => exact tk e t2 (XE.of_call J1 (fun cls d H' h => hW cls d H' h) hq)
  | .ok (.ret u), hq => exact J1.after hq
  | .ok .next, hq => exact hq.elim
  | .ok .brk, hq => exact hq.elim
  | .ok .cont, hq => exact hq.elim
/-- nothing is raised -/
abbrev noX : XK := fun _ _ _ => False
/-- what is heard of an exception: its object and None, in a tuple -/
def wHeard (K : PySem.W.Frag) (CP : Addr) (Q : VK) : XK := fun cls d H2 => PySem.W.exmOne K cls (.ref CP) = some true ∧ ∀ a, H2 a = none → ∀ p2, upd H2 a (exoX cls d a) p2 = none → Q (.ref p2) (upd (upd H2 a (exoX cls d a)) p2 (.tup [.ref a, .non]))
/-- the reading of what the def that hears comes to, when it has got the lambda: a tuple of two None is made, the lambda's body is walked, a tuple is made -/
def tHear (K : PySem.W.Frag) (CP : Addr) (tb : XK → TE) : TE := fun σ H Q => ∀ p, H p = none → tb (wHeard K CP Q) σ (upd H p (.tup [.non, .non])) fun v H2 => ∀ p2, H2 p2 = none → Q (.ref p2) (upd H2 p2 (.tup [.non, v]))
section
variable {K : PySem.W.Frag} {mg : Str → Option Value} {W W0 : WX} {P P' P1 P2 : Addr → Prop} {H H' H1 H0 H2 : Hp} {σ σ' σ1 : L2.St} {E E' E1 E0 : SE} {Q : VK}
theorem Good.extN (g : Good K P H σ E) (e : ExtN H H1) (t : Tabs TabInfo.T H1) (n : ∀ b, H1 b = Option.none → H b = Option.none) : Good K P H1 σ E where
  len := g.len
  dom := fun a p => by
    obtain ⟨o, eo⟩ := g.dom a p
    cases q : H1 a with
    | none => rw [n a q] at eo; cases eo
    | some u => exact ⟨u, rfl⟩
  val := fun i d e1 => let ⟨v, e2, r⟩ := g.val i d e1; ⟨v, e2, r.keep fun a o ea na _ => e a o ea na⟩
  own := fun i d e1 => let ⟨v, e2, r⟩ := g.own i d e1; ⟨v, e2, r.keep fun a o ea na _ => e a o ea na⟩
  dis := g.dis
  inj := g.inj
  tab := t
theorem Lnk.extN (e : ExtN H H1) (n : ∀ b, H1 b = Option.none → H b = Option.none) : Lnk P σ E H P σ E H1 := ⟨fun a o ea na _ => e a o ea na, fun _ h => .inl h, fun _ h => .inl h, n⟩
theorem te_hear {m : M Sl} {CP : Addr} (hcp : ∀ C c, TabInfo.exc C = some c → PySem.W.exmOne K (.ref c) (.ref CP) = some true) (h : TEof K mg W (heardS m) σ H Q) : tHear K CP (fun E => TEof K mg (fun c d _ H => E c d H) m) σ H Q := by
  obtain ⟨P, E, g, h⟩ := h
  intro p hp
  have g1 := g.ext (ext_upd (o := .tup [.non, .non]) hp)
  have l1 : Lnk P σ E H P σ E (upd H p (.tup [.non, .non])) := Lnk.ext (ext_upd hp)
  refine ⟨P, E, g1, ?_⟩
  unfold heardS at h
  cases e : m E with
  | bad => rw [e] at h; exact h.elim
  | exc C x E1 =>
    rw [e] at h
    intro H2 cls d g2 l2 ⟨c, b, v, c1, c2, c3, c4, c5⟩
    subst c2 c3
    refine ⟨hcp _ _ c1, fun a ha p2 hp2 => ?_⟩
    have ex1 := ext_upd (o := exoX (.ref c) (some b) a) ha
    have ex2 := ext_upd (o := .tup [.ref a, .non]) hp2
    have ex : ∀ q u, H2 q = some u → _ := fun q u z => ex2 q u (ex1 q u z)
    refine h (.ref p2) _ ((g2.ext ex).less fun a z => z.elim id False.elim) (((l1.trans l2).trans (Lnk.ext ex)).less fun a z => z.elim id False.elim) ?_ fun a z => z.elim
    have r1 : RepB K (upd (upd H2 a (exoX (.ref c) (some b) a)) p2 (.tup [.ref a, .non])) (Fz P σ E1) (.ref a) (.exc C x) := by
      obtain ⟨S, s1, s2⟩ := c5.keep (Kp.of ex)
      exact ⟨S, .exc c1 (ex2 _ _ upd_same) (ex _ _ c4) s1, s2⟩
    have rt : RepB K (upd (upd H2 a (exoX (.ref c) (some b) a)) p2 (.tup [.ref a, .non])) (Fz P σ E1) (.ref p2) (.tup [.exc C x, .non]) := RepB.tup (SqT.of upd_same) (.cons r1 (.cons .non .nil))
    exact rt.mono fun a z => ⟨fun q => z.1 (q.elim id False.elim), z.2⟩
  | ok s E1 =>
    rw [e] at h
    intro v H2 g2 l2 r2 n2 p2 hp2
    have rv : RepB K H2 (Fz P σ E1) v s.d := r2.frz0 g2 n2
    have hq : ∀ a, Pl P (.ref p2) (.val (.tup [.non, s.d])) a → Pl P v s a := fun a z => z.elim .inl False.elim
    have ex := ext_upd (o := .tup [.non, v]) hp2
    refine h (.ref p2) _ ((g2.ext ex).less hq) (((l1.trans l2).trans (Lnk.ext ex)).less hq) ?_ fun a z => z.elim
    have rt : RepB K (upd H2 p2 (.tup [.non, v])) (Fz P σ E1) (.ref p2) (.tup [.non, s.d]) := RepB.tup (SqT.of upd_same) (.cons .non (.cons (rv.keep (Kp.of ex)) .nil))
    exact rt.mono fun a z => ⟨fun q => z.1 (q.elim id False.elim), z.2⟩
end
/-- the rule of _law_heard, in the context X -/
def noPar (a : Arguments) : Bool := a.posonlyargs.isEmpty && a.args.isEmpty && a.vararg.isNone && a.kwonlyargs.isEmpty && a.kw_defaults.isEmpty && a.kwarg.isNone && a.defaults.isEmpty
def hdN : Str := "_law_heard"
end Lw
end

section
set_option Elab.async false
set_option linter.all false
set_option maxRecDepth 100000
set_option maxHeartbeats 4000000
/-! LI: the def that hears -/
namespace Lw
open PySem PySem.Spec PyProof.Rows L2 LamX
variable [TabInfo]
def hdNs : List Str := ["call", "caught", "back", "error"]
def HdBody (bg : List Stmt) : Prop := ∃ (p1 p2 p3 p4 p5 p6 p7 p8 p9 p10 p11 p12 p13 p14 p15 p16 p17 p18 p19 p20 p21 : Pos) (k1 k2 k3 k4 k5 : Nat),
  bg = [.Assign [.Tuple [.Name "caught" p1, .Name "back" p2] k1 p3] (.Tuple [.Constant .none k2 p4, .Constant .none k3 p5] k4 p6) p7,
    .Try [.Assign [.Name "back" p8] (.Call (.Name "call" p9) [] [] p10) p11] [.ExceptHandler (some (.Name "PassError" p17)) (some "error") [.Assign [.Name "caught" p18] (.Name "error" p19) p20] p21] [] [] p12,
    .Return (some (.Tuple [.Name "caught" p13, .Name "back" p14] k5 p15)) p16]
/-- what is known of _law_heard -/
structure HdK (K : PySem.W.Frag) (mg : Str → Option Value) (CP : Addr) : Prop where
  ex : ∃ (g : Addr) (fd : FuncData) (pg : Arguments) (bg : List Stmt) (sg : Scope) (kws : List (Str × V)), mg hdN = some (.ref g) ∧ FunD K hdN hdN pg bg sg [] kws g fd ∧ C8.scC hdNs ["call"] sg = true ∧ (∀ x ∈ hdNs, sg.names.lookup x = some .local) ∧ sg.names.lookup ("PassError" : Str) = some .globalImplicit ∧ HdBody bg ∧
    ∀ (s : Shared) (u : Value), BindsTo s fd ⟨[u], []⟩ [("call", u)]
  cp : mg "PassError" = some (.ref CP)
/-- .. and of the def of the name qual, whose code is cdv, which makes lambdas -/
structure HdF (K : PySem.W.Frag) (mg : Str → Option Value) (base : Heap) (qual : Str) (cdv : Value) : Prop where
  ex : ∃ CP : Addr, HdK K mg CP ∧ (∃ (cc tb : Addr), cdv = .ref cc ∧ TabB base mg cc tb ∧ (tb, qual ++ ".<locals>." ++ "<lambda>") ∈ TabInfo.T ∧ ∀ p ∈ TabInfo.T, p.1 = tb → p.2 = qual ++ ".<locals>." ++ "<lambda>") ∧ ∀ C c, TabInfo.exc C = some c → PySem.W.exmOne K (.ref c) (.ref CP) = some true
theorem noPar_dflt {a : Arguments} {env : PySem.Env} (h : noPar a = true) : defaultsOf a env = ([], []) ∧ ∀ (q : Str) (bd : Expr) (sc : Scope) (cl : List (Str × Addr)) (pm cv ctv : Value), bindArgs (PySem.W.kla_fn "<lambda>" q a bd sc cl pm cv ctv) ⟨[], []⟩ = pure [] := by
  obtain ⟨po, ar, va, ko, kd, kw, df⟩ := a
  simp only [noPar, Bool.and_eq_true, List.isEmpty_iff, Option.isNone_iff_eq_none] at h
  obtain ⟨⟨⟨⟨⟨⟨rfl, rfl⟩, rfl⟩, rfl⟩, rfl⟩, rfl⟩, rfl⟩ := h
  exact ⟨rfl, fun _ _ _ _ _ _ _ => rfl⟩

/-- _law_heard, called with a lambda that was made in the context X -/
theorem hear_run {X : Cx} {pins : List (Addr × Obj)} {σ : L2.St} {H : Hp} {s : Shared} {CP g f c' : Addr} {fd : FuncData} {pg : Arguments} {bg : List Stmt} {sg : Scope} {kws : List (Str × V)} {params : Arguments} {body : Expr} {scope : Scope} {k : Nat} {tb : XK → TE} {Q : VK} {A0 : Around} {stk : List Env}
    (D : FunD X.K hdN hdN pg bg sg [] kws g fd) (hsc : C8.scC hdNs ["call"] sg = true) (hloc : ∀ x ∈ hdNs, sg.names.lookup x = some .local) (hpe : sg.names.lookup ("PassError" : Str) = some .globalImplicit) (hbody : HdBody bg) (hbind : ∀ (s : Shared) (u : Value), BindsTo s fd ⟨[u], []⟩ [("call", u)])
    (hcp : X.mg "PassError" = some (.ref CP)) (I : Inv X pins σ H s) (e0 : Env0 X.prog X.w X.K X.mg X.base A0 stk s H) (L : LamS X.env.scope scope) (hnp : noPar params = true) (hr : Room (k + 2) A0) (hg : A0.guards = some [])
    (mono : ∀ (E E' : XK) σ H (Q Q' : VK), (∀ c d H, E c d H → E' c d H) → (∀ v H, Q v H → Q' v H) → tb E σ H Q → tb E' σ H Q')
    (run : ∀ (A : Around) (outer : List Env) (s : Shared) (H : Hp) (E : XK), A.guards = some [] → Room k (A.deeper (lamEnv X scope s.heap.objs.size f c')) → PE (lamCx X A outer s H E scope f c') body (tb E))
    (hf : H f = some (LamO f (lfOf X params body scope c'))) (hc : H c' = some (CodeO c' (lamN X))) (h : tHear X.K CP tb σ H Q) :
    codeAny (model X.prog X.w) A0 (.call (.ref g) ⟨[.ref f], []⟩) (CR (L2.CX X.prog X.w) stk X.prog X.w H s Q noX) s := by
  obtain ⟨oc, od, dV, kV, doc, pm, an, cdg, ct, osl, rfl, lk, hcd, _, _⟩ := D.ex
  have S : FnScope hdNs ["call"] sg := C8.fnScope_by hsc
  obtain ⟨p1, p2, p3, p4, p5, p6, p7, p8, p9, p10, p11, p12, p13, p14, p15, p16, p17, p18, p19, p20, p21, k1, k2, k3, k4, k5, rfl⟩ := hbody
  obtain ⟨nd, nb⟩ := noPar_dflt (env := X.env) hnp
  refine run_ofS (N := hdNs) (ps := ["call"]) (us := [.ref f]) (vs := [.ref f]) lk hcd S hr e0 (hbind s (.ref f)) (.cons rfl .nil) rfl fun hr1 => ?_
  have ZN : (cxOf (L2.CX X.prog X.w) X.prog X.w X.K X.mg X.base hdNs hdN sg g cdg A0 stk s H noX).N = hdNs := rfl
  have act := fun (W : WX) (pn : List (Addr × Obj)) (xe : Value → Shared → Prop) tk => pe_actX (CXg := L2.CX X.prog X.w) (Eg := noX) (Ng := hdNs) (qg := hdN) (sg := sg) (g := g) (cdg := cdg) (i := 0) (a := "call") (p1 := p9) (p2 := p10) (k := k) (W := W) (pn := pn) (xe := xe) (pins := pins) (σ := σ) (f := f) (c' := c') (body := body) (scope := scope) (params := params) (tb := tb) (A0 := A0) (stk := stk) I L (fun pm ctv => nb _ _ _ _ _ _ _) tk hr1 hg run rfl (.inl (hloc _ (by simp [hdNs]))) (by decide +kernel) (by decide +kernel)
  generalize hZ : cxOf (L2.CX X.prog X.w) X.prog X.w X.K X.mg X.base hdNs hdN sg g cdg A0 stk s H noX = Z at ZN act
  have Zs : Z.env.scope = sg := by rw [← hZ]; rfl
  have Zc : Z.calm = true := by rw [← hZ]; rfl
  have Zf : ∀ x, Z.fn x = true := fun x => by rw [← hZ]; rfl
  have ZK : Z.K = X.K := by rw [← hZ]; rfl
  have loc : ∀ {x : Str}, x ∈ hdNs → L2.Loc Z.env.scope x := fun {x} hx => .inl (by rw [Zs]; exact hloc x hx)
  have vis : ∀ {x : Str}, x ∈ hdNs → Vis Z.env.scope x := fun {x} hx => .inl (by rw [Zs]; exact hloc x hx)
  have n0 : Z.N[0]? = some ("call" : Str) := by rw [ZN]; rfl
  have n1 : Z.N[1]? = some ("caught" : Str) := by rw [ZN]; rfl
  have n2 : Z.N[2]? = some ("back" : Str) := by rw [ZN]; rfl
  have n3 : Z.N[3]? = some ("error" : Str) := by rw [ZN]; rfl
  have znd : Z.N.Nodup := by rw [ZN]; exact S.nd
  have m1 : ("caught" : Str) ∈ hdNs := by simp [hdNs]
  have m2 : ("back" : Str) ∈ hdNs := by simp [hdNs]
  have m3 : ("error" : Str) ∈ hdNs := by simp [hdNs]
  have hsw : swappedStores [.Tuple [.Name "caught" p1, .Name "back" p2] k1 p3] (.Tuple [.Constant .none k2 p4, .Constant .none k3 p5] k4 p6) Z.env = pure none := by
    unfold swappedStores
    dsimp only
    split
    · rfl
    · split
      · rfl
      · split
        · rfl
        · split
          · rfl
          · rename_i h4
            exact absurd (by rfl) h4
  have st1 := ps_asg (X := Z) (pos := p7) (pe_tup (x1 := k4) (pos := p6) (pa_cons (pe_non (j := k2) (pos := p4)) (pa_cons (pe_non (j := k3) (pos := p5)) pa_nil))) (pg_tup (k := k1) (pos := p3) Zc (pgs_cons (pg_name (pos := p1) znd n1 (loc m1) (.inl (Zf _))) (pgs_cons (pg_name (pos := p2) znd n2 (loc m2) (.inl (Zf _))) pgs_nil))) (by rfl) hsw (by rfl)
  have st2 := ps_try_keep (X := Z) (x := "PassError") (n := "error") (cv := .ref CP) (i := 3) (np := p17) (pos := p12) (pos' := p21) (Wout := fun _ _ _ _ => False)
    (body := [.Assign [.Name "back" p8] (.Call (.Name "call" p9) [] [] p10) p11]) (b0 := .Assign [.Name "caught" p18] (.Name "error" p19) p20) (suite := [])
    (tb := fun W => tAsg (fun σZ HZ Q => ∃ E : XK, (∀ cls d H', E cls d H' → W cls d σZ H') ∧ σZ[0]? = some (some (.ref f)) ∧ HZ f = some (LamO f (lfOf X params body scope c')) ∧ HZ c' = some (CodeO c' (lamN X)) ∧ tb E σ HZ Q) (gName 2))
    (ts := fun _ => tAsg (tVar 3) (gName 1))
    (by rw [← hZ]; rfl) (by rw [← hZ]; rfl) (by rw [← hZ]; rfl) znd n3 (by show Z.env.scope.names.lookup _ = _; rw [Zs]; exact hloc _ m3) ⟨by show Z.env.scope.names.lookup _ = _; rw [Zs]; exact hpe, by decide +kernel, .inl (by rw [← hZ]; exact hcp)⟩ L2.takes0
    (fun W pn xe tk _ => pss_one (ps_set (X := Z.tr pn xe) (pos := p11) (pos' := p8) znd n2 (loc m2) (act W pn xe tk) (by rfl) (.inl (Zf _))))
    (fun a oe pn => pss_one (ps_set (X := Z.suite a ((a, oe) :: pn)) (pos := p20) (pos' := p18) znd n1 (loc m1) (pe_var (pos := p19) n3 (vis m3) (by decide +kernel) (by decide +kernel)) (by rfl) (.inl (Zf _))))
  have st3 := ps_ret (X := Z) (pos := p16) (pe_tup (x1 := k5) (pos := p15) (pa_cons (pe_var (pos := p13) n1 (vis m1) (by decide +kernel) (by decide +kernel)) (pa_cons (pe_var (pos := p14) n2 (vis m2) (by decide +kernel) (by decide +kernel)) pa_nil)))
  refine ⟨_, pss_cons st1 (pss_cons st2 (pss_one st3)), ?_⟩
  refine ⟨by decide +kernel, fun q hq' => ⟨q, _, rfl, SqT.of upd_same, rfl, _, _, rfl, _, _, rfl, rfl, ?_⟩⟩
  have keep := ext_upd (o := .tup [.non, .non]) hq'
  refine ⟨_, fun cls d H2 w => w, rfl, keep _ _ hf, keep _ _ hc, mono _ _ _ _ _ _ ?_ ?_ (h q hq')⟩
  · intro cls d H2 ⟨b1, b2⟩
    rw [ZK]
    refine ⟨true, b1, fun _ a ha => ?_, fun z => by cases z⟩
    exact ⟨_, rfl, ha, _, rfl, _, rfl, (by rw [sizeLine_eq]; simp : [V.ref a, V.non].length ≤ sizeLine), fun p2 hp2 => b2 a ha p2 hp2⟩
  · intro v H3 hv
    exact ⟨.non, rfl, v, rfl, (by rw [sizeLine_eq]; simp : [V.non, v].length ≤ sizeLine), fun p2 hp2 => hv p2 hp2⟩
/-- what the making and the hearing of lambdas in the context X lean on -/
structure HdX (X : Cx) (j : Nat) : Prop where
  ex : ∃ (CP cc tb : Addr), HdK X.K X.mg CP ∧ X.env.code = .ref cc ∧ TabB X.base X.mg cc tb ∧ (tb, lamN X) ∈ TabInfo.T ∧ (∀ p ∈ TabInfo.T, p.1 = tb → p.2 = lamN X) ∧ ∀ C c, TabInfo.exc C = some c → PySem.W.exmOne X.K (.ref c) (.ref CP) = some true
  room : Room (j + 2) X.A
  gd : X.A.guards = some []
section
variable {X : Cx} {j : Nat}
theorem HdX.lam (h : HdX X j) {params : Arguments} {body : Expr} {scope : Scope} {pos : Pos} (hls : lamSB X.env.scope scope = true) (hnp : noPar params = true) : PE X (.Lambda params body scope pos) (tLamMk X params body scope) := by
  obtain ⟨CP, cc, tb, k, ec, B, mT, uT, _⟩ := h.ex
  exact pe_lam B ec mT uT (noPar_dflt hnp).1 (lamS_by hls).has
/-- _law_heard(lambda: body) -/
theorem HdX.heard (h : HdX X j) {W : WX} {m : M Sl} {params : Arguments} {body : Expr} {scope : Scope} {p lpos pos : Pos} (hgl : Gl X hdN) (hls : lamSB X.env.scope scope = true) (hnp : noPar params = true)
    (run : ∀ (A : Around) (outer : List Env) (s : Shared) (H : Hp) (E : XK) (f c' : Addr), A.guards = some [] → Room j (A.deeper (lamEnv X scope s.heap.objs.size f c')) → PE (lamCx X A outer s H E scope f c') body (TEof X.K X.mg (fun c d _ H => E c d H) m)) :
    PE X (.Call (.Name hdN p) [.Lambda params body scope lpos] [] pos) (TEof X.K X.mg W (heardS m)) := by
  have pl := h.lam (body := body) (pos := lpos) hls hnp
  obtain ⟨CP, cc, tb, k, ec, B, mT, uT, hcp⟩ := h.ex
  obtain ⟨g, fd, pg, bg, sg, kws, hm, D, hsc, hloc, hpe, hbody, hbind⟩ := k.ex
  refine ⟨fun pins s σ H Q I hq => ?_⟩
  refine wpAny_Call_Name_kw (ld_glob I hgl hm ?_ (by decide +kernel))
  refine PySem.W.callWith_K (h₀ := X.base) I.ok.mod.kin D.kp ?_ (by rfl) (by rfl)
  show wpAny _ _ (spliced ((false, _) :: backTo pos (starEach [] X.env))) _ _ s
  refine Calls.spliced_cons (thn (pl.run pins s σ H (fun v H1 => ∃ f c', v = .ref f ∧ H1 f = some (LamO f (lfOf X params body scope c')) ∧ H1 c' = some (CodeO c' (lamN X)) ∧ TEof X.K X.mg W (heardS m) σ H1 Q) I ⟨?_, fun f c' H1 ⟨e1, e2, e3⟩ _ f1 f2 => ⟨f, c', rfl, f1, f2, ?_⟩⟩) fun u s1 ⟨v, H1, I1, r1, f, c', e, f1, f2, q1⟩ => ?_)
  · obtain ⟨P, E, gd, _⟩ := hq
    exact gd.tab
  · obtain ⟨P, E, gd, hq⟩ := hq
    have lk := Lnk.extN (P := P) (σ := σ) (E := E) e1 e3
    refine ⟨P, E, gd.extN e1 e2 e3, ?_⟩
    cases e : heardS m E with
    | bad => rw [e] at hq; exact hq
    | ok s E1 => rw [e] at hq; exact fun v H' g' l' => hq v H' g' (lk.trans l')
    | exc C x E1 => rw [e] at hq; exact fun H' cls d g' l' => hq H' cls d g' (lk.trans l')
  · subst e
    obtain rfl : u = Value.ref f := r1
    refine Calls.spliced_nil ⟨I1.kIn, ?_⟩
    have rc := hear_run (k := j) (tb := fun E => TEof X.K X.mg (fun c d _ H => E c d H) m) D hsc hloc hpe hbody hbind k.cp I1 I1.env0 (lamS_by hls) hnp h.room h.gd ?_ (fun A outer s H E h1 h2 => run A outer s H E f c' h1 h2) f1 f2 (te_hear (mg := X.mg) (W := W) hcp q1)
    · refine wpAny_call (codeAny_mono rc fun r s2 hq2 => ?_)
      match r, hq2 with
      | .error e, hq2 =>
        obtain ⟨_, _, _, _, _, _, _, _, _, _, _, _, z⟩ := hq2
        exact z.elim
      | .ok (.ret u), hq2 => exact I1.after hq2
      | .ok .next, hq2 => exact hq2.elim
      | .ok .brk, hq2 => exact hq2.elim
      | .ok .cont, hq2 => exact hq2.elim
    · intro E E' σ H Q Q' hE hQ ⟨P, E0, gd, q⟩
      refine ⟨P, E0, gd, ?_⟩
      cases e : m E0 with
      | bad => rw [e] at q; exact q
      | ok s E1 => rw [e] at q; exact fun v H' g' l' r' n' => hQ _ _ (q v H' g' l' r' n')
      | exc C x E1 => rw [e] at q; exact fun H' cls d g' l' x' => hE _ _ _ (q H' cls d g' l' x')
/-- a lambda of a list of lambdas: its words, what its body comes to -/
structure LInf where
  params : Arguments
  body : Expr
  scope : Scope
  m : M Sl
structure LInf.Ok (i : LInf) (X : Cx) (j : Nat) : Prop where
  ls : lamSB X.env.scope i.scope = true
  np : noPar i.params = true
  run : ∀ (A : Around) (outer : List Env) (s : Shared) (H : Hp) (E : XK) (f c' : Addr), A.guards = some [] → Room j (A.deeper (lamEnv X i.scope s.heap.objs.size f c')) → PE (lamCx X A outer s H E i.scope f c') i.body (TEof X.K X.mg (fun c d _ H => E c d H) i.m)
/-- the object at f is the lambda of i, made in the context X -/
def IsLam (X : Cx) (H : Hp) (f : Addr) (i : LInf) : Prop := ∃ c', H f = some (LamO f (lfOf X i.params i.body i.scope c')) ∧ H c' = some (CodeO c' (lamN X))
/-- the reading of _law_heard(x) in a block of the context X, which stands at the slots σ -/
def tHV (X : Cx) (infos : List LInf) (σ : L2.St) (jl : Nat) : TE := fun σb Hb Q => ∃ f i, i ∈ infos ∧ σb[jl]? = some (some (.ref f)) ∧ IsLam X Hb f i ∧ TEof X.K X.mg W0 (heardS i.m) σ Hb Q
/-- a context of the same text as X -/
abbrev _root_.L2.Cx.oth (X Y : Cx) : Cx := { Y with prog := X.prog, w := X.w, K := X.K, mg := X.mg, base := X.base }
theorem HdX.heardV (h : HdX X j) {pins : List (Addr × Obj)} {σ : L2.St} {infos : List LInf} {jl : Nat} {lk : Str} {Y : Cx} {p p1 pos : Pos} (hr : Room (j + 2) Y.A) (hgd : Y.A.guards = some []) (hi : ∀ i ∈ infos, i.Ok X j)
    (view : ∀ (pb : List (Addr × Obj)) (σb : L2.St) (Hb : Hp) (sb : Shared), Inv (X.oth Y) pb σb Hb sb → Inv X pins σ Hb sb) (hgl : Gl (X.oth Y) hdN) (hv : PE (X.oth Y) (.Name lk p1) (tVar jl)) :
    PE (X.oth Y) (.Call (.Name hdN p) [.Name lk p1] [] pos) (tHV X infos σ jl) := by
  obtain ⟨CP, cc, tb, k, ec, B, mT, uT, hcp⟩ := h.ex
  obtain ⟨g, fd, pg, bg, sg, kws, hm, D, hsc, hloc, hpe, hbody, hbind⟩ := k.ex
  refine ⟨fun pb s σb H Q J ⟨f, i, mi, sl, ⟨c', f1, f2⟩, q⟩ => ?_⟩
  refine wpAny_Call_Name_kw (ld_glob (X := X.oth Y) J hgl hm ?_ (by decide +kernel))
  refine PySem.W.callWith_K (h₀ := X.base) J.ok.mod.kin D.kp ?_ (by rfl) (by rfl)
  show wpAny _ _ (spliced ((false, _) :: backTo pos (starEach [] Y.env))) _ _ s
  refine Calls.spliced_cons (thn (hv.run pb s σb H (fun v H1 => v = .ref f ∧ H1 = H) J ⟨.ref f, sl, rfl, rfl⟩) fun u s1 ⟨v, H1, J1, r1, e1, e2⟩ => ?_)
  subst e1 e2
  obtain rfl : u = Value.ref f := r1
  refine Calls.spliced_nil ⟨J1.kIn, ?_⟩
  have ok := hi i mi
  have I1 := view pb σb H1 s1 J1
  have rc := hear_run (k := j) (tb := fun E => TEof X.K X.mg (fun c d _ H => E c d H) i.m) D hsc hloc hpe hbody hbind k.cp I1 J1.env0 (lamS_by ok.ls) ok.np hr hgd ?_ (fun A outer s H E h1 h2 => ok.run A outer s H E f c' h1 h2) f1 f2 (te_hear (mg := X.mg) (W := W0) hcp q)
  · refine wpAny_call (codeAny_mono rc fun r s2 hq2 => ?_)
    match r, hq2 with
    | .error e, hq2 =>
      obtain ⟨_, _, _, _, _, _, _, _, _, _, _, _, z⟩ := hq2
      exact z.elim
    | .ok (.ret u), hq2 => exact J1.after hq2
    | .ok .next, hq2 => exact hq2.elim
    | .ok .brk, hq2 => exact hq2.elim
    | .ok .cont, hq2 => exact hq2.elim
  · intro E E' σ H Q Q' hE hQ ⟨P, E0, gd, q⟩
    refine ⟨P, E0, gd, ?_⟩
    cases e : i.m E0 with
    | bad => rw [e] at q; exact q
    | ok s E1 => rw [e] at q; exact fun v H' g' l' r' n' => hQ _ _ (q v H' g' l' r' n')
    | exc C x E1 => rw [e] at q; exact fun H' cls d g' l' x' => hE _ _ _ (q H' cls d g' l' x')
end
end Lw
end

section
set_option Elab.async false
set_option linter.all false
set_option maxRecDepth 100000
set_option maxHeartbeats 4000000
/-! LV: a comprehension's block that sees the def's state around it (turned from the hand layer's rule of comprehensions) -/
namespace Lw
open PySem PySem.Spec PyProof.Rows L2
section
variable {X : Cx}
theorem lc_view {pins : List (Addr × Obj)} {s : Shared} {σ : L2.St} {H : Hp} {Q : VK} {elt tg iter : Expr} {ifs : List Expr} {scope : Scope} {own : List (Str × Nat)} {pos pos' : Pos} {wi : TI} {g : TG} {tt : TT} {te : TE} {use : Option (Value → Sem Unit)} {Qf : Value → Shared → Prop}
    (hc : X.calm = true) (hN : X.N.Nodup) (I : Inv X pins σ H s) (hi : PI X tg iter wi) (ok : BlkOk X.N X.env.scope scope own)
    (hg : ∀ (s : Shared) (H : Hp) (C : Addr) (cl : List (Str × Addr)) (fps : List Addr), PG (X.blk s H scope (compEnvC scope cl C X.env) fps) tg g) (ht : ∀ (s : Shared) (H : Hp) (C : Addr) (cl : List (Str × Addr)) (fps : List Addr), PTs (X.blk s H scope (compEnvC scope cl C X.env) fps) ifs tt)
    (he : ∀ (s : Shared) (H : Hp) (C : Addr) (cl : List (Str × Addr)) (fps : List Addr), (∀ (pb : List (Addr × Obj)) (σb : L2.St) (Hb : Hp) (sb : Shared), Inv (X.blk s H scope (compEnvC scope cl C X.env) fps) pb σb Hb sb → Inv X pins σ Hb sb) → PE (X.blk s H scope (compEnvC scope cl C X.env) fps) elt te) (hs : ∀ x, foldedSetIterable iter X.env x = pure x)
    (h : tLc wi g tt te (own.map (·.2)) σ H Q)
    (hEnd : ∀ Dl C s' m H', Inv X pins σ H' s' → Q (.ref Dl) H' → s'.heap.Ns C m → FpOk X pins H' C → compPost (model X.prog X.w) X.A X.xe use Qf (.ref Dl) C (.ok .next) s') :
    wpAny (model X.prog X.w) X.A (comprehension (.ListComp elt [⟨tg, iter, ifs, 0⟩] scope pos) scope X.env pos' (newList []) false (eval iter X.env) use) Qf X.xe s := by
  have capt : ∀ y ∈ scope.names, y.2 = .free → ∃ c, X.env.cells.lookup y.1 = some c := fun y hy e => by
    rcases ok.free y hy e with k | k
    · exact I.ok.has _ (.inl k)
    · exact I.ok.has _ (.inr k)
  refine wpAny_comprehension_free (use := use) rfl hs (closure_ok capt) ok.kind (fun y hy e => by rw [ok.uniq y hy, e])
    (thn (hi.run pins s σ H _ I h) fun xV t1 hhx => thn hhx fun itV t2 hh2 => ?_)
  obtain ⟨it, fps, tN, J, G2, e, J2, T, ts2, g2, q⟩ := hh2
  subst e
  refine wpAny_newObj_type (newEnv_comp ?_) (by show 0 ≤ sizeLine; decide)
  generalize eqD : t2.heap.objs.size = Dl
  have newD : G2 Dl = none := J2.hok.fresh (Nat.le_of_eq eqD)
  obtain ⟨Wv, ⟨mm0, ww0⟩, turns⟩ := q Dl newD
  -- the new list
  generalize et3 : ({ t2 with heap := t2.heap.push { cls := .type "list", data := .seq ([] : List Value).toArray } } : Shared) = t3
  have J3 : Inv X pins σ (upd G2 Dl (.lst [])) t3 := by
    rw [← et3]
    refine J2.laid (t' := t2.toks) (fun b o e => Heap.get?_push_of_some _ e) (Nat.le_of_eq eqD) ⟨Nat.zero_le _, [], 0, .nil, ?_⟩
    rw [← eqD]
    exact Heap.get?_push_size _ rfl
  have h3 : t3.heap = t2.heap.push { cls := .type "list", data := .seq ([] : List Value).toArray } := by rw [← et3]
  have below : ∀ b ∈ fps, b < t2.heap.objs.size := fun b hb => by
    obtain ⟨o, e, _⟩ := T.obj _ _ ts2 b hb
    exact Heap.lt_size e
  have g3 : ∀ b ∈ fps, FpOk X pins (upd G2 Dl (.lst [])) b ∧ b < t3.heap.objs.size := fun b hb => by
    have hlt := below b hb
    refine ⟨⟨?_, (g2 b hb).2⟩, by rw [h3, Heap.size_push]; exact Nat.lt_succ_of_lt hlt⟩
    rw [upd_ne (by rw [← eqD]; exact Nat.ne_of_lt hlt)]
    exact (g2 b hb).1
  have ts3 : tN 0 t3.heap := T.keep _ _ _ ts2 fun b _ o e => by rw [h3]; exact Heap.get?_push_of_some _ e
  have J4 := block_start J3 ok hN g3
  have pgB := hg t3 (upd G2 Dl (.lst [])) t3.heap.objs.size (cellsFrom (t3.heap.objs.size + 1) scope.names (cloFrom X.env.cells scope.names [])) fps
  have ptB := ht t3 (upd G2 Dl (.lst [])) t3.heap.objs.size (cellsFrom (t3.heap.objs.size + 1) scope.names (cloFrom X.env.cells scope.names [])) fps
  have peB := he t3 (upd G2 Dl (.lst [])) t3.heap.objs.size (cellsFrom (t3.heap.objs.size + 1) scope.names (cloFrom X.env.cells scope.names [])) fps fun pb σb Hb sb J =>
    J3.call' (ch := fps) J.os J.base J.hok J.bare fun b hb => ⟨(g3 b hb).1.2.2.2.1, (g3 b hb).1.2.1, (g3 b hb).1.2.2.2.2.1, (g3 b hb).1.2.2.2.2.2⟩
  show codeAny _ _ (.compStart (.ListComp elt [⟨tg, iter, ifs, 0⟩] scope pos) 0 (.ref it) (.ref Dl) (compEnvC scope (cellsFrom (t3.heap.objs.size + 1) scope.names (cloFrom X.env.cells scope.names [])) t3.heap.objs.size X.env)) (compPost (model X.prog X.w) X.A X.xe use Qf (.ref Dl) t3.heap.objs.size) { t3 with heap := pushCells (t3.heap.push { cls := .type "dict", data := .dict #[] }) scope.names }
  have fpN : ∀ b ∈ fps, (upd G2 Dl (.lst [])) b = none := fun b hb => (g3 b hb).1.1
  generalize eCe : compEnvC scope (cellsFrom (t3.heap.objs.size + 1) scope.names (cloFrom X.env.cells scope.names [])) t3.heap.objs.size X.env = cenv at J4 pgB ptB peB ⊢
  have cenvL : cenv.locals = t3.heap.objs.size := by subst eCe; rfl
  generalize eG3 : upd G2 Dl (.lst []) = G3 at J3 J4 pgB ptB peB ww0 fpN g3
  generalize et4 : ({ t3 with heap := pushCells (t3.heap.push { cls := .type "dict", data := .dict #[] }) scope.names } : Shared) = t4 at J4 ⊢
  have ts4 : tN 0 t4.heap := T.keep _ _ _ ts3 fun b _ o e => by rw [← et4]; exact pushCells_keeps _ _ _ _ (Heap.get?_push_of_some _ e)
  have standing : ∀ {σ' : L2.St} {H' : Hp} {s' : Shared}, Inv (X.blk t3 G3 scope cenv fps) [] σ' H' s' → (∀ b ∈ fps, H' b = none) → ∀ b ∈ fps, FpOk (X.blk t3 G3 scope cenv fps) [] H' b := fun {σ' H' s'} I' hnn b hb =>
    ⟨hnn b hb, (I'.ok.exf b hb).1, I'.ok.exfs b hb, .inl hb, fun x c e => (I'.ok.exf b hb).2 x c e, fun p hp => absurd (show p ∈ ([] : List (Addr × Obj)) ++ [] from hp) (by simp)⟩
  have theLoop : codeAny (model X.prog X.w) X.A (.compLoop (.ListComp elt [⟨tg, iter, ifs, 0⟩] scope pos) 0 (.ref it) (.ref Dl) cenv) (compPost (model X.prog X.w) X.A X.xe use Qf (.ref Dl) t3.heap.objs.size) t4 := by
    refine compLoop_any (fun n s' => ∃ i H', Inv (X.blk t3 G3 scope cenv fps) [] (wipe σ (own.map (·.2))) H' s' ∧ tN i s'.heap ∧ (∀ b ∈ fps, H' b = none) ∧ Wv i n H') ?_ mm0 ⟨0, G3, J4, ts4, fpN, ww0⟩
    rintro n t5 ⟨i, G5, J5, ts5, nn5, ww5⟩
    rcases turns i n G5 ww5 with ⟨stops, qend⟩ | ⟨goes, Nxt, hNxt, stepV⟩
    · have tDone := T.done (X.blk t3 G3 scope cenv fps) rfl rfl rfl hc i [] t5 _ G5 (fun _ _ => False) J5 (standing J5 nn5) ts5 stops
      refine thnF tDone fun r t6 ⟨hr, J6⟩ => ?_
      subst hr
      -- back in the def's context
      have J7 : Inv X pins σ G5 t6 := J3.call' (ch := fps) J6.os J6.base J6.hok J6.bare fun b hb => ⟨(g3 b hb).1.2.2.2.1, (g3 b hb).1.2.1, (g3 b hb).1.2.2.2.2.1, (g3 b hb).1.2.2.2.2.2⟩
      have nCc : G5 t3.heap.objs.size = none := by
        have z : G5 cenv.locals = none := J6.free
        rw [cenvL] at z
        exact z
      obtain ⟨m, hnn, _⟩ := J6.loc
      have hnn : t6.heap.Ns cenv.locals m := hnn
      rw [cenvL] at hnn
      exact hEnd Dl t3.heap.objs.size t6 m G5 J7 qend hnn (J3.fpOk (Nat.le_refl _) nCc)
    · have tItem := T.item (X.blk t3 G3 scope cenv fps) rfl rfl rfl hc i [] t5 _ G5 (fun _ _ => False) J5 (standing J5 nn5) ts5 goes
      refine thnF tItem fun r t6 ⟨u, hr, h6⟩ => ?_
      subst hr
      refine thnF h6 fun _ t7 ⟨x, G7, J7, rr7, yy7, ts7, nn7⟩ => ?_
      have J7' := J7.pinned (standing J7 nn7) (T.obj _ _ ts7)
      refine thnF (pgB.run _ t7 _ G7 x u _ J7' rr7 (stepV x G7 yy7)) fun _ t8 ⟨σ8, G8, J8, hww8, qq8⟩ => ?_
      refine thnF (ptB.run _ t8 σ8 G8 _ J8 qq8) fun b t9 ⟨G9, J9, qq9⟩ => ?_
      -- the turn's end
      have atEnd : ∀ {s' : Shared} {H' : Hp}, Inv (X.blk t3 G3 scope cenv fps) ([] ++ pinsAt fps t7.heap) σ8 H' s' → Nxt H' → ∃ m, m < n ∧ ∃ i H', Inv (X.blk t3 G3 scope cenv fps) [] (wipe σ (own.map (·.2))) H' s' ∧ tN i s'.heap ∧ (∀ b ∈ fps, H' b = none) ∧ Wv i m H' := fun {s' H'} I' nxt => by
        obtain ⟨m', hm, w'⟩ := hNxt H' nxt
        have kept2 : ∀ b ∈ fps, ∀ o, t7.heap.get? b = some o → s'.heap.get? b = some o ∧ H' b = none := fun b hb o e =>
          let z := I'.pin (b, o) (List.mem_append_right _ (List.mem_append_right _ (mem_pinsAt hb e)))
          ⟨z.1, z.2.1⟩
        have len8 : (wipe σ (own.map (·.2))).length = σ8.length := by rw [← hww8, wipe_length]
        refine ⟨m', hm, i + 1, H', (I'.unpinned (pins := [])).weak len8 (fun j v e => ?_), T.keep _ _ _ ts7 fun b hb o e => (kept2 b hb o e).1, fun b hb => ?_, w'⟩
        · rw [← hww8] at e
          exact (wipe_some e).1
        · obtain ⟨o, e, _⟩ := T.obj _ _ ts7 b hb
          exact (kept2 b hb o e).2
      cases b with
      | false =>
        simp only [Bool.false_eq_true, if_false] at qq9 ⊢
        exact atEnd J9 qq9
      | true =>
        simp only [if_true] at qq9 ⊢
        refine thnF (peB.run _ t9 σ8 G9 _ J9 qq9) fun z t10 ⟨yv, G10, J10, rr10, acc, hG10, hzz10, nxt⟩ => ?_
        exact app_ok (X := X.blk t3 G3 scope cenv fps) J10 hG10 hzz10 rr10 fun t11 J11 => atEnd J11 nxt
  exact codeAny_compStart_list theLoop (T.self X.A 0 _ _ _ ts4 theLoop)
end
end Lw
end

section
set_option Elab.async false
set_option linter.all false
set_option maxRecDepth 100000
set_option maxHeartbeats 4000000
/-! LW: l = [lambda: a]; l.append(lambda: b); ..; c = [_law_heard(x)[0] for x in l] -/
namespace Lw
open PySem PySem.Spec PyProof.Rows L2 LamX
variable [TabInfo]
section
variable {K : PySem.W.Frag} {mg : Str → Option Value} {W : WX} {P P' P1 : Addr → Prop} {H H' H1 : Hp} {σ σ' σ1 : L2.St} {E E' E1 : SE} {Q : VK}
theorem Good.nown (g : Good K P H σ E) {a : Addr} {o : HO} (e : H a = some o) (m : ¬ Mu o) : ¬ OwnS σ E a := fun q => by
  obtain ⟨u, e1, m1⟩ := g.ownD q
  rw [e] at e1; cases e1
  exact m m1
theorem IsLam.lnk {X : Cx} {f : Addr} {i : LInf} (h : IsLam X H f i) (g : Good K P H σ E) (l : Lnk P σ E H P' σ' E' H') : IsLam X H' f i := by
  obtain ⟨c', h1, h2⟩ := h
  exact ⟨c', l.keep _ _ h1 lamO_tbl (g.nown h1 lamO_mu), l.keep _ _ h2 codeO_ne (g.nown h2 codeO_mu)⟩
theorem IsLam.extN {X : Cx} {f : Addr} {i : LInf} (h : IsLam X H f i) (e : ExtN H H1) : IsLam X H1 f i := by
  obtain ⟨c', h1, h2⟩ := h
  exact ⟨c', e _ _ h1 lamO_tbl, e _ _ h2 codeO_ne⟩
theorem IsLam.updM {X : Cx} {f a : Addr} {o : HO} {i : LInf} (h : IsLam X H f i) (hm : ∀ u, H a = some u → Mu u) : IsLam X (upd H a o) f i := by
  obtain ⟨c', h1, h2⟩ := h
  exact ⟨c', by rw [upd_ne fun z => lamO_mu (hm _ (z ▸ h1))]; exact h1, by rw [upd_ne fun z => codeO_mu (hm _ (z ▸ h2))]; exact h2⟩
/-- a slot of which nothing is said gets any value -/
theorem Good.setNo (g : Good K P H σ E) {i : Nat} {v : Option V} (hi : i < E.length) : Good K P H (σ.set i v) (E.set i .no) ∧ ∀ a, OwnS (σ.set i v) (E.set i .no) a → OwnS σ E a := by
  have at_ : ∀ {j : Nat} {s : Sl}, (E.set i .no)[j]? = some s → s ≠ .no → E[j]? = some s ∧ (σ.set i v)[j]? = σ[j]? := fun {j s} e hs => by
    rw [getE_set] at e
    split at e
    · split at e
      · cases e; exact absurd rfl hs
      · cases e
    · rename_i h
      exact ⟨e, List.getElem?_set_ne h⟩
  have sub : ∀ a, OwnS (σ.set i v) (E.set i .no) a → OwnS σ E a := fun a ⟨j, d, e1, e2⟩ => by
    obtain ⟨q1, q2⟩ := at_ e1 (by simp)
    exact ⟨j, d, q1, by rw [← q2]; exact e2⟩
  refine ⟨⟨by simp [g.len], g.dom, fun j d e => ?_, fun j d e => ?_, fun a q => g.dis a (sub a q), fun j k d d' a e1 e2 e3 e4 => ?_, g.tab⟩, sub⟩
  · obtain ⟨q1, q2⟩ := at_ e (by simp)
    obtain ⟨w, e1, r⟩ := g.val j d q1
    exact ⟨w, by rw [q2]; exact e1, r.mono fun a z => ⟨z.1, fun q => z.2 (sub a q)⟩⟩
  · obtain ⟨q1, q2⟩ := at_ e (by simp)
    obtain ⟨w, e1, r⟩ := g.own j d q1
    exact ⟨w, by rw [q2]; exact e1, r.monoD fun a _ _ z => ⟨z.1, fun q => z.2 (sub a q)⟩⟩
  · obtain ⟨q1, q2⟩ := at_ e1 (by simp)
    obtain ⟨q3, q4⟩ := at_ e2 (by simp)
    exact g.inj j k d d' a q1 q3 (by rw [← q2]; exact e3) (by rw [← q4]; exact e4)
theorem te_pureV {d : Lw.D} {v : V} (r : ∀ T, RepB K H T v d) (h : TEof K mg W (M.pure (.val d)) σ H Q) : Q v H := by
  obtain ⟨P, E, g, h⟩ := h
  exact h v H (g.less fun a z => z.elim id False.elim) (Lnk.refl.less fun a z => z.elim id False.elim) (r _) fun a z => z.elim
end
section
variable {X : Cx} {j : Nat} {W : WX} {st : List Nat}
/-- the slots while the lambdas are put into the list at l -/
structure GoSt (X : Cx) (iL : Nat) (P0 : Addr → Prop) (σ0 : L2.St) (E0 : SE) (H0 : Hp) (l : Addr) (fs : List Addr) (done : List LInf) (σ : L2.St) (H : Hp) : Prop where
  good : Good X.K (fun a => P0 a ∨ a = l) H σ (E0.set iL .no)
  lnk : Lnk P0 σ0 E0 H0 (fun a => P0 a ∨ a = l) σ (E0.set iL .no) H
  same : Same st σ0 σ
  l0 : H0 l = none
  at_ : σ[iL]? = some (some (.ref l))
  lst : H l = some (.lst (fs.map V.ref))
  lams : Paired (IsLam X H) fs done
/-- what is left to do -/
def tGo (X : Cx) (W : WX) (st : List Nat) (iL : Nat) (fk : SE → SR) (done todo : List LInf) : TS := fun D σ H => ∃ P0 σ0 E0 H0 l fs, GoSt (st := st) X iL P0 σ0 E0 H0 l fs done σ H ∧ done.length + todo.length < sizeLine ∧
  PostS X.K X.mg W st P0 σ0 E0 H0 D (fk (E0.set iL .no))
theorem go_first {iL : Nat} {fk : SE → SR} {i : LInf} {todo : List LInf} {D : Ends} {σ : L2.St} {H : Hp} (hst : iL ∈ st) (h : TSof X.K X.mg W st (preS iL (todo.length + 1) fk) D σ H) :
    tAsg (tLst (tCons (tLamMk X i.params i.body i.scope) tNil)) (gName iL) { D with nx := tGo X W st iL fk [i] todo D } σ H := by
  obtain ⟨P, E, g, h⟩ := h
  unfold preS at h
  split at h
  case isFalse => exact h.elim
  rename_i hc
  obtain ⟨hi, hz⟩ := hc
  refine ⟨g.tab, fun f c' H1 ⟨e1, e2, e3⟩ nf f1 f2 => ⟨by rw [sizeLine_eq]; simp, fun p hp => ?_⟩⟩
  have ex : ExtN H1 (upd H1 p (.lst [.ref f])) := ExtN.of (ext_upd hp)
  have g1 := (g.extN e1 e2 e3).fresh hp (ext_upd hp) (upd_same (o := .lst [V.ref f]))
  obtain ⟨g2, sub⟩ := g1.setNo (v := some (.ref p)) hi
  refine ⟨P, σ, E, H, p, [f], ⟨g2, ?_, Same.set.mono (by simpa using hst), e3 p hp, by rw [List.getElem?_set_self (by rw [g.len]; exact hi)], upd_same, .cons ⟨c', ex _ _ f1 lamO_tbl, ex _ _ f2 codeO_ne⟩ .nil⟩, ?_, ?_⟩
  · exact ⟨fun a o e t _ => ex a o (e1 a o e t) t, fun a q => .inl (sub a q), fun a q => q.elim .inl fun z => .inr (.inr (by rw [z]; exact e3 p hp)), fun a e => e3 a (none_upd e)⟩
  · simpa [Nat.add_comm] using hz
  · exact h
theorem go_next {iL : Nat} {fk : SE → SR} {i : LInf} {done todo : List LInf} {D : Ends} {σ : L2.St} {H : Hp} (h : tGo X W st iL fk done (i :: todo) D σ H) :
    tDrop (tBM X.K "list" rAppend (tVar iL) (tCons (tLamMk X i.params i.body i.scope) tNil)) { D with nx := tGo X W st iL fk (done ++ [i]) todo D } σ H := by
  obtain ⟨P0, σ0, E0, H0, l, fs, s, hz, h⟩ := h
  refine ⟨.ref l, s.at_, .inl ⟨rfl, _, .inl (.inl s.lst)⟩, s.good.tab, fun f c' H1 ⟨e1, e2, e3⟩ nf f1 f2 => ?_⟩
  have hl1 := e1 l _ s.lst (fun _ z => nomatch z)
  have hm : ∀ u, H1 l = some u → Mu u := fun u e => by rw [hl1] at e; cases e; trivial
  have len : fs.length = done.length := s.lams.length
  refine ⟨l, fs.map V.ref, .ref f, rfl, rfl, hl1, by rw [List.length_map, len]; simp at hz; omega, ?_⟩
  have g1 := s.good.extN e1 e2 e3
  refine ⟨P0, σ0, E0, H0, l, fs ++ [f], ⟨g1.updP (.inr rfl) hm, ?_, s.same, s.l0, s.at_, by rw [upd_same]; simp, ?_⟩, by simp at hz ⊢; omega, h⟩
  · exact (s.lnk.trans (Lnk.extN e1 e3)).updN s.l0
  · have q : ∀ {fs : List Addr} {is : List LInf}, Paired (IsLam X H) fs is → Paired (IsLam X (upd H1 l (.lst (fs.map V.ref ++ [.ref f])))) fs is := fun {fs is} p => L2.Paired.mapP p fun a b z => (z.extN e1).updM hm
    have q2 : ∀ {fs gs : List Addr} {is js : List LInf} {R : Addr → LInf → Prop}, Paired R fs is → Paired R gs js → Paired R (fs ++ gs) (is ++ js) := fun {fs gs is js R} p r => by
      induction p with
      | nil => exact r
      | cons a _ ih => exact .cons a ih
    refine q2 (L2.Paired.mapP s.lams fun a b z => (z.extN e1).updM hm) (.cons ⟨c', ?_, ?_⟩ .nil)
    · rw [upd_ne fun z => lamO_mu (hm _ (z ▸ f1))]; exact f1
    · rw [upd_ne fun z => codeO_mu (hm _ (z ▸ f2))]; exact f2
theorem paired_get {α β : Type} {R : α → β → Prop} : ∀ {l : List α} {m : List β} {i : Nat} {b : β}, Paired R l m → m[i]? = some b → ∃ a, l[i]? = some a ∧ R a b
  | _, _, i, b, .nil, e => by simp at e
  | _, _, 0, b, .cons r _, e => by simp at e; subst e; exact ⟨_, rfl, r⟩
  | _, _, i + 1, b, .cons _ p, e => by
    obtain ⟨a, e1, h⟩ := paired_get (i := i) p (by simpa using e)
    exact ⟨a, by simpa using e1, h⟩
theorem elM_eq (m : M Sl) (E : SE) : elM m E = match m E with
  | .ok s E1 => (match ixS (.tup [.non, s.d]) (.int 0) with | some r => .ok r E1 | none => .bad)
  | .exc C x E1 => (match ixS (.tup [.exc C x, .non]) (.int 0) with | some r => .ok r E1 | none => .bad)
  | .bad => .bad := by
  unfold elM
  rw [mbind, evA_ex]
  unfold heardS
  cases m E with
  | bad => rfl
  | ok s E1 =>
    show M.opt (ixS (.tup [.non, s.d]) (.int 0)) E1 = _
    dsimp only
    cases ixS (.tup [.non, s.d]) (.int 0) <;> rfl
  | exc C x E1 =>
    show M.opt (ixS (.tup [.exc C x, .non]) (.int 0)) E1 = _
    dsimp only
    cases ixS (.tup [.exc C x, .non]) (.int 0) <;> rfl
theorem seqM_noexc : ∀ (is : List LInf) (E : SE) {C x E'}, seqM (is.map fun i => elM i.m) E = .exc C x E' → False := by
  intro is
  induction is with
  | nil => intro E C x E' z; cases z
  | cons i is ih =>
    intro E C x E' z
    rw [List.map_cons, seqM, mbind] at z
    have ne : ∀ {C x E'}, elM i.m E = .exc C x E' → False := fun {C x E'} z => by rw [elM_eq] at z; split at z <;> first | cases z | (split at z <;> cases z)
    cases ee : elM i.m E with
    | bad => rw [ee] at z; cases z
    | exc C x E' => exact ne ee
    | ok s E1 =>
      rw [ee, bind_ok, mbind] at z
      cases e2 : seqM (is.map fun i => elM i.m) E1 with
      | bad => rw [e2] at z; cases z
      | ok ds E2 => rw [e2] at z; cases z
      | exc C x E2 => exact ih E1 e2
/-- the loop over the list of lambdas, which stands in the slot ji of the slots σi; the lambdas run at the slots σ -/
theorem hear_loop {ji jl : Nat} {infos : List LInf} {σ σi : L2.St} {H : Hp} {P : Addr → Prop} {E EF : SE} {l : Addr} {fs : List Addr} {rsF : List Lw.D} {Q : VK} (g : Good X.K P H σ E) (pl : P l) (at_ : σi[ji]? = some (some (.ref l))) (hl : H l = some (.lst (fs.map V.ref))) (lam : Paired (IsLam X H) fs infos) (hz : infos.length < sizeLine)
    (hN : σi.length > jl) (eF : seqM (infos.map fun i => elM i.m) E = .ok rsF EF)
    (fin : ∀ D Hi accV, H D = none → Good X.K (fun b => P b ∨ b = D) Hi σ EF → Lnk P σ E H (fun b => P b ∨ b = D) σ EF Hi → Hi D = some (.lst accV) → RepsB X.K Hi (Fz (fun b => P b ∨ b = D) σ EF) accV rsF → Q (.ref D) Hi) :
    tLc (iList X.K (tVar ji)) (gName jl) tYes (tOp (r2D X.K ixS) (tHV X infos σ jl) (tC (.int 0))) [jl] σi H Q := by
  refine ⟨.ref l, at_, l, rfl, ⟨_, SqL.of hl⟩, fun D1 hD => ?_⟩
  have len : fs.length = infos.length := lam.length
  have PD : ∀ b, P b → b ≠ D1 := fun b p e => by
    obtain ⟨o, q⟩ := g.dom b p
    rw [e, hD] at q; cases q
  refine ⟨fun i m Hi => m = infos.length - i ∧ i ≤ infos.length ∧ ∃ Ei accV accD rest, Good X.K (fun b => P b ∨ b = D1) Hi σ Ei ∧ Lnk P σ E H (fun b => P b ∨ b = D1) σ Ei Hi ∧
      Hi D1 = some (.lst accV) ∧ RepsB X.K Hi (Fz (fun b => P b ∨ b = D1) σ Ei) accV accD ∧ accD.length = i ∧ seqM ((infos.drop i).map fun i => elM i.m) Ei = .ok rest EF ∧ rsF = accD ++ rest, ⟨infos.length, by simp, Nat.zero_le _, E, [], [], rsF, ?_, ?_, upd_same, .nil, rfl, by simpa using eF, rfl⟩, ?_⟩
  · exact g.fresh hD (ext_upd hD) upd_same
  · exact ⟨fun a o e _ _ => ext_upd hD a o e, fun a h => .inl h, fun a h => h.elim .inl fun z => .inr (.inr (by rw [z]; exact hD)), fun a e => none_upd e⟩
  · rintro i m Hi ⟨rfl, hi, Ei, accV, accD, rest, gi, li, hDi, ri, hla, ei, er⟩
    have hlst : Hi l = some (.lst (fs.map V.ref)) := li.keep l _ hl (fun _ z => nomatch z) fun q => g.dis l q pl
    have lams : Paired (IsLam X Hi) fs infos := L2.Paired.mapP lam fun a b z => z.lnk g li
    by_cases hlt : i < infos.length
    · right
      have ed : infos[i]? = some infos[i] := by simp [hlt]
      obtain ⟨f, ef, lf⟩ := paired_get lams ed
      have efv : (fs.map V.ref)[i]? = some (.ref f) := by rw [List.getElem?_map, ef]; rfl
      refine ⟨⟨_, _, SqL.of hlst, efv⟩, fun H' => infos.length - (i + 1) = infos.length - (i + 1) ∧ i + 1 ≤ infos.length ∧ ∃ Ei accV accD rest, Good X.K (fun b => P b ∨ b = D1) H' σ Ei ∧ Lnk P σ E H (fun b => P b ∨ b = D1) σ Ei H' ∧
        H' D1 = some (.lst accV) ∧ RepsB X.K H' (Fz (fun b => P b ∨ b = D1) σ Ei) accV accD ∧ accD.length = i + 1 ∧ seqM ((infos.drop (i + 1)).map fun i => elM i.m) Ei = .ok rest EF ∧ rsF = accD ++ rest, fun H' q => ⟨infos.length - (i + 1), by omega, q⟩, ?_⟩
      rintro x H3 ⟨rfl, hx⟩
      have := hx _ (SqL.of hlst)
      rw [efv] at this; cases this
      refine ⟨wipe_eq (st := [jl]) Same.set (fun _ z => z), ?_⟩
      unfold tYes
      dsimp only
      rw [if_pos rfl]
      rw [List.drop_eq_getElem_cons hlt, List.map_cons, seqM, mbind] at ei
      obtain ⟨sl, E1, e1, ei⟩ := R.bind_ok (f := fun (s : Sl) => M.bind (seqM ((infos.drop (i + 1)).map fun i => elM i.m)) fun ds => M.pure (s.d :: ds)) ei
      rw [mbind] at ei
      obtain ⟨ds, E2, e2, ei⟩ := R.bind_ok (f := fun ds => M.pure (sl.d :: ds)) ei
      cases ei
      have hjl : ((L2.wipe σi [jl]).set jl (some (V.ref f)))[jl]? = some (some (.ref f)) := by
        rw [List.getElem?_set_self (by rw [wipe_length]; exact hN)]
      have mD : ∀ {Hz : Hp} {u}, Hz D1 = some (.lst accV) → Hz D1 = some u → Mu u := fun {Hz u} e e' => by rw [e] at e'; cases e'; trivial
      -- what the element comes to
      have tE : TEof X.K X.mg W0 (elM infos[i].m) σ H3 fun y H4 => ∃ acc, H4 D1 = some (.lst acc) ∧ acc.length < sizeLine ∧ (infos.length - (i + 1) = infos.length - (i + 1) ∧ i + 1 ≤ infos.length ∧ ∃ Ei accV accD rest, Good X.K (fun b => P b ∨ b = D1) (upd H4 D1 (.lst (acc ++ [y]))) σ Ei ∧ Lnk P σ E H (fun b => P b ∨ b = D1) σ Ei (upd H4 D1 (.lst (acc ++ [y]))) ∧
        (upd H4 D1 (.lst (acc ++ [y]))) D1 = some (.lst accV) ∧ RepsB X.K (upd H4 D1 (.lst (acc ++ [y]))) (Fz (fun b => P b ∨ b = D1) σ Ei) accV accD ∧ accD.length = i + 1 ∧ seqM ((infos.drop (i + 1)).map fun i => elM i.m) Ei = .ok rest EF ∧ rsF = accD ++ rest) := by
        refine ⟨_, Ei, gi, ?_⟩
        rw [e1]
        intro v H6 g6 l6 r6 n6
        have g6' : Good X.K (fun b => P b ∨ b = D1) H6 σ E1 := g6.less fun a z => .inl z
        have l6' : Lnk (fun b => P b ∨ b = D1) σ Ei H3 (fun b => P b ∨ b = D1) σ E1 H6 := l6.less fun a z => .inl z
        have hD6 : H6 D1 = some (.lst accV) := l6.keep D1 _ hDi (fun _ z => nomatch z) fun q => gi.dis D1 q (.inr rfl)
        have kD : ∀ {vs : List V} {xs : List Lw.D}, RepsB X.K H6 (Fz (fun b => P b ∨ b = D1) σ E1) vs xs → ∀ o, RepsB X.K (upd H6 D1 o) (Fz (fun b => P b ∨ b = D1) σ E1) vs xs := fun r o => r.keep (kp_updP (fun z => z.1 (.inr rfl)) fun u e => mD hD6 e)
        refine ⟨accV, hD6, by rw [ri.length, hla]; omega, rfl, hlt, E1, accV ++ [v], accD ++ [sl.d], ds, g6'.updP (.inr rfl) fun u e => mD hD6 e, (li.trans l6').updN hD, upd_same, ?_, by simp [hla], e2, by rw [er]; simp⟩
        exact kD ((ri.lnk gi l6').append (.cons (r6.frz0 g6 n6) .nil)) _
      have q := te_op2 tE
      exact ⟨f, infos[i], List.getElem_mem hlt, hjl, lf, te_mono (show TEof X.K X.mg W0 (heardS infos[i].m) σ H3 _ from q) fun x H4 q => te_pureV (fun T => RepB.int 0) q⟩
    · left
      have en : i = infos.length := by omega
      subst en
      refine ⟨⟨_, SqL.of hlst, by simp [len]⟩, ?_⟩
      rw [List.drop_length] at ei
      have ei : R.ok ([] : List Lw.D) Ei = R.ok rest EF := ei
      cases ei
      rw [List.append_nil] at er
      subst er
      exact fin D1 Hi accV hD gi li hDi ri
/-- the comprehension over the list -/
theorem go_last {iL iC jl : Nat} {infos : List LInf} {D : Ends} {σ : L2.St} {H : Hp} (hst : iC ∈ st) (hN : σ.length > jl) (h : tGo X W st iL (fun E => .of (seqM (infos.map fun i => elM i.m) E) fun rs => putS iC (.own (.lst rs))) infos [] D σ H) :
    tLc (iList X.K (tVar iL)) (gName jl) tYes (tOp (r2D X.K ixS) (tHV X infos σ jl) (tC (.int 0))) [jl] σ H (fun x H1 => gName iC x σ H1 D.nx) := by
  obtain ⟨P0, σ0, E0, H0, l, fs, s, hz, h⟩ := h
  dsimp only at h
  cases e : seqM (infos.map fun i => elM i.m) (E0.set iL .no) with
  | bad => rw [e] at h; exact h.elim
  | exc C x E => exact (seqM_noexc infos _ e).elim
  | ok rsF EF =>
    rw [e] at h
    refine hear_loop s.good (.inr rfl) s.at_ s.lst s.lams (by simpa using hz) hN e fun D1 Hi accV hD gi li hDi ri => ?_
    have PD : ∀ b, P0 b ∨ b = l → b ≠ D1 := fun b p e => by
      obtain ⟨o, q⟩ := s.good.dom b p
      rw [e, hD] at q; cases q
    have hh : ∀ b, HeldBy (.ref D1) (.own (.lst rsF)) b → b = D1 := fun b z => by
      have z' : V.ref D1 = .ref b := z
      cases z'; rfl
    have less : ∀ b, Pl P0 (.ref D1) (.own (.lst rsF)) b → ((P0 b ∨ b = l) ∨ b = D1) := fun b z => z.imp .inl (hh b)
    have h2 := h.step0 (P := P0) (σ1 := σ) (E1 := E0.set iL .no) (H1 := H) (s.lnk.less fun a z => .inl z) s.same
    refine put_ok hst (gi.less less) ⟨li.keep, li.new, fun a z => z.elim .inl fun z => .inr (.inr (by rw [hh a z]; exact hD)), li.tbs⟩ ⟨D1, rfl, OwnB.lst hDi (ri.mono fun b z => ⟨fun q => z.1 (less b q), z.2⟩)⟩ (fun b z p => PD b (.inl p) (hh b z)) h2
/-- l.append(lambda: ..) -/
def IsApp (x : Str) (s : Stmt) (i : LInf) : Prop := ∃ (q1 ap cp q2 lp : Pos), s = .Expr (.Call (.Attribute (.Name x q1) "append" ap) [.Lambda i.params i.body i.scope lp] [] cp) q2 ∧ (ap.endLine == cp.line) = true
/-- l = [lambda: ..] -/
def IsFirst (x : Str) (s : Stmt) (i : LInf) : Prop := ∃ (px lp lpos pos : Pos), s = .Assign [.Name x px] (.List [.Lambda i.params i.body i.scope lp] lpos) pos
/-- the rest of the list's making, then the comprehension's statement, then what follows -/
theorem go_apps (h : HdX X j) {x : Str} {iL : Nat} {fk : SE → SR} {last : Stmt} {rest : List Stmt} {tR tL : TS} (vx : ∀ p, PE X (.Name x p) (tVar iL)) (hl : PS X last tL) (hr : PSs X rest tR) :
    ∀ (todo : List LInf) (apps : List Stmt) (done : List LInf), (∀ i ∈ todo, i.Ok X j) → Paired (IsApp x) apps todo → (∀ D σ H, tGo X W st iL fk (done ++ todo) [] D σ H → tL D σ H) → PSs X (apps ++ last :: rest) (fun D σ H => tGo X W st iL fk done todo { D with nx := tR D } σ H) := by
  intro todo
  induction todo with
  | nil =>
    intro apps done _ pa hL
    cases pa
    have q := pss_cons hl hr
    exact ⟨fun pins s σ H D I z => q.run pins s σ H D I (hL _ _ _ (by rw [List.append_nil]; exact z))⟩
  | cons i todo ih =>
    intro apps done ok pa hL
    cases pa with
    | cons a pa =>
      obtain ⟨q1, ap, cp, q2, lp, rfl, hline⟩ := a
      have oi := ok i List.mem_cons_self
      have b := ps_expr (pos := q2) (pe_bm (X := X) (apos := ap) (cpos := cp) PySem.F.plainAttrs_list PySem.F.slot_list_append PySem.F.type_list_append mt_append (vx q1) (pa_cons (h.lam (body := i.body) (pos := lp) oi.ls oi.np) pa_nil (by rfl)) (by rfl) (by rfl) hline (by rfl) (by rfl)) (by rfl)
      have q := pss_cons b (ih _ (done ++ [i]) (fun i hi => ok i (List.mem_cons_of_mem _ hi)) pa fun D σ H z => hL D σ H (by rw [List.append_assoc] at z; exact z))
      exact ⟨fun pins s σ H D I z => q.run pins s σ H D I (go_next z)⟩
/-- the whole -/
theorem hears_ok (h : HdX X j) (hc : X.calm = true) (hN : X.N.Nodup) {x y lk : Str} {iL iC jl : Nat} {s0 : Stmt} {apps rest : List Stmt} {i : LInf} {todo : List LInf} {tR : TS} {scope : Scope} {py p0 p1 p2 p3 p4 p5 p6 p7 p8 : Pos} {k0 : Nat}
    (hx : X.N[iL]? = some x) (lx : L2.Loc X.env.scope x) (fx : X.fn x = true ∨ X.env.scope.names.lookup x = some .local) (vx : ∀ p, PE X (.Name x p) (tVar iL)) (hy : X.N[iC]? = some y) (ly : X.env.scope.names.lookup y = some .local) (sL : iL ∈ st) (sC : iC ∈ st) (hjl : X.N[jl]? = some lk)
    (ok : ∀ k ∈ i :: todo, k.Ok X j) (f0 : IsFirst x s0 i) (pa : Paired (IsApp x) apps todo)
    (hsw : swapsWith (.ListComp (.Subscript (.Call (.Name hdN p1) [.Name lk p2] [] p3) (.Constant (.int 0) k0 p4) p5) [⟨.Name lk p6, .Name x p7, [], 0⟩] scope p8) (some (.Name y py)) p0.line X.env = pure true)
    (bok : BlkOk X.N X.env.scope scope [(lk, jl)]) (hgB : ∀ (s : Shared) (H : Hp) (C : Addr) (cl : List (Str × Addr)) (fp : List Addr), PG (X.blk s H scope (compEnvC scope cl C X.env) fp) (.Name lk p6) (gName jl))
    (hvB : ∀ (s : Shared) (H : Hp) (C : Addr) (cl : List (Str × Addr)) (fp : List Addr), PE (X.blk s H scope (compEnvC scope cl C X.env) fp) (.Name lk p2) (tVar jl)) (hlB : Gl { X with env := compEnvC scope [] 0 X.env } hdN) (hr : PSs X rest tR) :
    PSs X (s0 :: (apps ++ .Assign [.Name y py] (.ListComp (.Subscript (.Call (.Name hdN p1) [.Name lk p2] [] p3) (.Constant (.int 0) k0 p4) p5) [⟨.Name lk p6, .Name x p7, [], 0⟩] scope p8) p0 :: rest))
      (tSeq (TSof X.K X.mg W st (hearsS iL iC ((i :: todo).map (·.m)))) tR) := by
  obtain ⟨px, lp, lpos, pos, rfl⟩ := f0
  have oi := ok i List.mem_cons_self
  have st0 := ps_set (X := X) (pos := pos) (pos' := px) hN hx lx (pe_lst (pos := lpos) (pa_cons (h.lam (body := i.body) (pos := lp) oi.ls oi.np) pa_nil)) (by rfl) fx
  have stL : PS X (.Assign [.Name y py] (.ListComp (.Subscript (.Call (.Name hdN p1) [.Name lk p2] [] p3) (.Constant (.int 0) k0 p4) p5) [⟨.Name lk p6, .Name x p7, [], 0⟩] scope p8) p0) (tGo X W st iL (fun E => .of (seqM ((i :: todo).map fun i => elM i.m) E) fun rs => putS iC (.own (.lst rs))) (i :: todo) []) := by
    refine ⟨fun pins s σ H D I hq => ?_⟩
    have hj : jl < σ.length := by rw [I.len]; exact (List.getElem?_eq_some_iff.mp hjl).1
    have hq := go_last sC hj hq
    rw [exec_Assign_Name_used _ _ _ _ hsw]
    refine wpAny_bind (wpAny_standAt (wpAny_bind ?_))
    show wpAny _ X.A (do let _ ← comprehension (.ListComp _ [⟨.Name lk p6, .Name x p7, [], 0⟩] scope p8) scope X.env (firstIterPos [⟨.Name lk p6, .Name x p7, [], 0⟩] p8) (newList []) false (eval (.Name x p7) X.env) (some (assign (.Name y py) X.env))) _ _ s
    refine wpAny_bind (thn (lc_view (Qf := fun _ s' => SP X pins D .next s') (own := [(lk, jl)]) hc hN I (pi_list (vx p7)) bok (fun s H C cl fp => hgB s H C cl fp) (fun s H C cl fp => pts_nil)
      (fun s H C cl fp view => pe_ix (ix_ok (X := X.blk s H scope (compEnvC scope cl C X.env) fp) h.room) (h.heardV (Y := X.blk s H scope (compEnvC scope cl C X.env) fp) (infos := i :: todo) h.room h.gd ok view hlB (hvB s H C cl fp)) pe_int (fun _ _ => rfl)) (by intro _; rfl) hq fun L C s' m H' I' q hn f => ?_) fun _ s' hq => wpAny_pure (wpAny_pure hq))
    show wpAny _ _ (assign (.Name y py) X.env (.ref L)) _ _ _
    refine wpAny_assign_Name (store_ok2 (v := V.ref L) I' hN hy (.inl ly) rfl (fun s2 I2 ⟨a, sb, ha⟩ => ?_) (.inr ly))
    obtain ⟨f0, f1, f2, f3, f4, f5⟩ := f
    have haC : C ≠ a := by
      rcases ha with z | z
      · rw [z]; exact f1
      · exact fun e => f4 y a z e.symm
    refine ⟨m, hn.sameBut sb haC, fun h3 sb3 => ?_⟩
    exact ⟨_, H', I2.turned (t' := s2.toks) (fun b o hb e => (sb3.2 b hb).trans e) f0 f1 f3 f4 f5, q⟩
  have q := pss_cons st0 (go_apps (W := W) (st := st) (iL := iL) h vx stL hr todo apps [i] (fun k hk => ok k (List.mem_cons_of_mem _ hk)) pa fun D σ H z => z)
  refine ⟨fun pins s σ H D I z => q.run pins s σ H D I (go_first sL ?_)⟩
  have z : TSof X.K X.mg W st (hearsS iL iC ((i :: todo).map (·.m))) { D with nx := tR D } σ H := z
  unfold hearsS at z
  rw [List.map_map, List.length_map, List.length_cons] at z
  exact z
end
end Lw
end

section
set_option Elab.async false
set_option linter.all false
set_option maxRecDepth 100000
set_option maxHeartbeats 4000000
/-! LK: lambda x: isinstance(x, C), made, handed on, called -/
namespace Lw
open PySem PySem.Spec PyProof.Rows L2 LamX
variable [TabInfo]
section
variable {K : PySem.W.Frag} {mg : Str → Option Value} {W : WX} {H H1 : Hp} {σ : L2.St} {Q : VK}
/-- what can't be changed stays -/
theorem te_keep {f : M Sl} {a : Addr} {o : HO} (ha : H a = some o) (ht : ∀ ps, o ≠ .tbl ps) (hm : ¬ Mu o) (h : TEof K mg W f σ H Q) : TEof K mg W f σ H fun v H' => H' a = some o ∧ Q v H' := by
  obtain ⟨P, E, g, h⟩ := h
  refine ⟨P, E, g, ?_⟩
  cases e : f E with
  | bad => rw [e] at h; exact h
  | exc C x E1 => rw [e] at h; exact h
  | ok s E1 => rw [e] at h; exact fun v H' g' l' r' n' => ⟨l'.keep a o ha ht (g.nown ha hm), h v H' g' l' r' n'⟩
theorem op_keep {oa : Opd} {a : Addr} {o : HO} (ha : H a = some o) (ht : ∀ ps, o ≠ .tbl ps) (hm : ¬ Mu o) (h : tOpd K mg W oa σ H Q) : tOpd K mg W oa σ H fun v H' => H' a = some o ∧ Q v H' := by
  cases oa with
  | slot i =>
    obtain ⟨v, e, q⟩ := (show tVar i σ H Q from h)
    exact ⟨v, e, ha, q⟩
  | ex f => exact te_keep ha ht hm (show TEof K mg W f σ H Q from h)
/-- f(e), f a slot that holds lambda x: isinstance(x, C) -/
def tCallF (K : PySem.W.Frag) (i : Nat) (te : TE) : TE := fun σ H Q => ∃ (f : Addr) (F : LF) (C : Str) (c : Addr), σ[i]? = some (some (.ref f)) ∧ TabInfo.exc C = some c ∧ isfB C F = true ∧ H f = some (LamO f F) ∧ H F.c = some (CodeO F.c F.qual) ∧ te σ H fun y H2 => H2 F.c = some (CodeO F.c F.qual) ∧ H2 f = some (LamO f F) ∧ r1D K (isxS C) y H2 Q
theorem te_callf {oa : Opd} {i : Nat} (h : TEof K mg W (fun E => match E[i]? with
    | some (.val (.isf C)) => M.bind (evA [oa]) (fun ds => M.opt (match ds with | [x] => isxS C x | _ => none)) E
    | _ => .bad) σ H Q) : tCallF K i (tOpd K mg W oa) σ H Q := by
  obtain ⟨P, E, g, h⟩ := h
  dsimp only at h
  split at h
  case h_2 => exact h.elim
  rename_i C e
  obtain ⟨v, e1, S, r, _⟩ := g.val i _ e
  cases r with
  | isf h0 h1 h2 h3 =>
    exact ⟨_, _, C, _, e1, h0, h1, h2, h3, op_keep h3 codeO_ne codeO_mu (op_keep h2 lamO_tbl lamO_mu (te_op1 ⟨P, E, g, h⟩))⟩
end
theorem clo_nil {cells : List (Str × Addr)} : ∀ {names : List (Str × NameKind)} {acc : List (Str × Addr)}, (names.all fun z => !decide (z.2 = .cell) && !decide (z.2 = .free)) = true → cloFrom cells names acc = acc
  | [], _, _ => rfl
  | (n, k) :: r, acc, h => by
    rw [List.all_cons, Bool.and_eq_true] at h
    unfold cloFrom
    have hk : (k == .free) = false := by
      have := h.1
      simp only [Bool.and_eq_true, Bool.not_eq_true', decide_eq_false_iff_not] at this
      simpa using this.2
    rw [hk]
    exact clo_nil h.2
/-- the words of such a lambda -/
structure IsfW (C : Str) (F : LF) : Prop where
  ex : ∃ (p1 p2 p3 p4 p5 : Pos), F.params = { posonlyargs := [], args := [{ arg := "miss", annotation := none, pos := p1 }], vararg := none, kwonlyargs := [], kw_defaults := [], kwarg := none, defaults := [] } ∧ F.body = .Call (.Name "isinstance" p2) [.Name "miss" p3, .Name C p4] [] p5
  ly : F.scope.names.lookup ("miss" : Str) = some .local
  cl : F.cl = []
  kind : F.scope.kind = .function
  co : F.scope.isCoroutine = false
  gen : F.scope.isGenerator = false
  is : F.scope.names.lookup ("isinstance" : Str) = some .globalImplicit
  c : F.scope.names.lookup C = some .globalImplicit
  own : ∀ y ∈ F.scope.names, y.2 ≠ .cell ∧ y.2 ≠ .free
  d1 : (C == ("__debug__" : Str)) = false
  d2 : (C == ("__name__" : Str)) = false
theorem isfB_ok {C : Str} {F : LF} (h : isfB C F = true) : IsfW C F := by
  obtain ⟨q, pa, bd, sc, cl, c⟩ := F
  unfold isfB at h
  rw [Bool.and_eq_true] at h
  obtain ⟨hcl, h⟩ := h
  dsimp only at hcl h
  split at h
  case h_2 => cases h
  rename_i x p1 f p2 y p3 cc p4 p5
  simp only [Bool.and_eq_true, beq_iff_eq, decide_eq_true_eq, Bool.not_eq_true'] at h
  obtain ⟨⟨⟨⟨⟨⟨⟨⟨⟨⟨⟨⟨rfl, rfl⟩, rfl⟩, rfl⟩, h4⟩, h5⟩, h6⟩, h7⟩, h8⟩, h9⟩, h10⟩, h13⟩, h14⟩ := h
  refine ⟨⟨p1, p2, p3, p4, p5, rfl, rfl⟩, h7, List.isEmpty_iff.mp hcl, h4, h5, h6, h8, h9, fun z hz => ?_, h13, h14⟩
  have := List.all_eq_true.mp h10 z hz
  simp only [Bool.and_eq_true, Bool.not_eq_true', decide_eq_false_iff_not] at this
  exact this
section
variable {X : Cx} {k : Nat}
/-- the lambda's promise -/
theorem pe_callf {te : TE} {x : Str} {i : Nat} {e : Expr} {p1 p2 : Pos} (F : ExcF X.prog X.K X.mg) (hm : X.mg "isinstance" = none) (hr : Room (k + 1) X.A) (hv : PE X (.Name x p1) (tVar i)) (he : PE X e te) (hs : starEach [e] X.env = (false, eval e X.env) :: starEach [] X.env) :
    PE X (.Call (.Name x p1) [e] [] p2) (tCallF X.K i te) := by
  refine ⟨fun pins s σ H Q I ⟨f, L, C, cc, sl, ec, hb, h1, h2, q⟩ => ?_⟩
  have w := isfB_ok hb
  obtain ⟨q1, q2, q3, q4, q5, epar, ebody⟩ := w.ex
  have ly := w.ly
  refine wpAny_Call_Name_kw (thn (hv.run pins s σ H (fun v H1 => v = .ref f ∧ H1 = H) I ⟨.ref f, sl, rfl, rfl⟩) fun u s1 ⟨v, H1, I1, r1, e1, e2⟩ => ?_)
  subst e1 e2
  obtain rfl : u = Value.ref f := r1
  obtain ⟨pm0, ctv0, of0⟩ := lamO_at I1.hok h1
  refine PySem.W.callWith_F ⟨_, _, _, _, of0⟩ ?_ hs (by rfl)
  rw [hs]
  refine Calls.spliced_cons (thn (he.run pins s1 σ H1 _ I1 q) fun u s2 ⟨v, H2, I2, r2, g2, g1, qv⟩ => ?_)
  obtain ⟨pm, ctv, of1⟩ := lamO_at I2.hok g1
  refine Calls.spliced_nil ⟨⟨_, _, _, _, of1⟩, ?_⟩
  obtain ⟨⟨oc, vs, tt, z1, z2, z3⟩, -, -⟩ := I2.hok L.c _ g2
  obtain ⟨qn, pa, bd, sc, cl, c⟩ := L
  have ecl : cl = [] := w.cl
  dsimp only at epar ebody ly of1 z1 z2 z3 g1 g2 w
  subst epar ebody ecl
  have S : NdefX.NScope ["miss"] ["miss"] [] sc := ⟨w.kind, w.co, w.gen, by simp, rfl, fun z hz => by simp at hz; rw [hz]; exact ly, fun z hz => (w.own z hz).1, fun z hz e => absurd e (w.own z hz).2, fun z hz => nomatch hz⟩
  have act : codeAny (model X.prog X.w) X.A (.call (.ref f) ⟨[u], []⟩) (CR (L2.CX X.prog X.w) X.stack X.prog X.w H2 s2 Q noX) s2 := by
    refine PySem.W.kla_callFunE hr.depth of1 rfl w.co w.gen rfl ⟨c, oc, vs, tt, rfl, z1, z2, z3⟩ ?_
    rw [show bindArgs (PySem.W.kla_fn "<lambda>" qn _ _ sc [] pm (.ref c) ctv) ⟨[u], []⟩ = pure ([("miss", u)] : List (Str × Value)) from rfl]
    refine wpAny_pure (wpAny_newFunctionEnv S.nocell (fun ⟨n, _⟩ hy => by simp at hy; rw [hy.1]; exact ly) (fun h₁ hn sb => ⟨I2.nolimit.fresh _ sb, ?_⟩) w.kind)
    have kp : ∀ b o, s2.heap.get? b = some o → h₁.get? b = some o := fun b o e => sb.extBut b o (Nat.ne_of_lt (Heap.lt_size e)) (Heap.get?_push_of_some _ e)
    have J : Inv (NdefX.ncx (L2.CX X.prog X.w) X.prog X.w X.K X.mg X.base ["miss"] ⟨"<lambda>", qn, { posonlyargs := [], args := [], vararg := none, kwonlyargs := [], kw_defaults := [], kwarg := none, defaults := [] }, [], sc, [], c⟩ f X.A X.stack s2 H2 noX) [] (NdefX.startF ["miss"] [v] []) H2 { s2 with heap := h₁, toks := s2.toks + ([("miss", u)] : List (Str × Value)).length } :=
      NdefX.inv_startN (ps := ["miss"]) (fr := []) (us := [u]) S hr.hd I2.env0 rfl (.cons r2 .nil) ⟨rfl, (fun _ _ z => nomatch z), (fun _ _ _ z => nomatch z), (fun _ _ z => by simp at z)⟩ hn kp
    generalize hZ : NdefX.ncx (L2.CX X.prog X.w) X.prog X.w X.K X.mg X.base ["miss"] ⟨"<lambda>", qn, { posonlyargs := [], args := [], vararg := none, kwonlyargs := [], kw_defaults := [], kwarg := none, defaults := [] }, [], sc, [], c⟩ f X.A X.stack s2 H2 noX = Z at J
    have nm := (F.one C cc ec).nm
    have pb : PE Z (.Call (.Name "isinstance" q2) [.Name "miss" q3, .Name C q4] [] q5) (tCB (rIsX X.K C (.ref cc)) (tCons (tVar 0) (tCons (tC (.ref cc)) tNil))) := by
      rw [← hZ]
      exact pe_callB (call_isX (X := NdefX.ncx (L2.CX X.prog X.w) X.prog X.w X.K X.mg X.base ["miss"] _ f X.A X.stack s2 H2 noX) F fun C' c' e' => F.two C' c' C cc e' ec) w.is hm (by decide +kernel) (pa_cons (pe_var (i := 0) rfl (.inl ly) (by decide +kernel) (by decide +kernel)) (pa_cons (pe_glob w.c nm rfl w.d1) pa_nil (by rfl)) (by rfl)) (by decide +kernel) (by decide +kernel) (by rfl) (by rfl)
    subst hZ
    refine PySem.W.kla_codeExpr (wpAny_mono (pb.run [] _ _ H2 Q J ⟨v, rfl, ?_⟩) (fun v' t2 ⟨w2, K2, J3, rv, q⟩ => ?_) fun e t2 hq => ?_)
    · obtain ⟨T, d, hd, qd⟩ := qv
      exact ⟨T, v, d, .ref cc, rfl, fun u r => r, hd, qd⟩
    · exact ⟨w2, K2, J3.os, J3.bare, J3.base, J3.hok, rv, q⟩
    · exact hq
  refine wpAny_call (codeAny_mono act fun r t2 hq => ?_)
  match r, hq with
  | .error e, hq =>
    obtain ⟨_, _, _, _, _, _, _, _, _, _, _, _, z⟩ := hq
    exact z.elim
  | .ok (.ret u), hq => exact I2.after hq
  | .ok .next, hq => exact hq.elim
  | .ok .brk, hq => exact hq.elim
  | .ok .cont, hq => exact hq.elim
end
def arN : Str := "_law_all_refuse"
section
variable {X : Cx} {j : Nat}
/-- what is left behind the list's making: it is handed to _law_all_refuse -/
def tAR (st : List Nat) (X : Cx) (l : Nat) (infos : List LInf) (C : Str) (mv : M Sl) : TE := fun σ H Q => ∃ P0 σ0 E0 H0 a fs, GoSt (st := st) X l P0 σ0 E0 H0 a fs infos σ H ∧ infos.length < sizeLine ∧ ∃ b E1, arM (infos.map (·.m)) C mv (E0.set l .no) = .ok b E1 ∧
  ∀ H', Good X.K (fun q => P0 q ∨ q = a) H' σ E1 → Lnk P0 σ0 E0 H0 (fun q => P0 q ∨ q = a) σ E1 H' → Q (.bl b) H'
structure AllR (X : Cx) (j : Nat) : Prop where
  rule : ∀ {W : WX} {l : Nat} {x C : Str} {infos : List LInf} {c : Addr} {mv : M Sl} {params : Arguments} {body ve : Expr} {scope : Scope} {st : List Nat} {p p1 lp pos : Pos}, Gl X arN → (∀ p, PE X (.Name x p) (tVar l)) → (∀ i ∈ infos, i.Ok X j) → TabInfo.exc C = some c → isfB C ⟨"", params, body, scope, [], 0⟩ = true →
    PE X ve (TEof X.K X.mg W mv) → starEach [ve] X.env = (false, eval ve X.env) :: starEach [] X.env → PE X (.Call (.Name arN p) [.Name x p1, .Lambda params body scope lp, ve] [] pos) (tAR st X l infos C mv)
theorem HdX.isf (h : HdX X j) {C : Str} {params : Arguments} {body : Expr} {scope : Scope} {pos : Pos} (hb : isfB C ⟨"", params, body, scope, [], 0⟩ = true) : PE X (.Lambda params body scope pos) (tLamMk X params body scope) ∧ ∀ c', isfB C (lfOf X params body scope c') = true := by
  obtain ⟨CP, cc, tb, k, ec, B, mT, uT, _⟩ := h.ex
  have w := isfB_ok hb
  obtain ⟨q1, q2, q3, q4, q5, e1, e2⟩ := w.ex
  dsimp only at e1 e2
  have nof : cloFrom X.env.cells scope.names [] = [] := clo_nil (by
    rw [List.all_eq_true]
    intro y hy
    have := w.own y hy
    simp [this.1, this.2])
  refine ⟨pe_lam B ec mT uT (by rw [e1]; rfl) fun _ y hy e => absurd e (w.own y hy).2, fun c' => ?_⟩
  show isfB C ⟨lamN X, params, body, scope, cloFrom X.env.cells scope.names [], c'⟩ = true
  rw [nof]
  exact hb
end
end Lw
namespace Lw
open PySem PySem.Spec PyProof.Rows L2 LamX
variable [TabInfo]
theorem arM_noexc {ms : List (M Sl)} {C : Str} {mv : M Sl} {E : SE} {Cn x E'} (h : arM ms C mv E = .exc Cn x E') : False := by
  unfold arM at h
  split at h
  · split at h
    · split at h
      · cases h
      · cases h
    · cases h
  · cases h
section
variable {X : Cx} {j : Nat} {W : WX} {st : List Nat}
theorem go_ar {iL : Nat} {infos : List LInf} {C : Str} {mv : M Sl} {fin : Bool} {D : Ends} {σ : L2.St} {H : Hp} {Q : VK} (h : tGo X W st iL (fun E => .of (arM (infos.map (·.m)) C mv E) (endAR fin)) infos [] D σ H)
    (hq : ∀ b H', (if fin = true ∨ b = false then D.rt (.bl b) H' else D.nx σ H') → Q (.bl b) H') : tAR st X iL infos C mv σ H Q := by
  obtain ⟨P0, σ0, E0, H0, l, fs, s, hz, h⟩ := h
  dsimp only at h
  cases e : arM (infos.map (·.m)) C mv (E0.set iL .no) with
  | bad => rw [e] at h; exact h.elim
  | exc Cn x E => exact (arM_noexc e).elim
  | ok b E1 =>
    rw [e] at h
    refine ⟨P0, σ0, E0, H0, l, fs, s, by simpa using hz, b, E1, e, fun H' g lk => hq b H' ?_⟩
    have h : PostS X.K X.mg W st P0 σ0 E0 H0 D (endAR fin b E1) := h
    have rt : ∀ b', PostS X.K X.mg W st P0 σ0 E0 H0 D (.rt (vB b') E1) → D.rt (.bl b') H' := fun b' h =>
      h (.bl b') σ H' (g.less fun a z => z.elim .inl False.elim) (lk.less fun a z => z.elim .inl False.elim) s.same (RepB.bl _) fun a z => z.elim
    unfold endAR at h
    cases fin with
    | true => rw [if_pos (.inl rfl)]; exact rt b h
    | false =>
      rw [if_neg Bool.false_ne_true] at h
      cases b with
      | true =>
        rw [if_neg (by simp)]
        rw [if_pos rfl] at h
        exact h σ H' (g.less fun a z => .inl z) (lk.less fun a z => .inl z) s.same
      | false =>
        rw [if_pos (.inr rfl)]
        rw [if_neg Bool.false_ne_true] at h
        exact rt false h
/-- the whole -/
theorem refuse_ok (h : HdX X j) (ar : AllR X j) (hN : X.N.Nodup) {x C : Str} {iL : Nat} {s0 last : Stmt} {apps rest : List Stmt} {i : LInf} {todo : List LInf} {tR tL : TS} {c : Addr} {mv : M Sl} {fin : Bool}
    (hx : X.N[iL]? = some x) (lx : L2.Loc X.env.scope x) (fx : X.fn x = true ∨ X.env.scope.names.lookup x = some .local) (vx : ∀ p, PE X (.Name x p) (tVar iL)) (sL : iL ∈ st)
    (ok : ∀ k ∈ i :: todo, k.Ok X j) (f0 : IsFirst x s0 i) (pa : Paired (IsApp x) apps todo) (hl : PS X last tL) (hL : ∀ D σ H, tGo X W st iL (fun E => .of (arM ((i :: todo).map (·.m)) C mv E) (endAR fin)) (i :: todo) [] D σ H → tL D σ H) (hr : PSs X rest tR) :
    PSs X (s0 :: (apps ++ last :: rest)) (tSeq (TSof X.K X.mg W st (refuseS iL ((i :: todo).map (·.m)) C mv fin)) tR) := by
  obtain ⟨px, lp, lpos, pos, rfl⟩ := f0
  have oi := ok i List.mem_cons_self
  have st0 := ps_set (X := X) (pos := pos) (pos' := px) hN hx lx (pe_lst (pos := lpos) (pa_cons (h.lam (body := i.body) (pos := lp) oi.ls oi.np) pa_nil)) (by rfl) fx
  have q := pss_cons st0 (go_apps (W := W) (st := st) (iL := iL) h vx hl hr todo apps [i] (fun k hk => ok k (List.mem_cons_of_mem _ hk)) pa hL)
  refine ⟨fun pins s σ H D I z => q.run pins s σ H D I (go_first sL ?_)⟩
  have z : TSof X.K X.mg W st (refuseS iL ((i :: todo).map (·.m)) C mv fin) { D with nx := tR D } σ H := z
  unfold refuseS at z
  rw [List.length_map, List.length_cons] at z
  exact z
end
end Lw
end

section
set_option Elab.async false
set_option linter.all false
set_option maxRecDepth 100000
set_option maxHeartbeats 4000000
/-! L15: the checker: a text's tree against the IR -/
namespace Lw
open PySem L2
variable [TabInfo]

structure Ck where
  N : List Str
  sc : Scope
  fs : List FnE
  cs : List Str
  bl : List Str
  st : List Nat
  cell : Bool
  hd : Bool
  /-- own classes of exceptions -/
  ex : List Str
  /-- _law_all_refuse may be called -/
  ar : Bool

structure Ck.Ok (c : Ck) (X : Cx) (k : Nat) (Φ : Nat → M Sl) (C : Nat → D) (W : WX) : Prop where
  N : X.N = c.N
  nd : c.N.Nodup
  sc : X.env.scope = c.sc
  kind : c.sc.kind = .function
  calm : X.calm = true
  fn : c.cell = true → ∀ x, X.fn x = true
  room : Room k X.A
  gd : X.A.guards = some []
  tk : Takes X W
  pass : PassesOwn (model X.prog X.w) X.A X.env X.xe
  fs : ∀ i e, c.fs[i]? = some e → FnH X.prog X.w X.K X.mg X.base k e (Φ i)
  cs : ∀ i n, c.cs[i]? = some n → ∃ v u, X.mg n = some u ∧ RelV v u ∧ ∀ H, RepB X.K H (fun _ => False) v (C i)
  bl : ∀ n ∈ c.bl, X.mg n = none
  one : 1 ≤ k
  ex : ∀ n ∈ c.ex, ∃ a, TabInfo.exc n = some a
  exf : ExcF X.prog X.K X.mg
  hd : c.hd = true → ∃ j, 1 ≤ j ∧ HdX X j ∧ ∀ i e, c.fs[i]? = some e → FnH X.prog X.w X.K X.mg X.base j e (Φ i)
  ar : c.ar = true → ∃ j, 1 ≤ j ∧ HdX X j ∧ AllR X j ∧ ∀ i e, c.fs[i]? = some e → FnH X.prog X.w X.K X.mg X.base j e (Φ i)

def okN (x : Str) : Bool := !(x == ("__debug__" : Str)) && !(x == ("__classdict__" : Str)) && !(x == ("__name__" : Str))
def glB (c : Ck) (x : Str) : Bool := okN x && c.sc.names.lookup x == some .globalImplicit
def visB (c : Ck) (i : Nat) (x : Str) : Bool := okN x && c.N[i]? == some x && (match c.sc.names.lookup x with | some .local => true | some .cell => true | some .free => true | _ => false)
def locB (c : Ck) (i : Nat) (x : Str) : Bool := c.N[i]? == some x && c.st.contains i && (match c.sc.names.lookup x with | some .local => true | some .cell => c.cell | _ => false)
def notStar : Expr → Bool
  | .Starred _ _ => false
  | _ => true
def tyNames : List String := ["int", "str", "bool", "tuple", "list", "dict"]
def notCall : Expr → Bool
  | .Call .. => false
  | _ => true
def plainIx : Expr → Bool
  | .Slice .. => false
  | _ => true
def plainT : Expr → Bool
  | .UnaryOp .. => false
  | .BoolOp .. => false
  | .IfExp .. => false
  | .Compare .. => false
  | _ => true
def notComp : Expr → Bool
  | .ListComp .. => false
  | .SetComp .. => false
  | .DictComp .. => false
  | _ => true
def notSet : Expr → Bool
  | .Set .. => false
  | _ => true
def notTup : Expr → Bool
  | .Tuple .. => false
  | _ => true
mutual
def chkG (c : Ck) : Tgt → Expr → Bool
  | .nm i => fun e => match e with
    | .Name x _ => locB c i x
    | _ => false
  | .tup ts => fun e => match e with
    | .Tuple es _ _ => chkGs c ts es
    | _ => false
def chkGs (c : Ck) : List Tgt → List Expr → Bool
  | [] => fun es => es.isEmpty
  | t :: ts => fun es => match es with
    | e :: es => notStar e && chkG c t e && chkGs c ts es
    | [] => false
end
/-- a tuple display that stores nothing in another order -/
def plainAsg (c : Ck) : List Expr → Expr → Bool
  | ts, .Tuple vs _ _ => vs.all (foldedForSure 8) || !(ts.length == 2 || ts.length == 3) || vs.length != ts.length || ts.any fun e => match e with
    | .Name x _ => c.sc.names.lookup x != some .local
    | _ => true
  | _, _ => true
def namesOf : List Expr → List Str
  | [] => []
  | .Name x _ :: r => x :: namesOf r
  | _ :: r => namesOf r
def swapAsg (c : Ck) (ts vs : List Expr) : Bool :=
  (ts.length == 2 || ts.length == 3) && vs.length == ts.length && (namesOf ts).eraseDups.length == (namesOf ts).length && vs.all notStar && !vs.all (foldedForSure 8) && !vs.all (constantsAlone 8) &&
  (ts.all fun e => match e with
    | .Name x p => c.sc.names.lookup x == some .local && p.line == (ts.head?.map (·.pos.line)).getD 0
    | _ => false)
def inner (c : Ck) (scope : Scope) (own : List Nat) : Ck := { c with sc := relS scope c.sc, st := own, cell := false, hd := false, ar := false }
def lamK (c : Ck) (scope : Scope) : Ck := { c with sc := scope, st := [], cell := false, hd := false, ar := false }
def ownN (c : Ck) (own : List Nat) : List (Str × Nat) := own.map fun i => (c.N.getD i "", i)
inductive Mode where
  | val | test | iter (t : Expr)
def dflt (v : Ck → Expr → Bool) : Mode → Ck → Expr → Bool
  | .val => v
  | .test => fun c e => plainT e && v c e
  | .iter _ => v
mutual
def chk : E → Mode → Ck → Expr → Bool
  | .non => dflt (fun c e => match e with
    | .Constant .none _ _ => true
    | _ => false)
  | .bl b => dflt (fun c e => match e with
    | .Constant (.bool b') _ _ => b == b'
    | _ => false)
  | .int i => dflt (fun c e => match e with
    | .Constant (.int i') _ _ => i == i'
    | _ => false)
  | .str x => dflt (fun c e => match e with
    | .Constant (.str x') _ _ => x == x'
    | _ => false)
  | .tyc n => dflt (fun c e => match e with
    | .Name x _ => tyNames.contains n && x == (n : Str) && glB c x && c.bl.contains x
    | _ => false)
  | .cst i => dflt (fun c e => match e with
    | .Name x _ => c.cs[i]? == some x && glB c x
    | _ => false)
  | .var i => dflt (fun c e => match e with
    | .Name x _ => visB c i x
    | _ => false)
  | .fz i => dflt (fun c e => match e with
    | .Name x _ => visB c i x
    | _ => false)
  | .mv i => dflt (fun c e => match e with
    | .Name x _ => visB c i x
    | _ => false)
  | .bop o a b => dflt (fun c e => match e with
    | .BinOp x o' y _ => o == o' && chk a .val c x && chk b .val c y
    | _ => false)
  | .cmp o a b => fun m => match m with
    | .test => (fun c e => match e with
    | .Compare x [o'] [y] _ => o == o' && notSet y && chk a .val c x && chk b .val c y
    | _ => false)
    | _ => (fun c e => match e with
    | .Compare x [o'] [y] _ => o == o' && notSet y && chk a .val c x && chk b .val c y
    | _ => false)
  | .chn o p a b d => fun m => match m with
    | .test => (fun c e => match e with
    | .Compare x [o', p'] [y, z] _ => o == o' && p == p' && notSet z && chk a .val c x && chk b .val c y && chk d .val c z
    | _ => false)
    | _ => (fun c e => match e with
    | .Compare x [o', p'] [y, z] _ => o == o' && p == p' && notSet z && chk a .val c x && chk b .val c y && chk d .val c z
    | _ => false)
  | .neg a => dflt (fun c e => match e with
    | .UnaryOp .USub x _ => chk a .val c x
    | _ => false)
  | .andV a b => fun m => match m with
    | .test => (fun c e => match e with
    | .BoolOp .And (x :: y :: r) p => chk a .test c x && (if r.isEmpty then chk b .test c y else chk b .test c (.BoolOp .And (y :: r) p))
    | _ => false)
    | _ => (fun c e => match e with
    | .BoolOp .And (x :: y :: r) p => chk a .val c x && (if r.isEmpty then chk b .val c y else chk b .val c (.BoolOp .And (y :: r) p))
    | _ => false)
  | .orV a b => fun m => match m with
    | .test => (fun c e => match e with
    | .BoolOp .Or (x :: y :: r) p => chk a .test c x && (if r.isEmpty then chk b .test c y else chk b .test c (.BoolOp .Or (y :: r) p))
    | _ => false)
    | _ => (fun c e => match e with
    | .BoolOp .Or (x :: y :: r) p => chk a .val c x && (if r.isEmpty then chk b .val c y else chk b .val c (.BoolOp .Or (y :: r) p))
    | _ => false)
  | .notV a => fun m => match m with
    | .test => (fun c e => match e with
    | .UnaryOp .Not x _ => chk a .test c x
    | _ => false)
    | _ => (fun c e => match e with
    | .UnaryOp .Not x _ => chk a .val c x
    | _ => false)
  | .ite t a b => fun m => match m with
    | .test => (fun c e => match e with
    | .IfExp w x y _ => chk t .test c w && chk a .test c x && chk b .test c y
    | _ => false)
    | _ => (fun c e => match e with
    | .IfExp w x y _ => chk t .test c w && chk a .val c x && chk b .val c y
    | _ => false)
  | .bi b as => dflt (fun c e => match e with
    | .Call (.Name x _) es [] _ => x == (b.id : Str) && glB c x && c.bl.contains x && !es.isEmpty && es.all notStar && chkAs as c es
    | _ => false)
  | .ty b as => dflt (fun c e => match e with
    | .Call (.Name x _) es [] _ => x == (b.id : Str) && glB c x && c.bl.contains x && !es.isEmpty && es.all notStar && chkAs as c es
    | _ => false)
  | .mth m a as => dflt (fun c e => match m, as, e with
    | .upper, [], .Call (.Attribute o n ap) [] [] cp => n == ("upper" : Str) && ap.endLine == cp.line && notCall o && chk a .val c o
    | _, _, _ => false)
  | .idx a b => dflt (fun c e => match e with
    | .Subscript x y _ => plainIx y && chk a .val c x && chk b .val c y
    | _ => false)
  | .slc a lo hi => dflt (fun c e => match e with
    | .Subscript x (.Slice l h none _) _ => chk a .val c x && (match lo, l with
      | .non, none => true
      | .non, some _ => false
      | _, some l => chk lo .val c l
      | _, _ => false) && (match hi, h with
      | .non, none => true
      | .non, some _ => false
      | _, some h => chk hi .val c h
      | _, _ => false)
    | _ => false)
  | .rev a => dflt (fun c e => match e with
    | .Subscript x (.Slice none none (some (.UnaryOp .USub (.Constant (.int 1) _ _) _)) _) _ => chk a .val c x
    | _ => false)
  | .tup as => dflt (fun c e => match e with
    | .Tuple es _ _ => chkDs as c es
    | _ => false)
  | .lst as => dflt (fun c e => match e with
    | .List es _ => chkDs as c es
    | _ => false)
  | .star _ => dflt (fun _ _ => false)
  | .lc elt tg it ifs own => dflt (fun c e => match e with
    | .ListComp el [⟨t, i, fs, 0⟩] scope _ => blkC c.N c.sc scope (ownN c own) && tg.st.all own.contains && notSet i && chk it (.iter t) c i && chkG (inner c scope own) tg t && chkTs ifs (inner c scope own) fs && chk elt .val (inner c scope own) el
    | _ => false)
  | .call f as => dflt (fun c e => match e with
    | .Call (.Name x _) es kws _ => (match c.fs[f]? with
      | some fe => fe.name == x && (if kws.isEmpty then fe.np == es.length else kws.all (fun q => q.arg.isSome) && fe.kws.contains (es.length, kws.filterMap (·.arg)) && !es.isEmpty)
      | none => false) && glB c x && (es ++ kws.map (·.value)).all notStar && chkAs as c (es ++ kws.map (·.value))
    | _ => false)
  | .heard a => dflt (fun c e => match e with
    | .Call (.Name x _) [.Lambda params body scope _] [] _ => x == hdN && glB c x && c.hd && noPar params && LamX.lamSB c.sc scope && chk a .val (lamK c scope) body
    | _ => false)
  | .isx a n => dflt (fun c e => match e with
    | .Call (.Name x _) [y, .Name z _] [] _ => x == ("isinstance" : Str) && z == n && glB c x && c.bl.contains x && glB c z && (c.ex.contains z || (z == ("ValueError" : Str) && c.bl.contains z)) && notStar y && chk a .val c y
    | _ => false)
  | .isf _ => dflt fun _ _ => false
  | .callf i a => dflt (fun c e => match e with
    | .Call (.Name x _) [y] [] _ => visB c i x && c.bl.contains ("isinstance" : Str) && notStar y && chk a .val c y
    | _ => false)
  | .xval a => dflt (fun c e => match e with
    | .Attribute y n _ => n == ("value" : Str) && notCall y && chk a .val c y
    | _ => false)
  | .dict0 => dflt (fun _ e => match e with
    | .Dict [] [] _ => true
    | _ => false)
  | .dict1 k n => dflt (fun _ e => match e with
    | .Dict [some (.Constant (.str k') _ _)] [.Constant (.int n') _ _] _ => k == k' && n == n'
    | _ => false)
  | .dicti k b => dflt (fun _ e => match e with
    | .Dict [some (.Constant (.int k') _ _)] [.Constant (.bool b') _ _] _ => k == k' && b == b'
    | _ => false)
  | .sset a => dflt (fun c e => match e with
    | .Call (.Name x _) [.Call (.Name y _) [z] [] _] [] _ => x == ("sorted" : Str) && y == ("set" : Str) && glB c x && glB c y && c.bl.contains x && c.bl.contains y && notStar z && chk a .val c z
    | _ => false)
  | .lr1 a => dflt (fun c e => match e with
    | .Call (.Name x _) [.Call (.Name y _) [z] [] _] [] _ => x == ("list" : Str) && y == ("range" : Str) && glB c x && glB c y && c.bl.contains x && c.bl.contains y && notStar z && chk a .val c z
    | _ => false)
  | .lr2 a b => dflt (fun c e => match e with
    | .Call (.Name x _) [.Call (.Name y _) [z, z'] [] _] [] _ => x == ("list" : Str) && y == ("range" : Str) && glB c x && glB c y && c.bl.contains x && c.bl.contains y && notStar z && notStar z' && chk a .val c z && chk b .val c z'
    | _ => false)
  | .rng1 a => fun m => match m with
    | .iter t => (fun c e => match e with
    | .Call (.Name x _) [y] [] _ => x == ("range" : Str) && glB c x && c.bl.contains x && notStar y && chk a .val c y
    | _ => false)
    | _ => fun _ _ => false
  | .rng2 a b => fun m => match m with
    | .iter t => (fun c e => match e with
    | .Call (.Name x _) [y, z] [] _ => x == ("range" : Str) && glB c x && c.bl.contains x && notStar y && notStar z && chk a .val c y && chk b .val c z
    | _ => false)
    | _ => fun _ _ => false
  | .enum a => fun m => match m with
    | .iter t => (fun c e => match e with
    | .Call (.Name x _) [y] [] _ => !notTup t && x == ("enumerate" : Str) && glB c x && c.bl.contains x && notStar y && chk a .val c y
    | _ => false)
    | _ => (fun _ _ => false)
  | .zip a b => fun m => match m with
    | .iter t => (fun c e => match e with
    | .Call (.Name x _) [y, z] [] _ => !notTup t && x == ("zip" : Str) && glB c x && c.bl.contains x && notStar y && notStar z && chk a .val c y && chk b .val c z
    | _ => false)
    | _ => fun _ _ => false
  | .keys i => fun m => match m with
    | .iter t => (fun c e => match e with
    | .Name x _ => visB c i x
    | _ => false)
    | _ => fun _ _ => false
  | .dget i k d => dflt (fun c e => match e with
    | .Call (.Attribute o n ap) [y, z] [] cp => n == ("get" : Str) && ap.endLine == cp.line && notCall o && (match o with
      | .Name x _ => visB c i x
      | _ => false) && notStar y && notStar z && chk k .val c y && chk d .val c z
    | _ => false)
  | .sitems a => dflt (fun c e => match e with
    | .Call (.Name x _) [.Call (.Attribute o n ap) [] [] cp] [] _ => x == ("sorted" : Str) && n == ("items" : Str) && ap.endLine == cp.line && glB c x && c.bl.contains x && notCall o && chk a .val c o
    | _ => false)
  | .svals a => dflt (fun c e => match e with
    | .Call (.Name x _) [.Call (.Attribute o n ap) [] [] cp] [] _ => x == ("sorted" : Str) && n == ("values" : Str) && ap.endLine == cp.line && glB c x && c.bl.contains x && notCall o && chk a .val c o
    | _ => false)
  | .tcnt i b => dflt (fun c e => match e with
    | .Call (.Attribute o n ap) [y] [] cp => n == ("count" : Str) && ap.endLine == cp.line && notCall o && (match o with
      | .Name x _ => visB c i x
      | _ => false) && notStar y && chk b .val c y
    | _ => false)
  | .isort a => dflt (fun c e => match e with
    | .Call (.Name x _) [.Call (.Name y _) [z] [] _] [] _ => x == ("sorted" : Str) && y == ("set" : Str) && glB c x && glB c y && c.bl.contains x && c.bl.contains y && notStar z && chk a .val c z
    | _ => false)
  | .ptup a => dflt (fun c e => match e with
    | .Call (.Name x _) [y] [] _ => x == ("tuple" : Str) && glB c x && c.bl.contains x && notStar y && chk a .val c y
    | _ => false)
  | .pcat i j => dflt (fun c e => match e with
    | .BinOp x .Add y _ => (match x with
      | .Name x _ => visB c i x
      | _ => false) && (match y with
      | .Name x _ => visB c j x
      | _ => false)
    | _ => false)
  | .pdict i => dflt (fun c e => match e with
    | .Call (.Name x _) [y] [] _ => x == ("dict" : Str) && glB c x && c.bl.contains x && notStar y && (match y with
      | .Name x _ => visB c i x
      | _ => false)
    | _ => false)
  | .dictl a => dflt (fun c e => match e with
    | .Call (.Name x _) [y] [] _ => x == ("dict" : Str) && glB c x && c.bl.contains x && notStar y && chk a .val c y
    | _ => false)
  | .weak a => dflt (fun c e => notComp e && chk a .val c e)
  | .dc kx vx tg it ifs own => dflt (fun c e => match e with
    | .DictComp ky vy [⟨t, i, fs, 0⟩] scope _ => blkC c.N c.sc scope (ownN c own) && tg.st.all own.contains && notSet i && chk it (.iter t) c i && chkG (inner c scope own) tg t && chkTs ifs (inner c scope own) fs && chk kx .val (inner c scope own) ky && chk vx .val (inner c scope own) vy
    | _ => false)
def chkAs : List E → Ck → List Expr → Bool
  | [] => fun _ es => es.isEmpty
  | a :: as => fun c es => match es with
    | e :: es => chk a .val c e && chkAs as c es
    | [] => false
/-- displays' items -/
def chkDs : List E → Ck → List Expr → Bool
  | [] => fun _ es => es.isEmpty
  | a :: as => fun c es => match es with
    | e :: es => (match e with
      | .Starred e _ => (match a with
        | .star a => chk a .val c e
        | _ => false)
      | e => chk a .val c e) && chkDs as c es
    | [] => false
def chkTs : List E → Ck → List Expr → Bool
  | [] => fun _ es => es.isEmpty
  | a :: as => fun c es => match es, as with
    | [e], [] => chk a .test c e
    | _, _ => false
end
def chkE (a : E) : Ck → Expr → Bool := chk a .val
def chkT (a : E) : Ck → Expr → Bool := chk a .test
def chkI (a : E) (c : Ck) (e t : Expr) : Bool := chk a (.iter t) c e
/-- plain names, for a, b = .. -/
def chkPar (c : Ck) : List Nat → List Expr → Bool
  | [], [] => true
  | i :: is, .Name x _ :: es => locB c i x && chkPar c is es
  | _, _ => false
def isHears : S → Bool
  | .hears _ _ _ => true
  | .refuse _ _ _ _ _ => true
  | _ => false
def hearsN : S → Nat
  | .hears _ _ es => es.length + 1
  | .refuse _ es _ _ _ => es.length + 1
  | _ => 0
def lamB (c : Ck) (e : E) : Expr → Bool
  | .Lambda params body scope _ => noPar params && LamX.lamSB c.sc scope && chkE e (lamK c scope) body
  | _ => false
def chkApps (c : Ck) (x : Str) : List E → List Stmt → Bool
  | [], [] => true
  | e :: es, .Expr (.Call (.Attribute (.Name x' _) m ap) [v] [] cp) _ :: ss => x' == x && m == ("append" : Str) && ap.endLine == cp.line && lamB c e v && chkApps c x es ss
  | _, _ => false
/-- c = [_law_heard(x)[0] for x in l] -/
def chkLast (c : Ck) (k : Nat) (x : Str) : Stmt → Bool
  | .Assign [.Name y py] (.ListComp (.Subscript (.Call (.Name h _) [.Name lk _] [] _) (.Constant (.int z) _ _) _) [⟨.Name lk' _, .Name x' _, [], 0⟩] scope p) _ =>
    h == hdN && z == 0 && x' == x && lk' == lk && locB c k y && c.sc.names.lookup y == some .local && py.line == p.line && !(scope.names.any fun (n, k) => n == y && (k == .local || k == .cell)) &&
      (match c.N.findIdx? (· == lk) with
      | some jl => c.N[jl]? == some lk && blkC c.N c.sc scope [(lk, jl)] && glB (inner c scope [jl]) hdN && visB (inner c scope [jl]) jl lk && locB (inner c scope [jl]) jl lk
      | none => false)
  | _ => false
/-- _law_all_refuse(l, lambda miss: .., v) -/
def chkARc (c : Ck) (x C : Str) (v : E) : Expr → Bool
  | .Call (.Name f _) [.Name x' _, .Lambda params body scope _, w] [] _ => f == arN && x' == x && glB c arN && c.ex.contains C && isfB C ⟨"", params, body, scope, [], 0⟩ && notStar w && chkE v c w
  | _ => false
def chkAR (c : Ck) (x C : Str) (v : E) (fin : Bool) : Stmt → Bool
  | .Return (some e) _ => fin && chkARc c x C v e
  | .If (.UnaryOp .Not e _) [.Return (some (.Constant (.bool b) _ _)) _] [] _ => !fin && !b && chkARc c x C v e
  | _ => false
def chkHs (c : Ck) : S → List Stmt → Bool
  | .hears l k (e :: es), .Assign [.Name x _] (.List [v] _) _ :: ss => c.hd && locB c l x && visB c l x && lamB c e v && chkApps c x es (ss.take es.length) && (match ss.drop es.length with
    | [s] => chkLast c k x s
    | _ => false)
  | .refuse l (e :: es) C w fin, .Assign [.Name x _] (.List [v] _) _ :: ss => c.ar && locB c l x && visB c l x && lamB c e v && chkApps c x es (ss.take es.length) && (match ss.drop es.length with
    | [s] => chkAR c x C w fin s
    | _ => false)
  | _, _ => false
mutual
def chkS : S → Ck → Stmt → Bool
  | .set i e => fun c s => match s with
    | .Assign [.Name x px] v pos => locB c i x && chkE e c v && (notComp v || c.sc.names.lookup x == some .cell || (match v with
      | .ListComp _ _ scope p => c.sc.names.lookup x == some .local && px.line == p.line && !(scope.names.any fun (n, k) => n == x && (k == .local || k == .cell))
      | .DictComp _ _ _ scope p => c.sc.names.lookup x == some .local && px.line == p.line && !(scope.names.any fun (n, k) => n == x && (k == .local || k == .cell))
      | _ => false))
    | _ => false
  | .setT tg e => fun c s => match tg, s with
    | .tup tg, .Assign [.Tuple ts _ _] v _ => chkGs c tg ts && notComp v && plainAsg c ts v && chkE e c v
    | _, _ => false
  | .par is es => fun c s => match s with
    | .Assign [.Tuple ts _ _] (.Tuple vs _ _) _ => chkPar c is ts && decide is.Nodup && (ts.length == 2 || ts.length == 3) && swapAsg c ts vs && chkAs es c vs
    | _ => false
  | .parT is es => fun c s => match s with
    | .Assign [.Tuple ts _ _] (.Tuple vs k p) _ => chkGs c (is.map Tgt.nm) ts && plainAsg c ts (.Tuple vs k p) && decide (is.length ≤ 1000) && vs.all notStar && chkAs es c vs
    | _ => false
  | .aug i o e => fun c s => match s with
    | .AugAssign (.Name x _) o' v _ => o == o' && (o == .Add || o == .Sub) && locB c i x && chkE e c v
    | _ => false
  | .sidx i k e => fun c s => match s with
    | .Assign [.Subscript (.Name x _) kx _] v _ => visB c i x && plainIx kx && notComp v && chkE k c kx && chkE e c v
    | _ => false
  | .dset i k e => fun c s => match s with
    | .Assign [.Subscript (.Name x _) kx _] v _ => visB c i x && plainIx kx && notComp v && chkE k c kx && chkE e c v
    | _ => false
  | .app i e => fun c s => match s with
    | .Expr (.Call (.Attribute (.Name x _) m ap) [v] [] cp) p => m == ("append" : Str) && ap.endLine == cp.line && visB c i x && notStar v && chkE e c v
    | _ => false
  | .ext i e => fun c s => match s with
    | .Expr (.Call (.Attribute (.Name x _) m ap) [v] [] cp) p => m == ("extend" : Str) && ap.endLine == cp.line && visB c i x && notStar v && chkE e c v
    | _ => false
  | .ex e => fun c s => match s with
    | .Expr v _ => notComp v && chkE e c v
    | _ => false
  | .ret e => fun c s => match s with
    | .Return (some v) _ => chkE e c v
    | _ => false
  | .retN => fun c s => match s with
    | .Return none _ => true
    | _ => false
  | .ite t a b => fun c s => match s with
    | .If w x y _ => chkT t c w && chkSs a c x && chkSs b c y
    | _ => false
  | .whl t a => fun c s => match s with
    | .While w x [] _ => chkT t c w && chkSs a c x
    | _ => false
  | .for_ tg it a => fun c s => match s with
    | .For t i x [] _ => notSet i && chkG c tg t && chkI it c i t && chkSs a c x
    | _ => false
  | .brk => fun c s => match s with
    | .Break _ => true
    | _ => false
  | .cnt => fun c s => match s with
    | .Continue _ => true
    | _ => false
  | .pas => fun c s => match s with
    | .Pass _ => true
    | _ => false
  | .nev => fun _ _ => true
  | .raise n e => fun c s => match s with
    | .Raise (some (.Call (.Name x _) [v] [] _)) none _ => x == n && c.ex.contains x && glB c x && notStar v && chkE e c v
    | _ => false
  | .hears _ _ _ => fun _ _ => false
  | .refuse _ _ _ _ _ => fun _ _ => false
def chkSs : List S → Ck → List Stmt → Bool
  | [] => fun _ ss => ss.isEmpty
  | a :: as => fun c ss => if isHears a then chkHs c a (ss.take (hearsN a)) && decide (hearsN a ≤ ss.length) && chkSs as c (ss.drop (hearsN a)) else match ss with
    | s :: ss => chkS a c s && chkSs as c ss
    | [] => false
end
/-! ### shapes -/
theorem star_cons {e : Expr} (h : notStar e = true) (es : List Expr) (env : PySem.Env) : starEach (e :: es) env = (false, eval e env) :: starEach es env := by
  cases e <;> first | rfl | cases h
theorem star_plain {pos : Pos} (env : PySem.Env) : ∀ {es : List Expr}, es.all notStar = true → (backTo pos (starEach es env)).any (·.1) = false
  | [], _ => rfl
  | e :: es, h => by
    rw [List.all_cons, Bool.and_eq_true] at h
    rw [star_cons h.1]
    show (false || (backTo pos (starEach es env)).any (·.1)) = false
    rw [star_plain env h.2]; rfl
theorem base_of {o : Expr} {n : Str} {env : PySem.Env} {t : Sem Value} (h : notCall o = true) : attributeBase o n env t = t := by
  cases o <;> first | rfl | cases h
theorem plainIx_of {e : Expr} (h : plainIx e = true) : PlainIx e := fun o i => by
  cases e <;> first | rfl | cases h
theorem isTrue_of {e : Expr} {env : PySem.Env} (h : plainT e = true) (whole : Sem Value) : isTrue e env whole = (do let v ← whole; standAt e.pos; holding [v] (truthy v)) := by
  cases e <;> first | rfl | cases h
theorem marks_of {op : CmpOp} {e : Expr} (h : notSet e = true) : behindInMarks op e = false := by
  cases e <;> first | rfl | cases h
theorem lastMarks_of {o p : CmpOp} {y z : Expr} (h : notSet z = true) : lastMarks [o, p] [y, z] = false := by
  show behindInMarks p z = false
  exact marks_of h
theorem folded_of {e : Expr} {env : PySem.Env} (h : notSet e = true) (x : Value) : foldedSetIterable e env x = pure x := by
  cases e <;> first | rfl | cases h
theorem noswap_of {e : Expr} {t : Option Expr} {l : Nat} {env : PySem.Env} (h : notComp e = true) : swapsWith e t l env = pure false := by
  cases e <;> first | rfl | cases h
theorem noswap_cell {e : Expr} {x : Str} {p : Pos} {l : Nat} {env : PySem.Env} (h : env.scope.names.lookup x = some .cell) : swapsWith e (some (.Name x p)) l env = pure false := by
  have ky : (env.kindOf x == some .local) = false := by
    have : env.kindOf x = some .cell := h
    rw [this]; rfl
  cases e <;> first | rfl | (unfold swapsWith; simp only [ky, Bool.and_false, Bool.false_and]; done) | (unfold swapsWith; simp only [ky, Bool.and_false, Bool.false_and]; rfl)
theorem assign_cons {e : Expr} {es : List Expr} {env : PySem.Env} (h : notStar e = true) : assignEach (e :: es) env = (false, assign e env) :: assignEach es env := by
  cases e <;> first | rfl | cases h
end Lw
end

section
set_option Elab.async false
set_option linter.all false
set_option maxRecDepth 100000
set_option maxHeartbeats 4000000
/-! L16: readings of the composed expressions -/
namespace Lw
open PySem L2
variable [TabInfo]
section
variable {K : PySem.W.Frag} {mg : Str → Option Value} {W : WX} {P P' P1 P2 : Addr → Prop} {H H' H1 H0 H2 : Hp} {σ σ' σ1 : L2.St} {E E' E1 E0 : SE} {Q : VK}
theorem isEmpty_len {α β : Type} {xs : List α} {ys : List β} (h : xs.length = ys.length) : (!xs.isEmpty) = !ys.isEmpty := by
  cases xs <;> cases ys <;> simp at h ⊢
theorem truth_ok {T : Addr → Prop} {v : V} {d : D} {b : Bool} (h : TopB K H T v d) (e : truthD d = some b) : TruV K v H b := by
  unfold truthD at e
  split at e
  · have := h.non; subst this; cases e; rfl
  · have := h.bl; subst this; cases e; rfl
  · have := h.int; subst this; cases e; rfl
  · have := h.str; subst this
    split at e
    · cases e; exact ⟨by assumption, rfl⟩
    · cases e
  · obtain ⟨p, vs, rfl, h1, h2⟩ := h.lst
    cases e
    refine .inl ⟨vs, SqL.of h1, ?_⟩
    rw [isEmpty_len h2.length]
  · obtain ⟨p, vs, rfl, h1, h2⟩ := h.tup
    cases e
    refine .inr (.inl ⟨vs, h1, ?_⟩)
    rw [isEmpty_len h2.length]
  · obtain ⟨p, rfl, h1⟩ := h.scr
    cases e
    refine .inl ⟨_, h1.sq, ?_⟩
    rename_i ns
    cases ns <;> rfl
  · obtain ⟨p, vs, rfl, h1, h2, h3⟩ := h.dk
    cases e
    refine .inr (.inr ⟨_, h1, ?_⟩)
    rename_i ks _
    cases ks with
    | nil => simp
    | cons k ks =>
      cases vs with
      | nil => simp at h2
      | cons v vs => simp
  · cases e
theorem truR {X : Cx} : TruR X (rTru X.K) := fun pins s σ H x v Q I rx ⟨T, d, b, h, e, q⟩ => tru_ok pins s σ H x v Q I rx ⟨b, truth_ok h e, q⟩
theorem cmpS_bl {o : CmpOp} {a b : D} {s : Sl} (h : cmpS o a b = some s) : ∃ k, s = vB k := by
  have m : ∀ {x : Option Bool} {f : Bool → Bool}, (x.map fun k => vB (f k)) = some s → ∃ k, s = vB k := fun {x f} e => by
    cases x with
    | none => cases e
    | some k => cases e; exact ⟨_, rfl⟩
  have m0 : ∀ {x : Option Bool}, x.map vB = some s → ∃ k, s = vB k := fun {x} e => by
    cases x with
    | none => cases e
    | some k => cases e; exact ⟨_, rfl⟩
  have m2 : ∀ {c : Bool} {k : Bool}, (if c = true then some (vB k) else none) = some s → ∃ k, s = vB k := fun {c k} e => by
    cases c with
    | false => cases e
    | true => cases e; exact ⟨_, rfl⟩
  unfold cmpS at h
  cases o <;> dsimp only at h
  · exact m0 h
  · exact m h
  all_goals (split at h <;> first | (cases h; exact ⟨_, rfl⟩) | cases h | exact m0 h | exact m h | exact m2 h)
/-- a comparison's truth -/
theorem cmp_tru {o : CmpOp} {x y : V} {Q : Bool → Hp → Prop} (h : r2D K (cmpS o) x y H fun x H' => rTru K x H' Q) : r2D K (cmpS o) x y H fun x H' => ∃ k, x = .bl k ∧ Q k H' := by
  obtain ⟨T, a, b, h1, h2, h3⟩ := h
  refine ⟨T, a, b, h1, h2, ?_⟩
  cases e : cmpS o a b with
  | none => rw [e] at h3; exact h3
  | some s =>
    rw [e] at h3
    obtain ⟨k, rfl⟩ := cmpS_bl e
    intro v H' ext r
    obtain ⟨T', d, b, t, e, q⟩ := h3 v H' ext r
    have hv : v = .bl k := by
      obtain ⟨S, r, _⟩ := (show RepB K H' T v (.bl k) from r)
      cases r; rfl
    subst hv
    refine ⟨k, rfl, ?_⟩
    obtain ⟨S, t, _⟩ := t
    cases t with
    | sc t _ =>
      cases t
      cases e
      exact q
theorem tt_cmp {o : CmpOp} {oa ob : Opd} {Q : Bool → Hp → Prop} (h : tOp (r2D K (cmpS o)) (tOpd K mg W oa) (tOpd K mg W ob) σ H fun x H1 => rTru K x H1 Q) : tTest (tOp (r2D K (cmpS o)) (tOpd K mg W oa) (tOpd K mg W ob)) σ H Q :=
  op_mono h fun x H1 h => op_mono h fun y H2 h => cmp_tru h
/-- a < b < c -/
theorem te_chn {o o' : CmpOp} {oa ob oc : Opd} (h : TEof K mg W (M.bind (evA [oa, ob]) fun ds => match ds with
    | [.int x, .int y] => match cmpS o (.int x) (.int y) with
      | some (.val (.bl true)) => M.bind (evA [oc]) fun es => M.opt (match es with | [.int z] => cmpS o' (.int y) (.int z) | _ => none)
      | some (.val (.bl false)) => M.pure (vB false)
      | _ => M.bad
    | _ => M.bad) σ H Q) : tChain (r2D K (cmpS o)) (r2D K (cmpS o')) (tOpd K mg W oa) (tOpd K mg W ob) (tOpd K mg W oc) σ H Q := by
  obtain ⟨P, E, gd, h⟩ := h
  have ha := bindA (os := [oa, ob]) ppE gd h
  refine op_mono (show tOpd K mg W oa σ H _ from ha) fun v H1 hb => ?_
  refine op_mono (show tOpd K mg W ob σ H1 _ from hb) fun w H2 hc => ?_
  clear h ha hb gd
  obtain ⟨ds, P1, E1, g1, ts, h⟩ := hc
  obtain ⟨x, y, rfl⟩ : ∃ x y, ds = [.int x, .int y] := by
    rcases ds with _ | ⟨d1, _ | ⟨d2, _ | ⟨d3, r⟩⟩⟩
    · exact h.elim
    · cases d1 <;> exact h.elim
    · cases d1 <;> first | exact h.elim | (cases d2 <;> first | exact h.elim | exact ⟨_, _, rfl⟩)
    · cases d1 <;> first | exact h.elim | (cases d2 <;> exact h.elim)
  have e2 := ts.ints2
  cases e2
  obtain ⟨t1, t2⟩ : TopB K H2 (Fz P1 σ E1) (.int x) (.int x) ∧ TopB K H2 (Fz P1 σ E1) (.int y) (.int y) := by
    cases ts with
    | cons t1 ts => cases ts with
      | cons t2 ts => exact ⟨t1, t2⟩
  refine ⟨_, _, _, t1, t2, ?_⟩
  dsimp only at h
  cases e : cmpS o (.int x) (.int y) with
  | none => rw [e] at h; exact h.elim
  | some s =>
  obtain ⟨k, rfl⟩ := cmpS_bl e
  rw [e] at h
  intro z H3 ext r
  have hz : z = .bl k := by
    obtain ⟨S, r, _⟩ := (show RepB K H3 _ z (.bl k) from r)
    cases r; rfl
  refine ⟨k, hz, ?_⟩
  have h3 := ppE.step h (Lnk.ext ext) fun _ z => z
  cases k with
  | true =>
    rw [if_pos rfl]
    refine op_mono (show tOpd K mg W oc σ H3 _ from bindA (os := [oc]) ppE (g1.ext ext) h3) fun u H4 hd => ?_
    clear h3
    obtain ⟨ds, P2, E2, g2, ts2, h4⟩ := hd
    obtain ⟨zz, rfl⟩ : ∃ z, ds = [.int z] := by
      rcases ds with _ | ⟨d1, _ | ⟨d2, r⟩⟩
      · exact h4.elim
      · cases d1 <;> first | exact h4.elim | exact ⟨_, rfl⟩
      · cases d1 <;> exact h4.elim
    obtain ⟨t3⟩ : Nonempty (PLift (TopB K H4 (Fz P2 σ E2) u (.int zz))) := by
      cases ts2 with
      | cons t3 ts => exact ⟨⟨t3⟩⟩
    refine ⟨_, _, _, (RepB.int (K := K) (H := H4) (T := Fz P2 σ E2) y).top, t3.down, ?_⟩
    dsimp only at h4
    cases e3 : cmpS o' (.int y) (.int zz) with
    | none => rw [e3] at h4; exact h4.elim
    | some s =>
      rw [e3] at h4
      intro q H5 ext5 pr
      exact post_of g2 g2 Lnk.refl (fun _ z => z) ext5 pr h4
  | false =>
    rw [if_neg (by decide)]
    exact ok_val (g1.ext ext) (.bl false) h3
/-! ### slices -/
def partV : Bool → V → Option (Option Int)
  | true, .non => some none
  | false, .int i => some (some i)
  | _, _ => none
theorem part_of {T : Addr → Prop} {b : Bool} {v : V} {d : D} {lo : Option Int} (t : TopB K H T v d) (e : partD b d = some lo) : partV b v = some lo := by
  unfold partD at e
  split at e
  · have := t.non; subst this; cases e; rfl
  · have := t.int; subst this; cases e; rfl
  · cases e
theorem te_part {b : Bool} {o : Opd} {G : VK} (h : tOpd K mg W (partO b o) σ H G) : tOpd K mg W o σ H fun v H1 => ∃ lo, partV b v = some lo ∧ G v H1 :=
  op_mono (te_op1 (f := fun d => (partD b d).map fun _ => .val d) h) fun v H1 ⟨T, d, t, q⟩ => by
    dsimp only at q
    cases e : partD b d with
    | none => rw [e] at q; exact q.elim
    | some lo =>
      rw [e] at q
      refine ⟨lo, part_of t e, PostP.v q ?_⟩
      unfold partD at e
      split at e
      · have := t.non; subst this; exact .non
      · have := t.int; subst this; exact .int _
      · cases e
theorem te_slc {oa ol oh : Opd} {bl bh : Bool} (h : TEof K mg W (M.bind (evA [oa, partO bl ol, partO bh oh]) fun ds => M.opt (slP bl bh ds)) σ H Q) :
    tOpd K mg W oa σ H fun x H1 => tOpd K mg W ol σ H1 fun l H2 => ∃ lo, partV bl l = some lo ∧ tOpd K mg W oh σ H2 fun u H3 => ∃ hi, partV bh u = some hi ∧ rsD K x lo hi H3 Q := by
  have h := prim_sound (ops := [oa, partO bl ol, partO bh oh]) (p := slP bl bh) (r := fun Q vs H => match vs with | [x, l, u] => ∃ lo hi, partV bl l = some lo ∧ partV bh u = some hi ∧ rsD K x lo hi H Q | _ => False) (fun vs H Q T ds ts q => by
    unfold slP at q
    split at q
    · cases ts with
      | cons t1 ts => cases ts with
        | cons t2 ts => cases ts with
          | cons t3 ts => cases ts with
            | nil =>
              split at q
              · exact ⟨_, _, part_of t2 (by assumption), part_of t3 (by assumption), T, _, t1, q⟩
              · exact q.elim
    · exact q.elim) σ H Q h
  refine op_mono (show tOpd K mg W oa σ H _ from h) fun x H1 h1 => ?_
  refine op_mono (te_part (show tOpd K mg W (partO bl ol) σ H1 _ from h1)) fun l H2 ⟨lo, e, h2⟩ => ⟨lo, e, ?_⟩
  refine op_mono (te_part (show tOpd K mg W (partO bh oh) σ H2 _ from h2)) fun u H3 ⟨hi, e2, h3⟩ => ⟨hi, e2, ?_⟩
  obtain ⟨lo', hi', e3, e4, q⟩ := h3
  rw [e] at e3; cases e3
  rw [e2] at e4; cases e4
  exact q
/-! ### displays -/
theorem disp_tup {P : Addr → Prop} {xs : List V} {ds : List D} {p : Addr} (g : Good K P H σ E) (r : RepsB K H (Fz P σ E) xs ds) (hp : H p = none) (h : PostE K mg W P σ E H Q (.ok (.val (.tup ds)) E)) : Q (.ref p) (upd H p (.tup xs)) :=
  post_of g g Lnk.refl (fun _ z => z) (ext_upd hp) (s := .val (.tup ds)) (RepB.tup (SqT.of upd_same) (r.keep (Kp.of (ext_upd hp)))) h
theorem disp_lst {P : Addr → Prop} {xs : List V} {ds : List D} {p : Addr} (g : Good K P H σ E) (r : RepsB K H (Fz P σ E) xs ds) (hp : H p = none) (h : PostE K mg W P σ E H Q (.ok (.own (.lst ds)) E)) : Q (.ref p) (upd H p (.lst xs)) :=
  post_of g g Lnk.refl (fun _ z => z) (ext_upd hp) (s := .own (.lst ds)) ⟨p, rfl, hp, OwnB.lst upd_same ((r.monoD fun b o e z => ⟨z, ne_of_none e hp⟩ : RepsB K H (fun b => Fz P σ E b ∧ b ≠ p) xs ds).keep (Kp.of (ext_upd hp)))⟩ h
theorem te_tup {Φ : Nat → M Sl} {C : Nat → D} {as : List Lw.E} (h : TEof K mg W (M.bind (evD Φ C as) fun ds => if ds.length ≤ sizeLine then M.pure (.val (.tup ds)) else M.bad) σ H Q) : tTup (tDisp K mg W Φ C as) σ H Q := by
  obtain ⟨P, E, g, h⟩ := h
  refine dispL as σ H _ ⟨P, E, g, ?_⟩
  rw [mbind] at h
  cases e : evD Φ C as E with
  | bad => rw [e] at h; exact h
  | exc Cn x E1 => rw [e] at h; exact h
  | ok ds E1 =>
    rw [e, bind_ok] at h
    intro vs H1 g1 l1 rs
    by_cases hz : ds.length ≤ sizeLine
    · rw [if_pos hz] at h
      exact ⟨by rw [rs.length]; exact hz, fun p hp => disp_tup g1 rs hp (ppE.step (r := .ok (.val (.tup ds)) E1) h l1 fun _ z => z)⟩
    · rw [if_neg hz] at h; exact h.elim
theorem te_lst {Φ : Nat → M Sl} {C : Nat → D} {as : List Lw.E} (h : TEof K mg W (M.bind (evD Φ C as) fun ds => if ds.length ≤ sizeLine then M.pure (.own (.lst ds)) else M.bad) σ H Q) : tLst (tDisp K mg W Φ C as) σ H Q := by
  obtain ⟨P, E, g, h⟩ := h
  refine dispL as σ H _ ⟨P, E, g, ?_⟩
  rw [mbind] at h
  cases e : evD Φ C as E with
  | bad => rw [e] at h; exact h
  | exc Cn x E1 => rw [e] at h; exact h
  | ok ds E1 =>
    rw [e, bind_ok] at h
    intro vs H1 g1 l1 rs
    by_cases hz : ds.length ≤ sizeLine
    · rw [if_pos hz] at h
      exact ⟨by rw [rs.length]; exact hz, fun p hp => disp_lst g1 rs hp (ppE.step (r := .ok (.own (.lst ds)) E1) h l1 fun _ z => z)⟩
    · rw [if_neg hz] at h; exact h.elim
/-- a new object of one's own -/
theorem te_new {d : D} (h : TEof K mg W (M.pure (.own d)) σ H Q) {p : Addr} {H' : Hp} (hp : H p = none) (ext : ∀ a o, H a = some o → H' a = some o) (r : ∀ T, OwnB K H' T p d) : Q (.ref p) H' := by
  obtain ⟨P, E, g, h⟩ := h
  exact post_of g g Lnk.refl (fun _ z => z) ext (s := .own d) ⟨p, rfl, hp, r _⟩ h
theorem te_dict0 (h : TEof K mg W (M.pure (.own (.dk [] []))) σ H Q) : tDNewK σ H Q := fun p hp =>
  te_new h hp (ext_upd hp) fun T => ⟨[], .dk (vs := []) upd_same rfl .nil, fun _ z => nomatch z⟩
theorem te_dict1 {k : Str} {n : Int} (h : TEof K mg W (M.pure (.own (.dk [.inr k] [.int n]))) σ H Q) : L2.tDisp [(tC (.str k), tC (.int n))] σ H Q := fun p hp => by
  refine ⟨upd_same, [(.inr k, .int n)], rfl, by simp, ?_⟩
  refine te_new h hp (fun a o e => ?_) fun T => ⟨[], .dk (vs := [.int n]) upd_same rfl (.cons (.int n) .nil), fun _ z => nomatch z⟩
  have hne : a ≠ p := ne_of_none e hp
  rw [upd_ne hne, upd_ne hne]; exact e
theorem te_dicti {k : Int} {n : Bool} (h : TEof K mg W (M.pure (.own (.dk [.inl k] [.bl n]))) σ H Q) : L2.tDisp [(tC (.int k), tC (.bl n))] σ H Q := fun p hp => by
  refine ⟨upd_same, [(.inl k, .bl n)], rfl, by simp, ?_⟩
  refine te_new h hp (fun a o e => ?_) fun T => ⟨[], .dk (vs := [.bl n]) upd_same rfl (.cons (.bl n) .nil), fun _ z => nomatch z⟩
  have hne : a ≠ p := ne_of_none e hp
  rw [upd_ne hne, upd_ne hne]; exact e
theorem te_sset {P : Program} {w : World} {o : Opd} (h : TEof K mg W (M.bind (evA [o]) fun ds => M.opt (match ds with | [x] => ssetS x | _ => none)) σ H Q) :
    tCB (rSortedT K P w) (tCons (tCB (rSetOfT K P w) (tCons (tOpd K mg W o) tNil)) tNil) σ H Q :=
  op_mono (te_op1 h) fun x H1 ⟨T, d, t, q⟩ => by
    unfold ssetS at q
    split at q
    · rename_i xs
      cases ep : prsOf xs with
      | none => rw [ep] at q; exact q.elim
      | some ps =>
        rw [ep] at q
        dsimp only at q
        split at q
        · rename_i hlen
          obtain ⟨l, vs, rfl, h1, h2⟩ := t.lst
          obtain ⟨ks, rfl, k1, k2, k3⟩ := prs_at ep h2
          have kl : ks.length = ps.length := by have := congrArg List.length k2; simpa using this
          refine ⟨l, ks, rfl, SqL.of h1, k1, by omega, fun a L ha sub cov => ?_⟩
          have ext := ext_upd (o := SetTO P w a L) ha
          have inps : ∀ p ∈ L, ∃ q ∈ ps, p.2 = prL q := fun p hp => by
            have : p.2 ∈ ks.map (·.2) := List.mem_map_of_mem (sub p hp)
            rw [k2] at this
            obtain ⟨q, hq, e⟩ := List.mem_map.mp this
            exact ⟨q, hq, e.symm⟩
          refine ⟨a, L, 2, 2 ^ 31, rfl, upd_same, fun p hp => (Kp.of ext : Kp (fun _ => True) H1 _).sqT (k1 p (sub p hp)), by decide, fun p hp => ?_, fun L' p pm nd hln pw hp => ?_⟩
          · obtain ⟨q, hq, e⟩ := inps p hp
            rw [e]
            have := k3 q hq
            refine ⟨rfl, fun x hx => ?_⟩
            simp [prL] at hx
            rcases hx with rfl | rfl
            · exact this.1
            · exact this.2
          · have hpa : p ≠ a := fun e => by rw [e, upd_same] at hp; cases hp
            rw [upd_ne hpa] at hp
            -- what is sorted
            have toP : ∀ q ∈ L', ∃ r ∈ ps, q.2 = prL r := fun q hq => inps q (pm.mem_iff.mp hq)
            have getP : ∃ rs : List (Int × Int), L'.map (·.2) = rs.map prL ∧ ∀ r ∈ rs, r ∈ ps := by
              clear pm nd pw hln
              induction L' with
              | nil => exact ⟨[], rfl, fun _ z => (List.not_mem_nil z).elim⟩
              | cons q L' ih =>
                obtain ⟨rs, e1, e2⟩ := ih fun q hq => toP q (List.mem_cons_of_mem _ hq)
                obtain ⟨r, hr, e⟩ := toP q List.mem_cons_self
                exact ⟨r :: rs, by simp [e, e1], fun x hx => (List.mem_cons.mp hx).elim (fun z => z ▸ hr) (e2 x)⟩
            obtain ⟨rs, e1, e2⟩ := getP
            have srt : rs.Pairwise LtP := by
              have pw' : (L'.map (·.2)).Pairwise fun a b => TS.code (2 ^ 31) a ≤ TS.code (2 ^ 31) b := List.pairwise_map.mpr pw
              have nd' : (L'.map (·.2)).Pairwise (· ≠ ·) := nd
              rw [e1] at pw' nd'
              rw [List.pairwise_map] at pw' nd'
              refine (pw'.and nd').imp_of_mem fun {x y} hx hy z => ?_
              have bx := k3 x (e2 x hx)
              have by' := k3 y (e2 y hy)
              have bd : ∀ z : Int × Int, ((0 ≤ z.1 ∧ z.1 < 2 ^ 31) ∧ (0 ≤ z.2 ∧ z.2 < 2 ^ 31)) → TS.Bd (2 ^ 31) [z.1, z.2] := fun z hz u hu => by
                simp at hu
                rcases hu with rfl | rfl
                · exact hz.1
                · exact hz.2
              have := code_lex (bd x bx) (bd y by') z.1
              rw [LtP, ltP_iff]
              have ne : ¬ (x.1 = y.1 ∧ x.2 = y.2) := fun e => z.2 (by rw [Prod.ext e.1 e.2])
              omega
            have eq : rs = sortP ps := sorted_uniq srt sorted_sortP fun x => by
              rw [mem_sortP]
              refine ⟨e2 x, fun hx => ?_⟩
              have hk : prL x ∈ ks.map (·.2) := by rw [k2]; exact List.mem_map_of_mem hx
              obtain ⟨q, hq, e⟩ := List.mem_map.mp hk
              have := cov q hq
              rw [e] at this
              have := (pm.map (·.2)).mem_iff.mpr this
              rw [e1] at this
              obtain ⟨r, hr, e⟩ := List.mem_map.mp this
              rw [← prL_inj e]; exact hr
            subst eq
            refine q (.ref p) _ (fun b o e => ?_) ⟨p, rfl, hp, OwnB.lst upd_same (RepsB.of_get (by have := congrArg List.length e1; simpa using this) fun i v d ev ed => ?_)⟩
            · have n1 : b ≠ p := ne_of_none e hp
              have n2 : b ≠ a := ne_of_none e ha
              rw [upd_ne n1, upd_ne n2]; exact e
            · rw [List.getElem?_map] at ev ed
              cases ei : L'[i]? with
              | none => rw [ei] at ev; cases ev
              | some q0 =>
                rw [ei] at ev
                cases ev
                cases er : (sortP ps)[i]? with
                | none => rw [er] at ed; cases ed
                | some r =>
                  rw [er] at ed
                  cases ed
                  have h0 : (L'.map (·.2))[i]? = ((sortP ps).map prL)[i]? := by rw [e1]
                  rw [List.getElem?_map, List.getElem?_map, ei, er] at h0
                  have h0 : q0.2 = prL r := by simpa using h0
                  have sq := k1 q0 (sub q0 (pm.mem_iff.mp (List.mem_of_getElem? ei)))
                  have ex2 : ∀ b o, H1 b = some o → upd (upd H1 a (SetTO P w a L)) p (.lst (L'.map fun q => V.ref q.1)) b = some o := fun b o e => by
                    have n1 : b ≠ p := ne_of_none e hp
                    have n2 : b ≠ a := ne_of_none e ha
                    rw [upd_ne n1, upd_ne n2]; exact e
                  have sq := (Kp.of ex2 : Kp (fun _ => True) H1 _).sqT sq
                  rw [h0] at sq
                  exact RepB.tup sq (.cons (.int _) (.cons (.int _) .nil))
        · exact q.elim
    · exact q.elim
def tRev2 (K : PySem.W.Frag) (te : TE) : TE := fun σ H Q => te σ H fun x H1 => ∃ a xs, x = .ref a ∧ ((SqL K H1 a xs ∧ ∀ p, H1 p = none → Q (.ref p) (upd H1 p (.lst xs.reverse))) ∨ (SqT K H1 a xs ∧ ∀ p, H1 p = none → Q (.ref p) (upd H1 p (.tup xs.reverse))))
theorem te_rev {o : Opd} (h : TEof K mg W (M.bind (evA [o]) fun ds => M.opt (match ds with | [x] => revS x | _ => none)) σ H Q) : tRev2 K (tOpd K mg W o) σ H Q :=
  op_mono (te_op1 h) fun x H1 ⟨T, d, t, q⟩ => by
    cases d with
    | lst xs =>
      obtain ⟨p, vs, rfl, h1, h2⟩ := t.lst
      exact ⟨p, vs, rfl, .inl ⟨SqL.of h1, fun a ha => PostP.newLst q ha h2.reverse⟩⟩
    | tup xs =>
      obtain ⟨p, vs, rfl, h1, h2⟩ := t.tup
      exact ⟨p, vs, rfl, .inr ⟨h1, fun a ha => PostP.newTup q ha h2.reverse⟩⟩
    | _ => exact q.elim
theorem te_upper {o : Opd} (h : TEof K mg W (M.bind (evA [o]) fun ds => M.opt (mtP .upper ds)) σ H Q) : tM0 (fun x xs H Q => ∃ a, x = .str a ∧ xs = [] ∧ a.length ≤ 5592405 ∧ Q (.str (Txt.upper a)) H) (tOpd K mg W o) σ H Q := by
  have h := prim_sound (ops := [o]) (p := mtP .upper) (r := fun Q vs H => match vs with | [x] => r1D K (fun d => mtS .upper d []) x H Q | _ => False) (fun vs H Q T ds ts q => by
    cases ts with
    | nil => exact q.elim
    | cons t1 ts =>
      cases ts with
      | nil => exact ⟨T, _, t1, q⟩
      | cons t2 ts => rename_i v1 d1 v2 d2 l1 l2; cases d1 <;> exact q.elim) σ H Q h
  refine op_mono (show tOpd K mg W o σ H _ from h) fun x H1 ⟨T, d, t, q⟩ => ?_
  cases d with
  | str z =>
    have := t.str; subst this
    simp only [mtS] at q
    split at q
    · rename_i hz
      exact ⟨⟨z, rfl⟩, z, rfl, rfl, hz, PostP.v q (.str _)⟩
    · exact q.elim
  | _ => exact q.elim
theorem te_neg {o : Opd} (h : TEof K mg W (M.bind (evA [o]) fun ds => M.opt (match ds with | [x] => negS x | _ => none)) σ H Q) : tUn (rU fun i => .int (-i)) (tOpd K mg W o) σ H Q :=
  op_mono (te_op1 h) fun x H1 ⟨T, d, t, q⟩ => by
    cases d with
    | int i =>
      have := t.int; subst this
      exact ⟨i, rfl, PostP.v q (.int _)⟩
    | _ => exact q.elim
theorem rgV_reps {T : Addr → Prop} (a b : Int) : RepsB K H T (rgV a b) (rngD a b) := by
  unfold rgV rngD
  refine RepsB.of_get (by simp) fun i v d e1 e2 => ?_
  rw [List.getElem?_map] at e1 e2
  cases e : (List.range (b - a).toNat)[i]? with
  | none => rw [e] at e1; cases e1
  | some j =>
    rw [e] at e1 e2
    cases e1; cases e2
    exact .int _
theorem lr_ok {T : Addr → Prop} {a b : Int} {Q : VK} (q : PostP K H T Q (lrS a b)) : RgOk a b ∧ ∀ p, H p = none → Q (.ref p) (upd H p (.lst (rgV a b))) := by
  unfold lrS at q
  split at q
  · rename_i h
    exact ⟨⟨h.1.1, h.1.2, h.2.1.1, h.2.1.2, h.2.2⟩, fun p hp => PostP.newLst q hp (rgV_reps a b)⟩
  · exact q.elim
theorem te_lr1 {o : Opd} (h : TEof K mg W (M.bind (evA [o]) fun ds => M.opt (match ds with | [x] => lr1S x | _ => none)) σ H Q) : tLstRg (tRg1 (tOpd K mg W o)) σ H Q :=
  op_mono (te_op1 h) fun x H1 ⟨T, d, t, q⟩ => by
    cases d with
    | int n =>
      have := t.int; subst this
      exact ⟨n, rfl, lr_ok q⟩
    | _ => exact q.elim
theorem te_lr2 {o p : Opd} (h : TEof K mg W (M.bind (evA [o, p]) fun ds => M.opt (match ds with | [x, y] => lr2S x y | _ => none)) σ H Q) : tLstRg (tRg2 (tOpd K mg W o) (tOpd K mg W p)) σ H Q :=
  op_mono (te_op2 h) fun x H1 h => op_mono h fun y H2 ⟨T, a, b, t1, t2, q⟩ => by
    cases a with
    | int m =>
      cases b with
      | int n =>
        have := t1.int; subst this
        have := t2.int; subst this
        exact ⟨m, n, rfl, rfl, lr_ok q⟩
      | _ => exact q.elim
    | _ => exact q.elim
end
section
variable {X : Cx}
open PyProof.Rows in
/-- xs[::-1] of a list or a tuple -/
theorem pe_rev2 {e : Expr} {te : TE} {k : Nat} {p1 p2 p3 pos : Pos} (he : PE X e te) : PE X (.Subscript e (.Slice none none (some (.UnaryOp .USub (.Constant (.int 1) k p1) p2)) p3) pos) (tRev2 X.K te) := by
  refine ⟨fun pins s σ H Q I h => ?_⟩
  refine Subscript_ (thn (he.run pins s σ H _ I h) fun v s1 ⟨x, H1, I1, r1, a, xs, ex, hq⟩ => ?_)
  subst ex
  cases r1
  have one : PO X (some (.UnaryOp .USub (.Constant (.int 1) k p1) p2)) (tPart (tUn (rU fun i => .int (-i)) (tC (.int 1)))) := po_some (pe_un un_neg pe_int)
  refine wpAny_Slice (thn (po_none.run pins s1 σ H1 (fun o J => o = none ∧ J = H1) I1 ⟨rfl, rfl⟩) fun vl s2 ⟨l, H2, I2, pl, el, e2⟩ => ?_)
  subst el e2
  refine thn (po_none.run pins s2 σ H2 (fun o J => o = none ∧ J = H2) I2 ⟨rfl, rfl⟩) fun vu s3 ⟨u, H3, I3, pu, eu, e3⟩ => ?_
  subst eu e3
  refine thn (one.run pins s3 σ H3 (fun o J => o = some (-1) ∧ J = H3) I3 ⟨1, rfl, -1, rfl, rfl, rfl⟩) fun vs s4 ⟨o, H4, I4, ps, eo, e4⟩ => ?_
  subst eo e4
  have J : Inv X pins σ H4 { s4 with heap := s4.heap.push { cls := .type "slice", data := .fields #[vl, vu, vs] } } := I4.kept (t' := s4.toks) fun b ob q => Heap.get?_push_of_some _ q
  rcases hq with ⟨hx, q⟩ | ⟨hx, q⟩
  · obtain ⟨its, r, ht, hz⟩ := J.list hx
    have hl := r.length
    refine tail_any (ops := [.ref a, .ref s4.heap.objs.size]) ht.isList.typeIs (PySem.slot_list_getitem.lookup) ?_ (by with_unfolding_all rfl)
    refine wpAny_getItem_list_slice ht.isList (Heap.IsSliceOf.new _ vl vu vs) pl pu ps (by decide) ?_ (by rw [List.size_toArray]; omega)
    rw [PySem.W.krv_pick]
    refine ⟨.ref _, _, J.laid (t' := s4.toks) (o := .lst xs.reverse) (fun b ob z => Heap.get?_push_of_some _ z) (Nat.le_refl _) ?_, rfl, q _ (J.hok.fresh (Nat.le_refl _))⟩
    exact ⟨by rw [List.length_reverse]; exact hz, _, 0, r.reverse, Heap.get?_push_size _ rfl⟩
  · obtain ⟨its, r, ht, hz⟩ := J.tuple hx
    have hl := r.length
    refine tail_any (ops := [.ref a, .ref s4.heap.objs.size]) ht.typeIs (PyProof.Rows.slot_tuple_getitem.lookup) ?_ (by with_unfolding_all rfl)
    refine tup_back ht (Heap.IsSliceOf.new _ vl vu vs) pl pu ps ?_ (by rw [List.size_toArray]; omega)
    refine ⟨.ref _, _, J.laid (t' := s4.toks) (o := .tup xs.reverse) (fun b ob z => Heap.get?_push_of_some _ z) (Nat.le_refl _) ?_, rfl, q _ (J.hok.fresh (Nat.le_refl _))⟩
    exact ⟨by rw [List.length_reverse]; exact hz, _, r.reverse, IsTup.new _ _⟩
end
end Lw
end

section
set_option Elab.async false
set_option linter.all false
set_option maxRecDepth 100000
set_option maxHeartbeats 4000000
/-! LD4: dicts and plain tuples, what the nodes come to -/
namespace Lw
open PySem PySem.Calls PySem.Spec PyProof.Rows L2
variable [TabInfo]
section
variable {K : PySem.W.Frag} {mg : Str → Option Value} {W : WX} {P : Addr → Prop} {H : Hp} {σ : L2.St} {E : SE} {Q : VK}
theorem PostP.newPT {H : Hp} {T : Addr → Prop} {p : Addr} {o : Obj} {vs : List V} {ds : List Lw.D} (h : PostP K H T Q (some (.val (.ptup ds)))) (hp : H p = none) (hd : o.dict = none) (r : RepsB K H T vs ds) : Q (.ref p) (L2.upd H p (.frz o (.tup vs))) :=
  h _ _ (ext_upd hp) (RepB.ptup upd_same hd (r.keep (Kp.of (ext_upd hp))))
theorem PostP.newDk {H : Hp} {T : Addr → Prop} {p : Addr} {kvs : List (Key × V)} {ks : List Key} {ds : List Lw.D} (h : PostP K H T Q (some (.own (.dk ks ds)))) (hp : H p = none) (ek : kvs.map (·.1) = ks) (r : RepsB K H T (kvs.map (·.2)) ds) : Q (.ref p) (L2.upd H p (.dK kvs)) := by
  refine h _ _ (ext_upd hp) ⟨p, rfl, hp, OwnB.dk (vs := kvs.map (·.2)) ?_ (by rw [← ek]; simp) ((r.monoD fun b o e z => ⟨z, ne_of_none e hp⟩ : RepsB K H (fun b => T b ∧ b ≠ p) _ _).keep (Kp.of (ext_upd hp)))⟩
  rw [upd_same, ← ek, zip_split]
theorem te_ptup {o : Opd} (h : TEof K mg W (M.bind (evA [o]) fun ds => M.opt (match ds with | [x] => ptupS x | _ => none)) σ H Q) :
    tCB (fun xs H Q => ∃ p ys, xs = [.ref p] ∧ SqL K H p ys ∧ ∀ (l : Addr) (o : Obj), H l = none → o.dict = none → Q (.ref l) (L2.upd H l (.frz o (.tup ys)))) (tCons (tOpd K mg W o) tNil) σ H Q :=
  op_mono (te_op1 h) fun x H1 ⟨T, d, t, q⟩ => by
    unfold ptupS at q
    split at q
    · obtain ⟨a, vs, rfl, h1, h2⟩ := t.lst
      exact ⟨a, vs, rfl, SqL.of h1, fun l o hl hd => q.newPT hl hd h2⟩
    · exact q.elim
/-- pairs of keys and values -/
theorem pairs_reps {H : Hp} {T : Addr → Prop} : ∀ {xs : List Lw.D} {vs : List V} {ps : List (Key × Lw.D)}, pairsK xs = some ps → RepsB K H T vs xs → ∃ (as : List Addr) (kvs : List (Key × V)), vs = as.map V.ref ∧ Paired (fun p kv => SqT K H p [kV kv.1, kv.2]) as kvs ∧
    kvs.map (·.1) = ps.map (·.1) ∧ RepsB K H T (kvs.map (·.2)) (ps.map (·.2))
  | [], vs, ps, e, r => by
    cases e
    cases vs with
    | nil => exact ⟨[], [], rfl, .nil, rfl, .nil⟩
    | cons v vs => have := r.length; simp at this
  | d :: xs, [], ps, e, r => by have := r.length; simp at this
  | d :: xs, v :: vs, ps, e, r => by
    obtain ⟨r1, r2⟩ := r.uncons
    rw [pairsK] at e
    cases e1 : pairK d with
    | none => rw [e1] at e; cases e
    | some p =>
      cases e2 : pairsK xs with
      | none => rw [e1, e2] at e; cases e
      | some qs =>
        rw [e1, e2] at e
        cases e
        obtain ⟨as, kvs, rfl, q1, q2, q3⟩ := pairs_reps e2 r2
        unfold pairK at e1
        split at e1
        · rename_i kd vd
          obtain ⟨key, ek, rfl⟩ := Option.map_eq_some_iff.mp e1
          obtain ⟨a, ws, rfl, h1, h2⟩ := r1.top.tup
          match ws, h2 with
          | [w1, w2], h2 =>
            obtain ⟨s1, h3⟩ := h2.uncons
            obtain ⟨s2, _⟩ := h3.uncons
            have ev := s1.key_v ek
            subst ev
            exact ⟨a :: as, (key, w2) :: kvs, rfl, .cons h1 q1, by simp [q2], .cons s2 q3⟩
          | [], h2 => have := h2.length; simp at this
          | [_], h2 => have := h2.length; simp at this
          | _ :: _ :: _ :: _, h2 => have := h2.length; simp at this
        · cases e1
theorem merge_reps {H : Hp} {T : Addr → Prop} : ∀ {kvs : List (Key × V)} {ps : List (Key × Lw.D)} {acc : List (Key × V)} {accD : List (Key × Lw.D)}, kvs.map (·.1) = ps.map (·.1) → RepsB K H T (kvs.map (·.2)) (ps.map (·.2)) → acc.map (·.1) = accD.map (·.1) → RepsB K H T (acc.map (·.2)) (accD.map (·.2)) →
    (mergeK acc kvs).map (·.1) = (ps.foldl (fun acc kv => putZ acc kv.1 kv.2) accD).map (·.1) ∧ RepsB K H T ((mergeK acc kvs).map (·.2)) ((ps.foldl (fun acc kv => putZ acc kv.1 kv.2) accD).map (·.2))
  | [], [], acc, accD, _, _, h1, h2 => ⟨h1, h2⟩
  | [], p :: ps, _, _, e, _, _, _ => by simp at e
  | kv :: kvs, [], _, _, e, _, _, _ => by simp at e
  | kv :: kvs, p :: ps, acc, accD, e, r, h1, h2 => by
    simp only [List.map_cons, List.cons.injEq] at e
    obtain ⟨r1, r2⟩ := r.uncons
    have hl : (acc.map (·.1)).length = (acc.map (·.2)).length := by simp
    obtain ⟨z1, z2, z3⟩ := putZ_reps (ks := acc.map (·.1)) (vs := acc.map (·.2)) (ds := accD.map (·.2)) (key := kv.1) (v := kv.2) (d := p.2) hl h2 r1
    rw [zip_split] at z1 z2 z3
    have e3 : (acc.map (·.1)).zip (accD.map (·.2)) = accD := by rw [h1, zip_split]
    rw [e3] at z1 z2 z3
    have k1 : (putK acc kv.1 kv.2).map (·.1) = (putZ accD kv.1 p.2).map (·.1) := by
      have := congrArg (fun l => l.map (·.1)) z1
      rw [this, List.map_fst_zip]
      omega
    have := merge_reps (acc := putK acc kv.1 kv.2) (accD := putZ accD p.1 p.2) e.2 r2 (by rw [← e.1]; exact k1) (by rw [← e.1]; exact z3)
    exact this
theorem dict_post {H : Hp} {T : Addr → Prop} {p : Addr} {xs : List Lw.D} {vs : List V} {ps : List (Key × Lw.D)} (e : pairsK xs = some ps) (r : RepsB K H T vs xs) (h : PostP K H T Q (some (dkOf ps))) :
    ∃ (as : List Addr) (kvs : List (Key × V)), vs = as.map V.ref ∧ Paired (fun p kv => SqT K H p [kV kv.1, kv.2]) as kvs ∧ ∀ p, H p = none → Q (.ref p) (L2.upd H p (.dK (mergeK [] kvs))) := by
  obtain ⟨as, kvs, e1, e2, e3, e4⟩ := pairs_reps e r
  refine ⟨as, kvs, e1, e2, fun p hp => ?_⟩
  obtain ⟨m1, m2⟩ := merge_reps (acc := []) (accD := []) e3 e4 rfl .nil
  unfold dkOf at h
  exact h.newDk hp m1 m2
theorem te_dictl {o : Opd} (h : TEof K mg W (M.bind (evA [o]) fun ds => M.opt (match ds with | [x] => dictlS x | _ => none)) σ H Q) :
    tCB (fun xs H Q => ∃ (a : Addr) (ps : List Addr) (kvs : List (Key × V)), xs = [.ref a] ∧ SqL K H a (ps.map V.ref) ∧ Paired (fun p kv => SqT K H p [kV kv.1, kv.2]) ps kvs ∧ ∀ p, H p = none → Q (.ref p) (L2.upd H p (.dK (mergeK [] kvs)))) (tCons (tOpd K mg W o) tNil) σ H Q :=
  op_mono (te_op1 h) fun x H1 ⟨T, d, t, q⟩ => by
    unfold dictlS at q
    split at q
    · rename_i xs
      cases e : pairsK xs with
      | none => rw [e] at q; exact q.elim
      | some ps =>
        rw [e] at q
        obtain ⟨a, vs, rfl, h1, h2⟩ := t.lst
        obtain ⟨as, kvs, rfl, e2, e3⟩ := dict_post (p := a) e h2 q
        exact ⟨a, as, kvs, rfl, SqL.of h1, e2, e3⟩
    · exact q.elim
theorem zs_reps {H' : Hp} {T : Addr → Prop} : ∀ {zs : List (Addr × Int × Int)}, (∀ z ∈ zs, H' z.1 = some (.tup [.int z.2.1, .int z.2.2])) → RepsB K H' T (zs.map fun z => V.ref z.1) ((zs.map (·.2)).map prD)
  | [], _ => .nil
  | z :: zs, h => .cons (RepB.tup (.inl (.inl (h z List.mem_cons_self))) (.cons (.int _) (.cons (.int _) .nil))) (zs_reps fun y hy => h y (List.mem_cons_of_mem _ hy))
theorem zip_ints : ∀ {is ns : List Int}, (is.map (Sum.inl : Int → Key)).zip (ns.map V.int) = (is.zip ns).map fun p => ((Sum.inl p.1 : Key), V.int p.2)
  | [], _ => by simp
  | _ :: _, [] => by simp
  | i :: is, n :: ns => by simp [zip_ints (is := is) (ns := ns)]
theorem te_sitems {o : Opd} (h : TEof K mg W (M.bind (evA [o]) fun ds => M.opt (match ds with | [x] => sitemsS x | _ => none)) σ H Q) : tSItems (tOpd K mg W o) σ H Q :=
  op_mono (te_op1 h) fun x H1 ⟨T, d, t, q⟩ => by
    unfold sitemsS at q
    split at q
    · rename_i ks ds e
      obtain ⟨a, vs, rfl, hR, hl, rs⟩ := t.dict e
      split at q
      · rename_i is ns e1 e2
        split at q
        · rename_i hz
          have ev := ints_v rs e2
          subst ev
          have ek := keyInts_map e1
          subst ek
          have hl' : is.length = ns.length := by simpa using hl
          refine ⟨a, is.zip ns, rfl, by rw [← zip_ints]; exact hR, by rw [List.length_zip]; simp at hz; omega, fun H' l zs ext hn e3 e4 hz2 => ?_⟩
          refine q (.ref l) H' ext ⟨l, rfl, hn, OwnB.lst e4 ?_⟩
          rw [← e3]
          exact zs_reps hz2
        · exact q.elim
      · exact q.elim
    · exact q.elim
theorem ints_reps {H' : Hp} {T : Addr → Prop} : ∀ ns : List Int, RepsB K H' T (ns.map V.int) (ns.map Lw.D.int)
  | [] => .nil
  | n :: ns => .cons (.int n) (ints_reps ns)
theorem te_svals {o : Opd} (h : TEof K mg W (M.bind (evA [o]) fun ds => M.opt (match ds with | [x] => svalsS x | _ => none)) σ H Q) : tSVals (tOpd K mg W o) σ H Q :=
  op_mono (te_op1 h) fun x H1 ⟨T, d, t, q⟩ => by
    unfold svalsS at q
    split at q
    · rename_i ks ds e
      obtain ⟨a, vs, rfl, hR, hl, rs⟩ := t.dict e
      split at q
      · rename_i ns e2
        split at q
        · rename_i hz
          have ev := ints_v rs e2
          subst ev
          exact ⟨a, ks, ns, rfl, hR, by simpa using hl, hz, fun l hn => PostP.newLst q hn (ints_reps _)⟩
        · exact q.elim
      · exact q.elim
    · exact q.elim
theorem weak_snd {f : M Sl} (h : TEof K mg W (M.bind f fun s => M.pure (weakS s)) σ H Q) : TEof K mg W f σ H Q := by
  obtain ⟨P, E, g, h⟩ := h
  refine ⟨P, E, g, ?_⟩
  rw [mbind] at h
  cases e : f E with
  | bad => rw [e] at h; exact h.elim
  | exc C x E1 => rw [e] at h; exact h
  | ok s E1 =>
    rw [e, bind_ok] at h
    intro v H1 g1 l1 r1 n1
    cases s with
    | no => exact r1.elim
    | own d => exact h v H1 g1 l1 r1 n1
    | val d => exact h v H1 g1 l1 (RepB.weak r1) n1
end
end Lw
end

section
set_option Elab.async false
set_option linter.all false
set_option maxRecDepth 100000
set_option maxHeartbeats 4000000
/-! LD5: d.get, t.count, t + t, dict(t) -/
namespace Lw
open PySem PySem.Calls PySem.Spec PyProof.Rows L2
variable [TabInfo]
section
variable {K : PySem.W.Frag} {mg : Str → Option Value} {W : WX} {P : Addr → Prop} {H : Hp} {σ : L2.St} {E : SE} {Q : VK}
/-- a plain tuple of a slot -/
theorem Good.pt (g : Good K P H σ E) {i : Nat} {xs : List Lw.D} (e : E[i]? = some (.val (.ptup xs))) : ∃ (a : Addr) (o : Obj) (vs : List V), σ[i]? = some (some (.ref a)) ∧ H a = some (.frz o (.tup vs)) ∧ o.dict = none ∧ RepsB K H (Fz P σ E) vs xs := by
  obtain ⟨v, e1, S, r, hS⟩ := g.val i _ e
  cases r with
  | ptup h1 h2 h3 => exact ⟨_, _, _, e1, h1, h2, S, h3, hS⟩
theorem te_pcat {i j : Nat} (h : TEof K mg W (pcatM i j) σ H Q) : tOp rCatP (tVar i) (tVar j) σ H Q := by
  obtain ⟨P, E, g, h⟩ := h
  unfold pcatM at h
  split at h
  · rename_i xs ys e1 e2
    split at h
    · rename_i hz
      obtain ⟨a, oa, vs, q1, q2, q3, q4⟩ := g.pt e1
      obtain ⟨b, ob, ws, p1, p2, p3, p4⟩ := g.pt e2
      have fin : ∀ v H', (∀ a o, H a = some o → H' a = some o) → RepB K H' (Fz P σ E) v (.ptup (xs ++ ys)) → Q v H' := fun v H' ext r => post_of g g Lnk.refl (fun _ z => z) ext (s := .val (.ptup (xs ++ ys))) r h
      refine ⟨_, q1, _, p1, a, b, oa, ob, vs, ws, rfl, rfl, q2, p2, by rw [q4.length, p4.length]; exact hz, fun z => ?_, fun z => ?_, fun p o hp hd => ?_⟩
      · subst z
        have := q4.length
        have hx : xs = [] := List.eq_nil_of_length_eq_zero this.symm
        subst hx
        exact fin _ H (fun _ _ e => e) (RepB.ptup p2 p3 p4)
      · subst z
        have := p4.length
        have hx : ys = [] := List.eq_nil_of_length_eq_zero this.symm
        subst hx
        exact fin _ H (fun _ _ e => e) (by rw [List.append_nil]; exact RepB.ptup q2 q3 q4)
      · exact fin _ _ (ext_upd hp) (RepB.ptup upd_same hd ((q4.append p4).keep (Kp.of (ext_upd hp))))
    · exact h.elim
  · exact h.elim
theorem te_pdict {i : Nat} (h : TEof K mg W (pdictM i) σ H Q) :
    tCB (fun xs H Q => ∃ (a : Addr) (oa : Obj) (ps : List Addr) (kvs : List (Key × V)), xs = [.ref a] ∧ H a = some (.frz oa (.tup (ps.map V.ref))) ∧ oa.dict = none ∧ Paired (fun p kv => SqT K H p [kV kv.1, kv.2]) ps kvs ∧ ∀ p, H p = none → Q (.ref p) (L2.upd H p (.dK (mergeK [] kvs)))) (tCons (tVar i) tNil) σ H Q := by
  obtain ⟨P, E, g, h⟩ := h
  unfold pdictM at h
  split at h
  · rename_i xs e1
    obtain ⟨a, oa, vs, q1, q2, q3, q4⟩ := g.pt e1
    cases e : pairsK xs with
    | none => rw [e] at h; exact h.elim
    | some ps =>
      rw [e] at h
      have pp : PostP K H (Fz P σ E) Q (some (dkOf ps)) := fun v H' ext r => post_of g g Lnk.refl (fun _ z => z) ext (s := dkOf ps) r h
      obtain ⟨as, kvs, rfl, e2, e3⟩ := dict_post (p := a) e q4 pp
      exact ⟨_, q1, a, oa, as, kvs, rfl, q2, q3, e2, e3⟩
  · exact h.elim
def tTCnt (td ty : TE) : TE := fun σ H Q => td σ H fun x H1 => ∃ (a : Addr) (oa : Obj) (xs : List V), x = .ref a ∧ H1 a = some (.frz oa (.tup xs)) ∧ oa.dict = none ∧ ty σ H1 fun y H2 => rTCount x [y] H2 Q
theorem te_tcnt {i : Nat} {o : Opd} (h : TEof K mg W (fun E => match E[i]? with
    | some (.val (.ptup xs)) => M.bind (evA [o]) (fun ds => M.opt (match ds with | [y] => tcntS xs y | _ => none)) E
    | _ => .bad) σ H Q) : tTCnt (tVar i) (tOpd K mg W o) σ H Q := by
  obtain ⟨P, E, g, h⟩ := h
  dsimp only at h
  split at h
  · rename_i xs e1
    obtain ⟨a, oa, vs, q1, q2, q3, q4⟩ := g.pt e1
    refine ⟨_, q1, a, oa, vs, rfl, q2, q3, ?_⟩
    have key : tOpds K mg W [o] σ H (fun ys H2 => ∃ y, ys = [y] ∧ rTCount (.ref a) [y] H2 Q) := by
      refine argsL [o] σ H _ ⟨P, E, g, ?_⟩
      rw [mbind] at h
      cases e : evA [o] E with
      | bad => rw [e] at h; exact h
      | exc C x E1 => rw [e] at h; exact h
      | ok ds E1 =>
        rw [e, bind_ok] at h
        intro ys H1 P1 hp g1 l1 ts
        cases ts with
        | nil => exact h.elim
        | cons t1 ts =>
          cases ts with
          | cons t2 ts => exact h.elim
          | nil =>
            dsimp only at h
            unfold tcntS at h
            split at h
            · rename_i k
              cases en : intsOf xs with
              | none => rw [en] at h; exact h.elim
              | some ns =>
                rw [en] at h
                have ek := t1.int
                subst ek
                have ev := ints_v q4 en
                subst ev
                have q2' := l1.keep a _ q2 (fun _ z => nomatch z) fun z => by
                  obtain ⟨u, e5, m⟩ := g.ownD z
                  rw [q2] at e5
                  cases e5
                  exact m
                exact ⟨_, rfl, a, oa, ns, k, rfl, rfl, q2', q3, post_of g g1 l1 hp (fun _ _ z => z) (s := vI (ns.count k)) (.int _) h⟩
            · exact h.elim
    have := key
    exact op_mono (o := o) (Q := fun y H2 => ∃ y', [y] = [y'] ∧ rTCount (.ref a) [y'] H2 Q) this fun y H2 ⟨y', e, z⟩ => by cases e; exact z
  · exact h.elim
theorem te_dget {i : Nat} {ok ox : Opd} (h : TEof K mg W (fun E => if isDictAt E i then M.bind (evA [.slot i, ok, ox]) (fun ds => M.opt (getS ds)) E else .bad) σ H Q) :
    tDGet2 (tVar i) (tOpd K mg W ok) (tOpd K mg W ox) σ H Q := by
  obtain ⟨P, E, g, h⟩ := h
  dsimp only at h
  split at h
  case isFalse => exact h.elim
  rename_i hd
  have isD : ∃ a, σ[i]? = some (some (.ref a)) ∧ IsD H a := by
    unfold isDictAt at hd
    have of : ∀ {v d}, TopB K H (Fz P σ E) v d → (dictD d).isSome = true → ∃ a, v = .ref a ∧ IsD H a := fun {v d} t z => by
      obtain ⟨⟨ks, ds⟩, e⟩ := Option.isSome_iff_exists.mp z
      obtain ⟨a, vs, rfl, hR, _⟩ := t.dict e
      exact ⟨a, rfl, .inl ⟨_, hR⟩⟩
    split at hd
    · rename_i d e
      obtain ⟨a, e1, r⟩ := g.own i _ e
      obtain ⟨b, e2, z⟩ := of r.top hd
      cases e2
      exact ⟨a, e1, z⟩
    · rename_i d e
      obtain ⟨v, e1, r⟩ := g.val i _ e
      obtain ⟨b, rfl, z⟩ := of r.top hd
      exact ⟨b, e1, z⟩
    · cases hd
  obtain ⟨a, q1, q2⟩ := isD
  have key : tOpds K mg W [.slot i, ok, ox] σ H (fun vs H2 => ∃ x y z o, vs = [x, y, z] ∧ ∃ b, x = .ref b ∧ DGet H2 b y o ∧ Q (o.getD z) H2) := by
    refine argsL _ σ H _ ⟨P, E, g, ?_⟩
    rw [mbind] at h
    cases e : evA [.slot i, ok, ox] E with
    | bad => rw [e] at h; exact h
    | exc C x E1 => rw [e] at h; exact h
    | ok ds E1 =>
      rw [e, bind_ok] at h
      intro ys H1 P1 hp g1 l1 ts
      unfold getS at h
      split at h
      · rename_i d k x
        cases ts with
        | cons t1 ts => cases ts with
          | cons t2 ts => cases ts with
            | cons t3 ts =>
              cases ts
              split at h
              · rename_i ks vs key e1 e2
                split at h
                · rename_i hf
                  obtain ⟨b, ws, rfl, hR, hl, hr⟩ := t1.dict e1
                  have ek := t2.key e2
                  subst ek
                  refine ⟨_, _, _, valV (ks.zip ws) key, rfl, b, rfl, dget_of hR, ?_⟩
                  obtain ⟨v1, v2⟩ := val_reps (k := key) hl hr
                  cases ez : valZ ks vs key with
                  | none =>
                    rw [ez] at h
                    rw [v2 ez]
                    exact post_of g g1 l1 hp (fun _ _ z => z) (s := .val x) (flatTop t3 hf) h
                  | some d' =>
                    rw [ez] at h
                    obtain ⟨v', e5, r5⟩ := v1 d' ez
                    rw [e5]
                    exact post_of g g1 l1 hp (fun _ _ z => z) (s := .val d') r5 h
                · exact h.elim
              · exact h.elim
      · exact h.elim
  obtain ⟨v, hv, key⟩ := key
  rw [q1] at hv
  cases hv
  refine ⟨_, q1, a, rfl, q2, ?_⟩
  refine op_mono (o := ok) key fun y H1 k1 => op_mono (o := ox) k1 fun z H2 ⟨x', y', z', o, e, b, e2, e3, e4⟩ => ?_
  cases e
  cases e2
  exact ⟨o, e3, e4⟩
end
section
variable {X : Cx} {o e : Expr} {apos cpos : Pos} {td ty : TE}
theorem pe_tcount (ho : PE X o td) (he : PE X e ty) (m : M1 X o "count" apos e cpos) : PE X (.Call (.Attribute o "count" apos) [e] [] cpos) (tTCnt td ty) := by
  refine ⟨fun pins s σ H Q I h => ?_⟩
  refine wpAny_Call_method m.base m.few m.line PySem.F.plainAttrs_tuple PySem.F.slot_tuple_count PySem.F.type_tuple_count (thn (ho.run pins s σ H _ I h) fun u s1 ⟨x, H1, I1, rx, a, oa, xs, ex, hq, hd, q1⟩ => ?_)
  subst ex
  obtain rfl : u = Value.ref a := rx
  obtain ⟨hg, _, its, _, o', ho', hc, _⟩ := (show ObjOk X.prog X.w H1 s1.heap a (.frz oa (.tup xs)) from I1.hok a _ hq)
  rw [hg] at ho'
  cases ho'
  refine ⟨⟨oa, hg, hc⟩, fun b z => by cases z; exact ⟨oa, hg, hd⟩, ?_⟩
  rw [m.trees]
  refine Calls.callWith_builtin rfl (Calls.evalArgs_plain (Calls.spliced_cons (thn (he.run pins s1 σ H1 _ I1 q1) fun iv s2 ⟨y, H2, I2, ry, q2⟩ => Calls.spliced_nil ?_)))
  exact mt_tcount pins s2 σ H2 (.ref a) [y] (.ref a) [iv] Q I2 rfl (.cons ry .nil) q2
end
end Lw
end

section
set_option Elab.async false
set_option linter.all false
set_option maxRecDepth 100000
set_option maxHeartbeats 4000000
/-! LD6: dict comprehensions -/
namespace Lw
open PySem L2
variable [TabInfo]
section
variable {K : PySem.W.Frag} {mg : Str → Option Value} {W : WX} {P P' P1 P2 : Addr → Prop} {H H' H1 : Hp} {σ σ' σ1 : St} {E E' E1 : SE} {Q : VK}
/-- a dict comprehension -/
theorem dc_sound {fI : M (List D)} {tg : Tgt} {tests : List (M Bool)} {kx vx : M Sl} {own : List Nat} {tt : TT} (hst : ∀ i ∈ tg.st, i ∈ own) (htt : ∀ σ H Q, TTof K mg W0 (lcI.allT tests) σ H Q → tt σ H Q) :
    ∀ σ H Q, TEof K mg W (M.bind fI fun ds => fun E => if notOwn E own then
      (match dcI (bindT tg) tests kx vx own ds [] (wipeE E own) with
      | .ok acc E1 => .ok (.own (.dk (acc.map (·.1)) (acc.map (·.2)))) (backE E E1 own)
      | _ => .bad) else .bad) σ H Q → tDc (TIof K mg W fI) (tgT K tg) tt (TEof K mg W0 kx) (TEof K mg W0 vx) own σ H Q := by
  intro σ H Q ⟨P, E, g, h⟩
  refine ⟨P, E, g, ?_⟩
  rw [mbind] at h
  cases eI : fI E with
  | bad => rw [eI] at h; exact h.elim
  | exc Cn x E1 => rw [eI] at h; exact h
  | ok ds E1 =>
    rw [eI, bind_ok] at h
    split at h
    case isFalse => exact h.elim
    rename_i hno
    intro J H1 P1 hp g1 l1 wk D hD
    split at h
    case h_2 => exact h.elim
    rename_i accF E2 eL
    have PD : ∀ b, P1 b → b ≠ D := fun b p e => by
      obtain ⟨o, q⟩ := g1.dom b p
      rw [e, hD] at q; cases q
    have gw := g1.wipe own
    refine ⟨fun i m Hi => m = ds.length - i ∧ i ≤ ds.length ∧ ∃ Ei accV accD, Good K (fun b => P1 b ∨ b = D) Hi (wipe σ own) Ei ∧ Lnk P1 (wipe σ own) (wipeE E1 own) H1 (fun b => P1 b ∨ b = D) (wipe σ own) Ei Hi ∧
      Hi D = some (.dK accV) ∧ accV.map (·.1) = accD.map (·.1) ∧ RepsB K Hi (Fz (fun b => P1 b ∨ b = D) (wipe σ own) Ei) (accV.map (·.2)) (accD.map (·.2)) ∧ dcI (bindT tg) tests kx vx own (ds.drop i) accD Ei = .ok accF E2, ⟨ds.length, by simp, Nat.zero_le _, wipeE E1 own, [], [], ?_, ?_, upd_same, rfl, .nil, by simpa using eL⟩, ?_⟩
    · exact gw.fresh hD (ext_upd hD) upd_same
    · exact ⟨fun a o e _ _ => ext_upd hD a o e, fun a h => .inl h, fun a h => h.elim .inl fun z => .inr (.inr (by rw [z]; exact hD)), fun a e => none_upd e⟩
    · rintro i m Hi ⟨rfl, hi, Ei, accV, accD, gi, li, hDi, ki, ri, ei⟩
      have kp : Kp (fun a => P1 a ∨ Fz P1 σ E1 a) H1 Hi := fun a o e t z => gw.kp li a o e t (z.imp (fun z q => z.elim (fun z => g1.dis a (own_wipe q) z) fun z => z.2 (own_wipe q)) id)
      obtain ⟨wstop, wgo⟩ := wk Hi kp
      by_cases hlt : i < ds.length
      · -- a turn
        right
        have ed : ds[i]? = some ds[i] := by simp [hlt]
        obtain ⟨go, yld⟩ := wgo i ds[i] ed
        rw [List.drop_eq_getElem_cons hlt] at ei
        rw [dcI] at ei
        dsimp only at ei
        cases eb : bindT tg ds[i] (wipeE Ei own) with
        | none => rw [eb] at ei; cases ei
        | some Eb =>
        rw [eb] at ei
        obtain ⟨b, Et, eT, ei⟩ := R.bind_ok (f := fun (b : Bool) => fun E2 =>
          if b then (kx E2).bind fun t => fun E3 => (vx E3).bind fun s => fun E4 => match t with
            | .val t => (match keyD t with
              | some k => if accD.length < sizeLine then dcI (bindT tg) tests kx vx own (ds.drop (i + 1)) (putZ accD k s.d) (wipeE E4 own) else .bad
              | none => .bad)
            | _ => .bad
          else dcI (bindT tg) tests kx vx own (ds.drop (i + 1)) accD (wipeE E2 own)) ei
        refine ⟨go, fun H' => ds.length - (i + 1) = ds.length - (i + 1) ∧ i + 1 ≤ ds.length ∧ ∃ Ei accV accD, Good K (fun b => P1 b ∨ b = D) H' (wipe σ own) Ei ∧ Lnk P1 (wipe σ own) (wipeE E1 own) H1 (fun b => P1 b ∨ b = D) (wipe σ own) Ei H' ∧
          H' D = some (.dK accV) ∧ accV.map (·.1) = accD.map (·.1) ∧ RepsB K H' (Fz (fun b => P1 b ∨ b = D) (wipe σ own) Ei) (accV.map (·.2)) (accD.map (·.2)) ∧ dcI (bindT tg) tests kx vx own (ds.drop (i + 1)) accD Ei = .ok accF E2, fun H' q => ⟨ds.length - (i + 1), by omega, q⟩, fun x H3 y => ?_⟩
        obtain ⟨ext3, rx⟩ := yld x H3 y
        have g3 := (gi.ext ext3).wipe own
        have ww : wipe (wipe σ own) own = wipe σ own := wipe_eq (σ := σ) (st := []) Same.refl (fun _ z => nomatch z)
        rw [ww] at g3
        have l3 : Lnk P1 (wipe σ own) (wipeE E1 own) H1 (fun b => P1 b ∨ b = D) (wipe σ own) (wipeE Ei own) H3 := by
          have := (li.trans (Lnk.ext ext3)).trans (Lnk.wipe (own := own))
          rwa [ww] at this
        have rx' : RepB K H3 (Fz (fun b => P1 b ∨ b = D) (wipe σ own) (wipeE Ei own)) x ds[i] := rx.mono fun b ⟨z, o, e⟩ => l3.fz (a := b) e ⟨z.1, fun q => z.2 (own_wipe q)⟩
        refine tgt_ok tg ds[i] x _ _ Eb H3 _ g3 rx' eb fun σ2 g4 l4 s4 => ⟨wipe_eq s4 hst, htt σ2 H3 _ ⟨_, Eb, g4, ?_⟩⟩
        rw [eT]
        intro H5 g5 l5
        have l5' := (l3.trans l4).trans l5
        have ri5 : RepsB K H5 (Fz (fun b => P1 b ∨ b = D) σ2 Et) (accV.map (·.2)) (accD.map (·.2)) := by
          have r3 : RepsB K H3 (Fz (fun b => P1 b ∨ b = D) (wipe σ own) Ei) (accV.map (·.2)) (accD.map (·.2)) := ri.keep (Kp.of ext3)
          have r3' : RepsB K H3 (Fz (fun b => P1 b ∨ b = D) (wipe σ own) (wipeE Ei own)) (accV.map (·.2)) (accD.map (·.2)) := by
            have := r3.mono (T' := Fz (fun b => P1 b ∨ b = D) (wipe (wipe σ own) own) (wipeE Ei own)) fun b z => ⟨z.1, fun q => z.2 (own_wipe q)⟩
            rwa [ww] at this
          exact (r3'.lnk g3 l4).lnk g4 l5
        have hD5 : H5 D = some (.dK accV) := by
          have h3 := ext3 D _ hDi
          have h4 := l4.keep D _ h3 (fun _ z => nomatch z) fun q => g3.dis D q (.inr rfl)
          exact l5.keep D _ h4 (fun _ z => nomatch z) fun q => g4.dis D q (.inr rfl)
        have mD : ∀ {Hz : Hp} {u}, Hz D = some (.dK accV) → Hz D = some u → Mu u := fun {Hz u} e e' => by rw [e] at e'; cases e'; trivial
        cases b with
        | false =>
          simp only [Bool.false_eq_true, if_false] at ei ⊢
          refine ⟨trivial, hlt, wipeE Et own, accV, accD, ?_, ?_, hD5, ki, ?_, ei⟩
          · have := g5.wipe own
            rwa [wipe_eq s4 hst] at this
          · have := l5'.trans (Lnk.wipe (own := own))
            rwa [wipe_eq s4 hst] at this
          · have := ri5.mono (T' := Fz (fun b => P1 b ∨ b = D) (wipe σ2 own) (wipeE Et own)) fun b z => ⟨z.1, fun q => z.2 (own_wipe q)⟩
            rwa [wipe_eq s4 hst] at this
        | true =>
          simp only [if_true] at ei ⊢
          obtain ⟨t, Ek, eK, ei⟩ := R.bind_ok (f := fun (t : Sl) => fun E3 => (vx E3).bind fun s => fun E4 => match t with
            | .val t => (match keyD t with
              | some k => if accD.length < sizeLine then dcI (bindT tg) tests kx vx own (ds.drop (i + 1)) (putZ accD k s.d) (wipeE E4 own) else .bad
              | none => .bad)
            | _ => .bad) ei
          obtain ⟨s, Es, eS, ei⟩ := R.bind_ok (f := fun (s : Sl) => fun E4 => match t with
            | .val t => (match keyD t with
              | some k => if accD.length < sizeLine then dcI (bindT tg) tests kx vx own (ds.drop (i + 1)) (putZ accD k s.d) (wipeE E4 own) else .bad
              | none => .bad)
            | _ => .bad) ei
          cases t with
          | no => cases ei
          | own t => cases ei
          | val t =>
          dsimp only at ei
          cases ek : keyD t with
          | none => rw [ek] at ei; cases ei
          | some key =>
          rw [ek] at ei
          dsimp only at ei
          split at ei
          case isFalse => cases ei
          rename_i hsz
          refine ⟨_, Et, g5, ?_⟩
          rw [eK]
          intro yv H55 g55 l55 r55 n55
          have g55' : Good K (fun b => P1 b ∨ b = D) H55 σ2 Ek := g55.less fun a z => .inl z
          have l55' : Lnk (fun b => P1 b ∨ b = D) σ2 Et H5 (fun b => P1 b ∨ b = D) σ2 Ek H55 := l55.less fun a z => .inl z
          have hD55 : H55 D = some (.dK accV) := l55.keep D _ hD5 (fun _ z => nomatch z) fun q => g5.dis D q (.inr rfl)
          have ri55 := ri5.lnk g5 l55'
          have eyv : yv = kV key := RepB.key_v (r55 : RepB K H55 _ yv t) ek
          refine ⟨_, Ek, g55', ?_⟩
          rw [eS]
          intro v H6 g6 l6 r6 n6
          have g6' : Good K (fun b => P1 b ∨ b = D) H6 σ2 Es := g6.less fun a z => .inl z
          have l6' : Lnk (fun b => P1 b ∨ b = D) σ2 Ek H55 (fun b => P1 b ∨ b = D) σ2 Es H6 := l6.less fun a z => .inl z
          have hD6 : H6 D = some (.dK accV) := l6.keep D _ hD55 (fun _ z => nomatch z) fun q => g55'.dis D q (.inr rfl)
          have kD : ∀ {vs : List V} {xs : List Lw.D}, RepsB K H6 (Fz (fun b => P1 b ∨ b = D) σ2 Es) vs xs → ∀ o, RepsB K (L2.upd H6 D o) (Fz (fun b => P1 b ∨ b = D) σ2 Es) vs xs := fun r o => r.keep (kp_updP (fun z => z.1 (.inr rfl)) fun u e => mD hD6 e)
          have hkl : accV.length = accD.length := by have := congrArg List.length ki; simpa using this
          obtain ⟨z1, z2, z3⟩ := putZ_reps (ks := accV.map (·.1)) (vs := accV.map (·.2)) (ds := accD.map (·.2)) (key := key) (v := v) (d := s.d) (by simp) (ri55.lnk g55' l6') (r6.frz0 g6 n6)
          rw [zip_split] at z1 z2 z3
          have e3 : (accV.map (·.1)).zip (accD.map (·.2)) = accD := by rw [ki, zip_split]
          rw [e3] at z1 z2 z3
          have k1 : (putK accV key v).map (·.1) = (putZ accD key s.d).map (·.1) := by
            have := congrArg (fun l => l.map (·.1)) z1
            rw [this, List.map_fst_zip]
            omega
          refine ⟨accV, key, eyv, hD6, by rw [hkl]; exact hsz, trivial, hlt, wipeE Es own, putK accV key v, putZ accD key s.d, ?_, ?_, upd_same, k1, ?_, ei⟩
          · have := (g6'.updP (a := D) (o := .dK (putK accV key v)) (.inr rfl) fun u e => mD hD6 e).wipe own
            rwa [wipe_eq s4 hst] at this
          · have := (((l5'.trans l55').trans l6').updN (o := .dK (putK accV key v)) hD).trans (Lnk.wipe (own := own))
            rwa [wipe_eq s4 hst] at this
          · have := (kD z3 (.dK (putK accV key v))).mono (T' := Fz (fun b => P1 b ∨ b = D) (wipe σ2 own) (wipeE Es own)) fun b z => ⟨z.1, fun q => z.2 (own_wipe q)⟩
            rwa [wipe_eq s4 hst] at this
      · -- the end
        left
        have en : i = ds.length := by omega
        subst en
        refine ⟨wstop _ (Nat.le_refl _), ?_⟩
        rw [List.drop_length] at ei
        have ei : R.ok accD Ei = R.ok accF E2 := ei
        cases ei
        obtain ⟨gb, sub⟩ := g1.back hno (fun a z => .inl z) gi li
        have hh : ∀ b, HeldBy (.ref D) (.own (.dk (accF.map (·.1)) (accF.map (·.2)))) b → b = D := fun b z => by
          have z' : V.ref D = .ref b := z
          cases z'; rfl
        have less : ∀ b, Pl P (.ref D) (.own (.dk (accF.map (·.1)) (accF.map (·.2)))) b → (P1 b ∨ b = D) := fun b z => z.imp (hp b) (hh b)
        refine h (.ref D) Hi (gb.less less) ?_ ⟨D, rfl, ?_⟩ fun b z p => ?_
        · refine ((l1.trans (Lnk.wipe (own := own))).trans (li.trans ⟨fun a o e _ _ => e, fun a q => .inl (sub a q), fun a q => .inl q, fun _ e => e⟩)).less less
        · exact OwnB.dk (vs := accV.map (·.2)) (by rw [← ki, zip_split]; exact hDi) (by rw [← ki]; simp) (ri.mono fun b z => ⟨fun q => z.1 (less b q), fun q => z.2 (sub b q)⟩)
        · exact PD b (hp b p) (hh b z)
end
end Lw
end

section
set_option Elab.async false
set_option linter.all false
set_option maxRecDepth 100000
set_option maxHeartbeats 4000000
/-! LD7: sorted(set(t)), whole numbers -/
namespace Lw
open PySem PySem.Calls PySem.Spec PyProof.Rows L2
section
variable {X : Cx}
/-- set(t) of a tuple of whole numbers -/
def rSetI (K : PySem.W.Frag) (w : World) : List V → Hp → VK → Prop := fun xs H Q => ∃ (p : Addr) (ns : List Int), xs = [.ref p] ∧ SqT K H p (ns.map V.int) ∧ ns.length ≤ 1000 ∧
  ∀ (a : Addr) (n : Nat) (S : Int → Bool), (∀ k, S k = true ↔ k ∈ ns) → (∀ L : List Int, L.Nodup → (∀ k, k ∈ L ↔ k ∈ ns) → L.length = n) → H a = none → Q (.ref a) (upd H a (SetO w a S n))
theorem cr_setI (hc : X.calm = true) : CallR X (.type "set") (rSetI X.K X.w) := by
  intro pins s σ H xs us Q I r h
  obtain ⟨p, ns, rfl, hq, hl, q⟩ := h
  obtain ⟨u, rfl, rx⟩ := vals1 r
  cases rx
  obtain ⟨its, rv, pt, hz⟩ := I.tuple hq
  have hi : IntsAre its.toArray.toList ns := ints_of_vals rv
  refine call_set_tupI ns (I.ok.hd hc) (show s.heap.IsTuple p its.toArray from pt) hi (by unfold scanBound; omega) fun h' tk c R1 hcn k => ?_
  refine ⟨.ref s.heap.objs.size, _, I.laid (t' := tk) k (Nat.le_refl _) (setO_new R1), rfl, q _ _ _ (fun j => by simp) (fun L nd hm => ?_) (I.hok.fresh (Nat.le_refl _))⟩
  obtain ⟨o, es, ep, t, ho, hex, hdt, g, nd2, hm2, hb, hf, hn, hr, hl2⟩ := R1
  have perm : L.Perm (es.toList.map L2.keyOf) := (List.perm_ext_iff_of_nodup nd nd2).mpr fun k => by rw [hm k, ← hm2 k, decide_eq_true_eq]
  rw [perm.length_eq, List.length_map, Array.length_toList]
  exact hn
end
theorem insI_mem {i k : Int} : ∀ {l : List Int}, k ∈ insI i l ↔ k = i ∨ k ∈ l
  | [] => by simp [insI]
  | j :: r => by
    unfold insI
    split
    · simp
    · split
      · rename_i h; subst h; simp
      · rw [List.mem_cons, insI_mem (l := r), List.mem_cons]
        constructor
        · rintro (h | h | h) <;> simp [h]
        · rintro (h | h | h) <;> simp [h]
theorem insI_pw {i : Int} : ∀ {l : List Int}, l.Pairwise (· < ·) → (insI i l).Pairwise (· < ·)
  | [], _ => by simp [insI]
  | j :: r, h => by
    obtain ⟨h1, h2⟩ := List.pairwise_cons.mp h
    unfold insI
    split
    · rename_i hij
      refine List.pairwise_cons.mpr ⟨fun k hk => ?_, h⟩
      rcases List.mem_cons.mp hk with rfl | hk
      · exact hij
      · exact Int.lt_trans hij (h1 k hk)
    · split
      · exact h
      · rename_i h3 h4
        refine List.pairwise_cons.mpr ⟨fun k hk => ?_, insI_pw h2⟩
        rcases insI_mem.mp hk with rfl | hk
        · omega
        · exact h1 k hk
theorem setI_mem {k : Int} : ∀ {l : List Int}, k ∈ setI l ↔ k ∈ l
  | [] => by simp [setI]
  | i :: r => by rw [setI, insI_mem, setI_mem (l := r), List.mem_cons]
theorem setI_pw : ∀ l : List Int, (setI l).Pairwise (· < ·)
  | [] => .nil
  | i :: r => by rw [setI]; exact insI_pw (setI_pw r)
theorem pwI_eq : ∀ {a b : List Int}, a.Pairwise (· < ·) → b.Pairwise (· < ·) → (∀ k, k ∈ a ↔ k ∈ b) → a = b
  | [], [], _, _, _ => rfl
  | [], y :: b, _, _, h => by have := (h y).mpr List.mem_cons_self; cases this
  | x :: a, [], _, _, h => by have := (h x).mp List.mem_cons_self; cases this
  | x :: a, y :: b, ha, hb, h => by
    obtain ⟨a1, a2⟩ := List.pairwise_cons.mp ha
    obtain ⟨b1, b2⟩ := List.pairwise_cons.mp hb
    have e : x = y := by
      rcases List.mem_cons.mp ((h x).mp List.mem_cons_self) with e | e
      · exact e
      · rcases List.mem_cons.mp ((h y).mpr List.mem_cons_self) with e2 | e2
        · exact e2.symm
        · have := b1 x e; have := a1 y e2; omega
    subst e
    rw [pwI_eq a2 b2 fun k => ?_]
    constructor
    · intro hk
      rcases List.mem_cons.mp ((h k).mp (List.mem_cons_of_mem _ hk)) with e | e
      · have := a1 k hk; omega
      · exact e
    · intro hk
      rcases List.mem_cons.mp ((h k).mpr (List.mem_cons_of_mem _ hk)) with e | e
      · have := b1 k hk; omega
      · exact e
section
variable [TabInfo] {K : PySem.W.Frag} {mg : Str → Option Value} {W : WX} {H : Hp} {σ : L2.St} {Q : VK}
theorem te_isort {w : World} {o : Opd} (h : TEof K mg W (M.bind (evA [o]) fun ds => M.opt (match ds with | [x] => isortS x | _ => none)) σ H Q) :
    tCB (rSortedSet w) (tCons (tCB (rSetI K w) (tCons (tOpd K mg W o) tNil)) tNil) σ H Q :=
  op_mono (te_op1 h) fun x H1 ⟨T, d, t, q⟩ => by
    unfold isortS at q
    split at q
    · rename_i xs
      cases en : intsOf xs with
      | none => rw [en] at q; exact q.elim
      | some ns =>
        rw [en] at q
        dsimp only at q
        split at q
        · rename_i hz
          obtain ⟨a, vs, rfl, h1, h2⟩ := t.tup
          have ev := ints_v h2 en
          subst ev
          refine ⟨a, ns, rfl, h1, hz.2, fun p n S hS hL hp => ?_⟩
          have hn := hL (setI ns) ((setI_pw ns).imp fun h e => by subst e; exact Int.lt_irrefl _ h) fun k => setI_mem
          refine ⟨p, S, n, rfl, upd_same, by omega, fun ms l pw hm _ hl => ?_⟩
          have e : ms = setI ns := pwI_eq pw (setI_pw ns) fun k => by rw [hm k, hS k, setI_mem]
          subst e
          have hlp : l ≠ p := fun z => by rw [z, upd_same] at hl; cases hl
          rw [upd_ne hlp] at hl
          refine q (.ref l) _ (fun b u e => ?_) ⟨l, rfl, hl, OwnB.lst upd_same (ints_reps _)⟩
          rw [upd_ne (ne_of_none e hl), upd_ne (ne_of_none e hp)]; exact e
        · exact q.elim
    · exact q.elim
end
end Lw
end

section
set_option Elab.async false
set_option linter.all false
set_option maxRecDepth 100000
set_option maxHeartbeats 4000000
/-! LD8: y = {k: v for ..} -/
namespace Lw
open PySem PySem.Spec PyProof.Rows L2
section
variable {X : Cx}
theorem ps_setDc {i : Nat} {y : Str} {py : Pos} {kx vx tg iter : Expr} {ifs : List Expr} {scope : Scope} {own : List (Str × Nat)} {pos spos : Pos} {wi : TI} {g : TG} {tt : TT} {tk tv : TE} (calm : X.calm = true) (nodup : X.N.Nodup) (hy : X.N[i]? = some y) (hyl : X.env.scope.names.lookup y = some .local)
    (hsw : swapsWith (.DictComp kx vx [⟨tg, iter, ifs, 0⟩] scope pos) (some (.Name y py)) spos.line X.env = pure true) (hi : PI X tg iter wi) (ok : BlkOk X.N X.env.scope scope own)
    (hg : ∀ (s : Shared) (H : Hp) (C : Addr) (cl : List (Str × Addr)) (fps : List Addr), PG (X.blk s H scope (compEnvC scope cl C X.env) fps) tg g) (ht : ∀ (s : Shared) (H : Hp) (C : Addr) (cl : List (Str × Addr)) (fps : List Addr), PTs (X.blk s H scope (compEnvC scope cl C X.env) fps) ifs tt)
    (hk : ∀ (s : Shared) (H : Hp) (C : Addr) (cl : List (Str × Addr)) (fps : List Addr), PE (X.blk s H scope (compEnvC scope cl C X.env) fps) kx tk)
    (he : ∀ (s : Shared) (H : Hp) (C : Addr) (cl : List (Str × Addr)) (fps : List Addr), PE (X.blk s H scope (compEnvC scope cl C X.env) fps) vx tv) (hs : ∀ x, foldedSetIterable iter X.env x = pure x) :
    PS X (.Assign [.Name y py] (.DictComp kx vx [⟨tg, iter, ifs, 0⟩] scope pos) spos) (tAsg (tDc wi g tt tk tv (own.map (·.2))) (gName i)) := by
  refine ⟨fun pins s σ H D I h => ?_⟩
  rw [exec_Assign_Name_used _ _ _ _ hsw]
  refine wpAny_bind (wpAny_standAt (wpAny_bind ?_))
  show wpAny _ X.A (do let _ ← comprehension (.DictComp kx vx [⟨tg, iter, ifs, 0⟩] scope pos) scope X.env (firstIterPos [⟨tg, iter, ifs, 0⟩] pos) newDict false (eval iter X.env) (some (assign (.Name y py) X.env))) _ _ s
  have h : tDc wi g tt tk tv (own.map (·.2)) σ H (fun x H1 => gName i x σ H1 D.nx) := h
  refine wpAny_bind (thn (dc_core (Qf := fun _ s' => SP X pins D .next s') calm nodup I hi ok hg ht hk he hs h fun L C s' m H' I' q hn f => ?_) fun _ s' hq => wpAny_pure (wpAny_pure hq))
  show wpAny _ _ (assign (.Name y py) X.env (.ref L)) _ _ _
  refine wpAny_assign_Name (store_ok2 (v := V.ref L) I' nodup hy (.inl hyl) rfl (fun s2 I2 ⟨a, sb, ha⟩ => ?_) (.inr hyl))
  obtain ⟨q0, q1, q2, q3, q4, q5⟩ := f
  have haC : C ≠ a := by
    rcases ha with z | z
    · rw [z]; exact q1
    · exact fun e => q4 y a z e.symm
  refine ⟨m, hn.sameBut sb haC, fun h3 sb3 => ?_⟩
  exact ⟨_, H', I2.turned (t' := s2.toks) (fun b o hb e => (sb3.2 b hb).trans e) q0 q1 q3 q4 q5, q⟩
theorem swD_true {kx vx : Expr} {gs : List Comprehension} {scope : Scope} {pos py : Pos} {y : Str} {l : Nat} {env : Env} (hk : env.scope.kind = .function) (hy : env.scope.names.lookup y = some .local) (hl : (py.line == pos.line) = true)
    (ha : (scope.names.any fun (n, k) => n == y && (k == .local || k == .cell)) = false) : swapsWith (.DictComp kx vx gs scope pos) (some (.Name y py)) l env = pure true := by
  have ky : env.kindOf y = some .local := hy
  have hb : env.blockKind = .function := by unfold Env.blockKind; rw [hk]; rfl
  unfold swapsWith
  simp only [hb, ky, ha, Expr.pos, hl]
  rfl
end
end Lw
end

section
set_option Elab.async false
set_option linter.all false
set_option maxRecDepth 100000
set_option maxHeartbeats 4000000
/-! LD9: a, b = x, y by a tuple (names that are cells) -/
namespace Lw
open PySem L2
variable [TabInfo]
section
variable {K : PySem.W.Frag} {mg : Str → Option Value} {W : WX} {st : List Nat} {σ : L2.St} {H : Hp} {D : Ends}
theorem tgTs_nm : ∀ (is : List Nat) (vs : List V) (σ : L2.St) (H : Hp) (Q : L2.St → Hp → Prop), is.length = vs.length → Q (setAll σ is vs) H → tgT.tgTs K (is.map Tgt.nm) vs σ H Q := by
  intro is
  induction is with
  | nil => intro vs σ H Q hl q; cases vs with
    | nil => exact ⟨rfl, q⟩
    | cons v vs => simp at hl
  | cons i is ih => intro vs σ H Q hl q; cases vs with
    | nil => simp at hl
    | cons v vs => exact ⟨v, vs, rfl, ih vs _ H Q (by simpa using hl) q⟩
/-- several at once, by a tuple -/
theorem ss_parT {is : List Nat} {as : List Arg} (hi : ∀ i ∈ is, i ∈ st) (hz : is.length ≤ 1000) (h : TSof K mg W st (fun E => .of (evC as E) fun ss => putAll is ss) D σ H) : tAsg (tTup (tArgs K mg W as)) (tgT K (.tup (is.map Tgt.nm))) D σ H := by
  obtain ⟨P, E, g, h⟩ := h
  dsimp only at h
  refine argsC as σ H _ P E g ?_
  cases e : evC as E with
  | bad => rw [e] at h; exact h
  | exc C x E1 => exact of_post e h
  | ok ss E1 =>
    rw [e] at h
    intro vs H1 P1 hp g1 l1 ar sa
    have base := putAll_ok is ss vs σ E1 P1 hi hp g1 l1 Same.refl ar h
    refine ⟨by rw [← base.1, sizeLine_eq]; omega, fun p hpn => ?_⟩
    have ext := ext_upd (o := HO.tup vs) hpn
    have ar' : ArgsR K P P1 σ E1 (upd H1 p (.tup vs)) vs ss := ⟨ar.len, fun j v s e1 e2 => (ar.res j v s e1 e2).lnk2 g1 (Lnk.ext ext) (ar.hold e1 e2), ar.held, ar.inj⟩
    have fin := putAll_ok is ss vs σ E1 P1 hi hp (g1.ext ext) (l1.trans (Lnk.ext ext)) Same.refl ar' h
    rw [tgT]
    exact ⟨p, vs, rfl, SqT.of upd_same, by rw [List.length_map]; exact fin.1.symm, tgTs_nm is vs σ _ _ fin.1 fin.2⟩
end
end Lw
end

section
set_option Elab.async false
set_option linter.all false
set_option maxRecDepth 100000
set_option maxHeartbeats 4000000
/-! L17: the checker's word is good: expressions -/
namespace Lw
open PySem L2
variable [TabInfo]
section
variable {K : PySem.W.Frag} {mg : Str → Option Value} {W : WX}
theorem tArg_mono {o : Arg} {σ : L2.St} {H : Hp} {Q Q' : VK} (h : tArg K mg W o σ H Q) (m : ∀ v H, Q v H → Q' v H) : tArg K mg W o σ H Q' := by
  cases o with
  | slot i => obtain ⟨v, e, q⟩ := h; exact ⟨v, e, m _ _ q⟩
  | ex f => exact te_mono h m
theorem tArgs_mono : ∀ (as : List Arg) {σ : L2.St} {H : Hp} {Q Q' : List V → Hp → Prop}, (∀ v H, Q v H → Q' v H) → tArgs K mg W as σ H Q → tArgs K mg W as σ H Q'
  | [], _, _, _, _, m, h => m _ _ h
  | a :: as, _, _, _, _, m, h => tArg_mono (show tArg K mg W a _ _ _ from h) fun v H1 q => tArgs_mono as (fun vs H2 q => m _ _ q) q
end
theorem okN_d {x : Str} (h : okN x = true) : (x == ("__debug__" : Str)) = false := by
  unfold okN at h; revert h; cases (x == ("__debug__" : Str)) <;> simp
theorem okN_c {x : Str} (h : okN x = true) : (x == ("__classdict__" : Str)) = false := by
  unfold okN at h; revert h; cases (x == ("__classdict__" : Str)) <;> simp
theorem okN_n {x : Str} (h : okN x = true) : x ≠ "__name__" := by
  unfold okN at h; intro e; subst e; revert h; simp
section
variable {X : Cx} {c : Ck} {k : Nat} {Φ : Nat → M Sl} {C : Nat → D} {W : WX}
theorem gl_of (o : c.Ok X k Φ C W) {x : Str} (h : glB c x = true) : Gl X x ∧ okN x = true := by
  unfold glB at h
  rw [Bool.and_eq_true] at h
  exact ⟨by show X.env.scope.names.lookup x = _; rw [o.sc]; simpa using h.2, h.1⟩
theorem pe_varO (o : c.Ok X k Φ C W) {i : Nat} {x : Str} {pos : Pos} (h : visB c i x = true) : PE X (.Name x pos) (tVar i) := by
  unfold visB at h
  simp only [Bool.and_eq_true] at h
  obtain ⟨⟨h1, h2⟩, h3⟩ := h
  refine pe_var (by rw [o.N]; simpa using h2) ?_ (okN_d h1) (okN_c h1)
  show X.env.scope.names.lookup x = _ ∨ X.env.scope.names.lookup x = _ ∨ X.env.scope.names.lookup x = _
  rw [o.sc]
  split at h3
  · exact .inl (by assumption)
  · exact .inr (.inl (by assumption))
  · exact .inr (.inr (by assumption))
  · cases h3
theorem visB_name (o : c.Ok X k Φ C W) {i : Nat} {e : Expr} (h : (match e with | .Name x _ => visB c i x | _ => false) = true) : PE X e (tVar i) := by
  cases e <;> first | exact pe_varO o h | cases h
theorem loc_of (o : c.Ok X k Φ C W) {i : Nat} {x : Str} (h : locB c i x = true) : X.N[i]? = some x ∧ L2.Loc X.env.scope x ∧ (X.fn x = true ∨ X.env.scope.names.lookup x = some .local) := by
  unfold locB at h
  simp only [Bool.and_eq_true] at h
  obtain ⟨⟨h1, h2⟩, h3⟩ := h
  refine ⟨by rw [o.N]; simpa using h1, ?_⟩
  unfold L2.Loc
  rw [o.sc]
  split at h3
  · exact ⟨.inl (by assumption), .inr (by assumption)⟩
  · exact ⟨.inr (by assumption), .inl (o.fn h3 x)⟩
  · cases h3
theorem m1_of {o e : Expr} {m : Str} {ap cp : Pos} (hb : attributeBase o m X.env (eval o X.env) = eval o X.env) (hl : (ap.endLine == cp.line) = true) (h : notStar e = true) : M1 X o m ap e cp :=
  ⟨hb, by rw [star_cons h]; rfl, hl, by rw [star_cons h]; rfl⟩
theorem m2_of {o e f : Expr} {m : Str} {ap cp : Pos} (hb : attributeBase o m X.env (eval o X.env) = eval o X.env) (hl : (ap.endLine == cp.line) = true) (h : notStar e = true) (h2 : notStar f = true) : M2 X o m ap e f cp :=
  ⟨hb, by rw [star_cons h, star_cons h2]; rfl, hl, by rw [star_cons h, star_cons h2]; rfl⟩
/-! the default forms -/
theorem opd_var {i : Nat} : opd Φ C (.var i) = .slot i := by rw [opd]
theorem opd_ex {a : E} (h : ∀ i, a ≠ .var i) : opd Φ C a = .ex (ev Φ C a) := by
  cases a <;> first | exact absurd rfl (h _) | simp only [opd]
theorem args_var {i : Nat} {r : List E} : args Φ C (.var i :: r) = .slot i :: args Φ C r := by rw [args]
theorem args_ex {a : E} {r : List E} (h : ∀ i, a ≠ .var i) : args Φ C (a :: r) = .ex (ev Φ C a) :: args Φ C r := by
  cases a <;> first | exact absurd rfl (h _) | simp only [args]
def Snd (X : Cx) (W : WX) (Φ : Nat → M Sl) (C : Nat → D) (a : E) (e : Expr) : Mode → Prop
  | .val => PE X e (TEof X.K X.mg W (ev Φ C a))
  | .test => PT X e (TTof X.K X.mg W (evT Φ C a))
  | .iter t => PI X t e (TIof X.K X.mg W (evI Φ C a))
/-- an operand by its expression -/
theorem opd_snd (o : c.Ok X k Φ C W) {a : E} {e : Expr} (h : chk a .val c e = true) (s : Snd X W Φ C a e .val) : PE X e (tOpd X.K X.mg W (opd Φ C a)) := by
  by_cases q : ∃ i, a = .var i
  · obtain ⟨i, rfl⟩ := q
    rw [opd_var]
    exact visB_name o h
  · rw [opd_ex fun i z => q ⟨i, z⟩]
    exact s
theorem pt_truthV {a : Expr} {ta : TE} {r : V → Hp → (Bool → Hp → Prop) → Prop} (ha : PE X a ta) (hr : TruR X r) (he : ∀ whole, isTrue a X.env whole = (do let v ← whole; standAt a.pos; holding [v] (truthy v))) :
    PT X a (fun σ H Q => ta σ H fun x H' => r x H' Q) :=
  ⟨fun pins s σ H Q I h => PyProof.Rows.isTrue_plain (thn (ha.run pins s σ H _ I h) fun v s1 ⟨x, H1, I1, r1, q1⟩ => hr pins s1 σ H1 x v Q I1 r1 q1) (he _)⟩
theorem dflt_snd (o : c.Ok X k Φ C W) {a : E} {e : Expr} (hc : ∀ m, chk a m = dflt (chk a .val) m) (hT : evT Φ C a = M.bind (evA [opd Φ C a]) fun ds => M.opt (match ds with | [d] => truthD d | _ => none)) (hI : evI Φ C a = M.bind (ev Φ C a) fun s => M.opt (itemsD s.d))
    (hv : chk a .val c e = true → PE X e (TEof X.K X.mg W (ev Φ C a))) : ∀ m, chk a m c e = true → Snd X W Φ C a e m
  | .val, h => hv h
  | .test, h => by
    rw [hc] at h
    have h : (plainT e && chk a .val c e) = true := h
    rw [Bool.and_eq_true] at h
    show PT X e (TTof X.K X.mg W (evT Φ C a))
    rw [hT]
    refine PT.imp (pt_truthV (opd_snd o h.2 (hv h.2)) truR fun whole => isTrue_of h.1 whole) fun σ H Q q => tt_val q
  | .iter t, h => by
    rw [hc] at h
    show PI X t e (TIof X.K X.mg W (evI Φ C a))
    rw [hI]
    exact pi_seq (hv h)
/-! calls of defs -/
theorem tArgs_app {K : PySem.W.Frag} {mg : Str → Option Value} : ∀ (l1 l2 : List Arg) {σ : L2.St} {H : Hp} {Q : List V → Hp → Prop}, tArgs K mg W (l1 ++ l2) σ H Q → tArgs K mg W l1 σ H fun vs H1 => vs.length = l1.length ∧ tArgs K mg W l2 σ H1 fun ws H2 => ws.length = l2.length ∧ Q (vs ++ ws) H2 := by
  have len : ∀ (l : List Arg) {σ : L2.St} {H : Hp} {Q : List V → Hp → Prop}, tArgs K mg W l σ H Q → tArgs K mg W l σ H fun vs H1 => vs.length = l.length ∧ Q vs H1 := by
    intro l
    induction l with
    | nil => exact fun h => ⟨rfl, h⟩
    | cons a l ih =>
      intro σ H Q h
      cases a with
      | slot i =>
        have h : tVar i σ H (fun v H1 => tArgs K mg W l σ H1 fun vs H2 => Q (v :: vs) H2) := h
        obtain ⟨v, e, q⟩ := h
        exact ⟨v, e, tArgs_mono l (fun vs H1 q => ⟨by simp [q.1], q.2⟩) (ih q)⟩
      | ex f => exact te_mono (show TEof K mg W f σ H _ from h) fun v H1 q => tArgs_mono l (fun vs H1 q => ⟨by simp [q.1], q.2⟩) (ih q)
  intro l1
  induction l1 with
  | nil => exact fun l2 σ H Q h => ⟨rfl, len l2 h⟩
  | cons a l ih =>
    intro l2 σ H Q h
    have step : ∀ {v : V} {H1 : Hp}, tArgs K mg W (l ++ l2) σ H1 (fun vs H2 => Q (v :: vs) H2) → tArgs K mg W l σ H1 fun vs H1 => (v :: vs).length = (a :: l).length ∧ tArgs K mg W l2 σ H1 fun ws H2 => ws.length = l2.length ∧ Q ((v :: vs) ++ ws) H2 :=
      fun {v H1} q => tArgs_mono l (fun vs H1 q => ⟨by simp [q.1], q.2⟩) (ih l2 q)
    cases a with
    | slot i =>
      have h : tVar i σ H (fun v H1 => tArgs K mg W (l ++ l2) σ H1 fun vs H2 => Q (v :: vs) H2) := h
      obtain ⟨v, e, q⟩ := h
      exact ⟨v, e, step q⟩
    | ex f => exact te_mono (show TEof K mg W f σ H _ from h) fun v H1 q => step q
abbrev PEs (X : Cx) (W : WX) : List Expr → List Arg → Prop := Paired fun e a => PE X e (tArg X.K X.mg W a)
theorem PEs.pa : ∀ {es : List Expr} {as : List Arg}, PEs X W es as → es.all notStar = true → PA X es (tArgs X.K X.mg W as)
  | _, _, .nil, _ => pa_nil
  | _, _, .cons h r, hs => by
    rw [List.all_cons, Bool.and_eq_true] at hs
    exact pa_cons h (PEs.pa r hs.2) (star_cons hs.1 _ _)
theorem PEs.pk : ∀ {kws : List Keyword} {as : List Arg}, PEs X W (kws.map (·.value)) as → PK X kws (tArgs X.K X.mg W as)
  | [], _, .nil => pk_nil
  | ⟨n, e, p⟩ :: kws, _, .cons h r => pk_cons h (PEs.pk r)
theorem paired_split {α β : Type} {F : α → β → Prop} : ∀ {l1 l2 : List α} {m : List β}, Paired F (l1 ++ l2) m → ∃ m1 m2, m = m1 ++ m2 ∧ Paired F l1 m1 ∧ Paired F l2 m2
  | [], l2, m, h => ⟨[], m, rfl, .nil, h⟩
  | a :: l1, l2, _, .cons h r => by
    obtain ⟨m1, m2, rfl, q1, q2⟩ := paired_split r
    exact ⟨_ :: m1, m2, rfl, .cons h q1, q2⟩
theorem paired_len {α β : Type} {F : α → β → Prop} : ∀ {l : List α} {m : List β}, Paired F l m → m.length = l.length
  | _, _, .nil => rfl
  | _, _, .cons _ r => by simp [paired_len r]
theorem kw_all {env : PySem.Env} {pos : Pos} : ∀ {kws : List Keyword}, kws.all (fun q => q.arg.isSome) = true → (backToKw pos (keywordEach kws env)).all (·.1.isSome) = true ∧ (backToKw pos (keywordEach kws env)).any (·.1.isNone) = false ∧ (backToKw pos (keywordEach kws env)).filterMap (·.1) = kws.filterMap (·.arg)
  | [], _ => ⟨rfl, rfl, rfl⟩
  | ⟨n, e, p⟩ :: kws, h => by
    rw [List.all_cons, Bool.and_eq_true] at h
    obtain ⟨q1, q2, q3⟩ := kw_all (env := env) (pos := pos) h.2
    cases n with
    | none => cases h.1
    | some n =>
      have e : backToKw pos (keywordEach (⟨some n, e, p⟩ :: kws) env) = (some n, do let v ← eval e env; standAt pos; pure v) :: backToKw pos (keywordEach kws env) := rfl
      rw [e]
      refine ⟨by rw [List.all_cons, q1]; rfl, by rw [List.any_cons, q2]; rfl, ?_⟩
      simp [q3]
theorem kw_len : ∀ {l : List Keyword}, l.all (fun q => q.arg.isSome) = true → (l.filterMap (·.arg)).length = l.length
  | [], _ => rfl
  | a :: l, h => by
    rw [List.all_cons, Bool.and_eq_true] at h
    cases e : a.arg with
    | none => rw [e] at h; cases h.1
    | some n => simp [e, kw_len h.2]
/-- f(a, .., k = b, ..) -/
theorem pe_callF {fe : FnE} {F : M Sl} {es : List Expr} {kws : List Keyword} {as : List Arg} {p pos : Pos} (fh : FnH X.prog X.w X.K X.mg X.base k fe F) (o : c.Ok X k Φ C W) (hg : Gl X fe.name) (hd : okN fe.name = true)
    (hk : (if kws.isEmpty then fe.np == es.length else kws.all (fun q => q.arg.isSome) && fe.kws.contains (es.length, kws.filterMap (·.arg)) && !es.isEmpty) = true) (ha : PEs X W (es ++ kws.map (·.value)) as) (hs : (es ++ kws.map (·.value)).all notStar = true) :
    as.length = fe.np ∧ PE X (.Call (.Name fe.name p) es kws pos) (fun σ H Q => tArgs X.K X.mg W as σ H fun vs H1 => spF X.K X.mg fe.np F vs H1 Q fun c d H' => W c d σ H') := by
  obtain ⟨f, fd, ps, hm, hkp, hb, hkb, hl, fo⟩ := fh.ex
  have hlen := paired_len ha
  cases kws with
  | nil =>
    have hn : fe.np = es.length := by simpa using hk
    simp only [List.map_nil, List.append_nil] at ha hs hlen
    refine ⟨hlen.trans hn.symm, ⟨fun pins s σ H Q I h => ?_⟩⟩
    refine wpAny_Call_Name_kw (ld_glob I hg hm ?_ (okN_d hd))
    cases es with
    | nil =>
      cases ha
      exact PySem.W.callWith_K0 I.kIn hkp (run_f (us := []) fo o.room o.gd hb (passesS o.tk σ) I .nil h)
    | cons e es =>
      have pa := PEs.pa ha hs
      rw [List.all_cons, Bool.and_eq_true] at hs
      refine PySem.W.callWith_K (h₀ := X.base) I.ok.mod.kin hkp (thn (pa.run pos pins s σ H _ I h) fun us s1 ⟨vs, H1, I1, r, q⟩ => ⟨I1.kIn, ?_⟩) (star_cons hs.1 _ _) (star_plain _ hs.2)
      exact run_f fo o.room o.gd hb (passesS o.tk σ) I1 r q
  | cons kw kws =>
    rw [if_neg (by simp)] at hk
    simp only [Bool.and_eq_true] at hk
    obtain ⟨⟨h1, h2⟩, h3⟩ := hk
    have h2 : (es.length, (kw :: kws).filterMap (·.arg)) ∈ fe.kws := by simpa using h2
    obtain ⟨b1, b2⟩ := hkb _ h2
    have hkl : ((kw :: kws).filterMap (·.arg)).length = (kw :: kws).length := kw_len h1
    obtain ⟨a1, a2, rfl, p1, p2⟩ := paired_split ha
    have l1 := paired_len p1
    have l2 := paired_len p2
    refine ⟨by rw [hlen, ← b1, List.length_append, List.length_map, hkl], ⟨fun pins s σ H Q I h => ?_⟩⟩
    rw [List.all_append, Bool.and_eq_true] at hs
    have pa := PEs.pa p1 hs.1
    have pk := PEs.pk p2
    obtain ⟨k1, k2, k3⟩ := kw_all (env := X.env) (pos := pos) h1
    refine wpAny_Call_Name_kw (ld_glob I hg hm ?_ (okN_d hd))
    cases es with
    | nil => cases h3
    | cons e es =>
      have hs1 := hs.1
      rw [List.all_cons, Bool.and_eq_true] at hs1
      refine PySem.W.callWith_KW (h₀ := X.base) I.ok.mod.kin hkp k1 (thn (pa.run pos pins s σ H _ I (tArgs_app a1 a2 h)) fun us s1 ⟨vs, H1, I1, r, hv, q⟩ => ?_) (by rw [k2, star_plain _ hs.1]; rfl) (star_cons hs1.1 _ _)
      refine thn (pk.run pos pins s1 σ H1 _ I1 q) fun ws s2 ⟨zs, H2, I2, rz, hz, q2⟩ => ⟨I2.kIn, ?_⟩
      rw [k3]
      exact run_fk fo o.room o.gd (passesS o.tk σ) I2 (b2 s2 us ws I2.kIn (by rw [← r.length, hv, l1]) (by rw [← rz.length, hz, l2, List.length_map, hkl])) (r.append rz) q2
theorem pw_bool {op : BoolOp} {vs : List Expr} {p : Pos} {t : TT} (h : PT X (.BoolOp op vs p) t) : PW X (.BoolOp op vs p) t := ⟨fun whole pins s σ H Q I q => h.run pins s σ H Q I q⟩
theorem pt_ifExp {w x y : Expr} {p : Pos} {tc ta tb : TT} (hc : PT X w tc) (ha : PT X x ta) (hb : PT X y tb) : PT X (.IfExp w x y p) (fun σ H Q => tc σ H fun c H1 => if c = true then ta σ H1 Q else tb σ H1 Q) := by
  refine ⟨fun pins s σ H Q I h => ?_⟩
  show wpAny _ _ (do if ← isTrue w X.env (eval w X.env) then isTrue x X.env (eval x X.env) else isTrue y X.env (eval y X.env)) _ _ _
  refine wpAny_bind (thn (hc.run pins s σ H _ I h) fun d s1 ⟨H1, I1, q1⟩ => ?_)
  cases d with
  | true => exact ha.run pins s1 σ H1 Q I1 q1
  | false => exact hb.run pins s1 σ H1 Q I1 q1
theorem Ck.Ok.inner (o : c.Ok X k Φ C W) {scope : Scope} {own : List Nat} {s : Shared} {H : Hp} {Cc : Addr} {cl : List (Str × Addr)} {fp : List Addr} (hk : scope.kind = .function) : (inner c scope own).Ok (X.blk s H scope (compEnvC scope cl Cc X.env) fp) k Φ C W0 where
  N := o.N
  nd := o.nd
  sc := by
    show relS scope X.env.scope = relS scope c.sc
    rw [o.sc]
  kind := hk
  calm := o.calm
  fn := fun h => by cases h
  room := o.room
  gd := o.gd
  tk := fun _ _ x => by
    obtain ⟨_, _, _, _, _, _, _, _, _, _, _, _, _, _, _, _, z⟩ := x
    exact z.elim
  pass := PassesOwn.never
  fs := o.fs
  cs := o.cs
  bl := o.bl
  one := o.one
  ex := o.ex
  exf := o.exf
  hd := fun h => by cases h
  ar := fun h => by cases h
theorem Ck.Ok.lam (o : c.Ok X k Φ C W) {scope : Scope} {A : Around} {outer : List PySem.Env} {s : Shared} {H : Hp} {E : XK} {f c' : Addr} {j : Nat} (h1 : 1 ≤ j) (hs : LamX.lamSB c.sc scope = true) (hg : A.guards = some []) (hr : Room j (A.deeper (LamX.lamEnv X scope s.heap.objs.size f c')))
    (fs : ∀ i e, c.fs[i]? = some e → FnH X.prog X.w X.K X.mg X.base j e (Φ i)) : (lamK c scope).Ok (LamX.lamCx X A outer s H E scope f c') j Φ C (fun c d _ H => E c d H) where
  N := o.N
  nd := o.nd
  sc := rfl
  kind := (LamX.lamS_by hs).kind
  calm := rfl
  fn := fun h => by cases h
  room := hr
  gd := hg
  tk := takes_of rfl rfl rfl rfl
  pass := passes_of rfl
  fs := fs
  cs := o.cs
  bl := o.bl
  one := h1
  ex := o.ex
  exf := o.exf
  hd := fun h => by cases h
  ar := fun h => by cases h
theorem bi_boot (b : Bi) : bootBuiltins (b.id : Str) = some (.builtin b.id) := by cases b <;> decide +kernel
theorem bt_boot (b : Bt) : bootBuiltins (b.id : Str) = some (.type b.id) := by cases b <;> decide +kernel
theorem ty_boot {n : String} (h : tyNames.contains n = true) : bootBuiltins (n : Str) = some (.type n) := by
  simp [tyNames] at h
  rcases h with rfl | rfl | rfl | rfl | rfl | rfl <;> decide +kernel
def ttOf (K : PySem.W.Frag) (mg : Str → Option Value) (W : WX) (Φ : Nat → M Sl) (C : Nat → D) : List E → TT
  | [] => tYes
  | a :: _ => TTof K mg W (evT Φ C a)
/-- isinstance(e, T), e an exception -/
theorem pe_isX (o : c.Ok X k Φ C W) {oa : Opd} {e : Expr} {z : Str} {p q pos : Pos} (g1 : Gl X "isinstance") (hm : X.mg "isinstance" = none) (g3 : Gl X z) (hz : okN z = true) (h : z ∈ c.ex ∨ (z = "ValueError" ∧ z ∈ c.bl)) (hs : notStar e = true) (he : PE X e (tOpd X.K X.mg W oa)) :
    PE X (.Call (.Name "isinstance" p) [e, .Name z q] [] pos) (TEof X.K X.mg W (M.bind (evA [oa]) fun ds => M.opt (match ds with | [x] => isxS z x | _ => none))) := by
  have fin : ∀ {cv : Value} {v : V}, L2.RelV v cv → (∀ u, L2.RelV v u → u = cv) → PE X (.Name z q) (tC v) → (∀ C c, TabInfo.exc C = some c → PySem.W.kitOne X.K (.ref c) cv = some (excIs C z)) → PE X (.Call (.Name "isinstance" p) [e, .Name z q] [] pos) (TEof X.K X.mg W (M.bind (evA [oa]) fun ds => M.opt (match ds with | [x] => isxS z x | _ => none))) := fun {cv v} rv hv pz hk =>
    PE.imp (pe_callB (call_isX o.exf hk) g1 hm (by decide +kernel) (pa_cons he (pa_cons pz pa_nil (by rfl)) (star_cons hs _ _)) (by decide +kernel) (by decide +kernel) (star_cons hs _ _) (by rfl)) fun σ H Q q => by
      have q := te_op1 q
      refine op_mono (show tOpd X.K X.mg W oa σ H _ from q) fun x H1 ⟨T, d, hd, q⟩ => ?_
      exact ⟨T, x, d, v, rfl, hv, hd, q⟩
  rcases h with h | ⟨rfl, h⟩
  · obtain ⟨a, ea⟩ := o.ex z h
    have nm := (o.exf.one z a ea).nm
    exact fin (v := .ref a) (cv := .ref a) rfl (fun u r => r) (pe_glob (v := .ref a) g3 nm rfl (okN_d hz)) fun C c ec => o.exf.two C c z a ec ea
  · exact fin (v := .ty "ValueError") (cv := .type "ValueError") rfl (fun u r => r) (pe_bltn (v := .ty "ValueError") g3 (o.bl _ h) (by decide +kernel) rfl (okN_n hz) (okN_d hz)) fun C c ec => by
      rw [(o.exf.one C c ec).ve]; unfold excIs; simp
end
end Lw
end

section
set_option Elab.async false
set_option linter.all false
set_option maxRecDepth 100000
set_option maxHeartbeats 4000000
/-! L18: the checker's word is good: every expression -/
namespace Lw
open PySem L2
variable [TabInfo]
section
variable {K : PySem.W.Frag} {mg : Str → Option Value} {W : WX} {σ : L2.St} {H : Hp}
theorem tt_chn {o o' : CmpOp} {oa ob oc : Opd} {Q : Bool → Hp → Prop} (h : tChain (r2D K (cmpS o)) (r2D K (cmpS o')) (tOpd K mg W oa) (tOpd K mg W ob) (tOpd K mg W oc) σ H fun x H1 => rTru K x H1 Q) : tTest (tChain (r2D K (cmpS o)) (r2D K (cmpS o')) (tOpd K mg W oa) (tOpd K mg W ob) (tOpd K mg W oc)) σ H Q := by
  refine op_mono h fun x H1 h => op_mono h fun y H2 h => ?_
  obtain ⟨T, a, b, h1, h2, h3⟩ := h
  refine ⟨T, a, b, h1, h2, ?_⟩
  cases e : cmpS o a b with
  | none => rw [e] at h3; exact h3
  | some s =>
    rw [e] at h3
    intro v H' ext r
    obtain ⟨k, hv, q⟩ := h3 v H' ext r
    refine ⟨k, hv, ?_⟩
    cases k with
    | true =>
      rw [if_pos rfl] at q ⊢
      exact op_mono q fun w H4 q => cmp_tru q
    | false =>
      rw [if_neg (by decide)] at q ⊢
      obtain ⟨T, d, b, t, e, q⟩ := q
      obtain ⟨S, t, _⟩ := t
      cases t with
      | sc t _ =>
        cases t
        cases e
        exact ⟨_, rfl, q⟩
end
section
variable {X : Cx} {c : Ck} {k : Nat} {Φ : Nat → M Sl} {C : Nat → D} {W : WX}
theorem spec_snd (o : c.Ok X k Φ C W) {a : E} {e : Expr} (hc : ∀ t, chk a (.iter t) = chk a .val) (hI : evI Φ C a = M.bind (ev Φ C a) fun s => M.opt (itemsD s.d))
    (hv : chk a .val c e = true → PE X e (TEof X.K X.mg W (ev Φ C a))) (ht : chk a .test c e = true → PT X e (TTof X.K X.mg W (evT Φ C a))) : ∀ m, chk a m c e = true → Snd X W Φ C a e m
  | .val, h => hv h
  | .test, h => ht h
  | .iter t, h => by
    rw [hc] at h
    show PI X t e (TIof X.K X.mg W (evI Φ C a))
    rw [hI]
    exact pi_seq (hv h)
theorem tup_of {t : Expr} (h : (!notTup t) = true) : ∃ es kk p, t = .Tuple es kk p := by
  cases t <;> first | exact ⟨_, _, _, rfl⟩ | cases h
theorem chkTs_len {ifs : List E} {c : Ck} {es : List Expr} (h : chkTs ifs c es = true) : ifs.length ≤ 1 := by
  cases ifs with
  | nil => simp
  | cons a as =>
    rw [chkTs] at h; dsimp only at h
    split at h
    · simp
    · cases h
theorem evT_cmp {o : CmpOp} {a b : E} : evT Φ C (.cmp o a b) = M.bind (evA [opd Φ C (.cmp o a b)]) fun ds => M.opt (match ds with | [d] => truthD d | _ => none) := by rw [evT] <;> first | rfl | (intros; contradiction)
theorem evT_chn {o p : CmpOp} {a b d : E} : evT Φ C (.chn o p a b d) = M.bind (evA [opd Φ C (.chn o p a b d)]) fun ds => M.opt (match ds with | [d] => truthD d | _ => none) := by rw [evT] <;> first | rfl | (intros; contradiction)
theorem tts_of {K : PySem.W.Frag} {mg : Str → Option Value} {σ : L2.St} {H : Hp} {Q : Bool → Hp → Prop} : ∀ (ifs : List E), ifs.length ≤ 1 → TTof K mg W (lcI.allT (evTs Φ C ifs)) σ H Q → ttOf K mg W Φ C ifs σ H Q
  | [], _, h => tt_pure (by rw [evTs] at h; exact h)
  | [a], _, h => by
    rw [evTs, evTs] at h
    refine tt_mono (tt_ite (show TTof K mg W (M.bind (evT Φ C a) fun b => if b then M.pure true else M.pure false) σ H Q from h)) fun b H1 q => ?_
    cases b with
    | true => rw [if_pos rfl] at q; exact tt_pure q
    | false => rw [if_neg (by decide)] at q; exact tt_pure q
  | a :: b :: r, hl, h => by simp at hl
def PoQ (K : PySem.W.Frag) (mg : Str → Option Value) (W : WX) (b : Bool) (o : Opd) (tl : TO) : Prop := ∀ σ H (G : Option Int → Hp → Prop), (tOpd K mg W o σ H fun l H2 => ∃ lo, partV b l = some lo ∧ G lo H2) → tl σ H G
theorem po_of (o : c.Ok X k Φ C W) {lo : E} {l : Option Expr} (h : (match lo, l with
      | .non, none => true
      | .non, some _ => false
      | _, some l => chk lo .val c l
      | _, _ => false) = true) (s : ∀ l, chk lo .val c l = true → PE X l (tOpd X.K X.mg W (opd Φ C lo))) : ∃ tl, PO X l tl ∧ PoQ X.K X.mg W (isNonE lo) (opd Φ C lo) tl := by
  cases l with
  | none =>
    cases lo <;> first | cases h | skip
    refine ⟨_, po_none, fun σ H G q => ?_⟩
    rw [opd_ex (by intros; simp), ev] at q
    obtain ⟨lo, e, q⟩ := te_pure (v := .non) (fun H => .non) q
    cases e
    exact q
  | some l =>
    have hn : isNonE lo = false := by cases lo <;> first | rfl | cases h
    have h : chk lo .val c l = true := by cases lo <;> first | exact h | cases h
    refine ⟨_, po_some (s l h), fun σ H G q => op_mono q fun v H1 ⟨lo', e, q⟩ => ?_⟩
    rw [hn] at e
    unfold partV at e
    split at e
    · rename_i heq _; cases heq
    · cases e; exact ⟨_, rfl, q⟩
    · cases e
end
section
variable {X : Cx} {c : Ck} {k : Nat} {Φ : Nat → M Sl} {C : Nat → D} {W : WX}
mutual
theorem sndG : ∀ (tg : Tgt) (c : Ck) (X : Cx) (k : Nat) (W : WX) (e : Expr), c.Ok X k Φ C W → chkG c tg e = true → PG X e (tgT X.K tg)
  | .nm i, c, X, k, W, e, o, h => by
    rw [chkG] at h; dsimp only at h
    split at h
    · rw [tgT]
      obtain ⟨h1, h2, h3⟩ := loc_of o h
      exact pg_name (by rw [o.N]; exact o.nd) h1 h2 h3
    · cases h
  | .tup ts, c, X, k, W, e, o, h => by
    rw [chkG] at h; dsimp only at h
    split at h
    · rw [tgT]
      obtain ⟨h1, h2, h3⟩ := sndGs ts c X k W _ o h
      exact pg_tup o.calm h1 h2 h3
    · cases h
theorem sndGs : ∀ (ts : List Tgt) (c : Ck) (X : Cx) (k : Nat) (W : WX) (es : List Expr), c.Ok X k Φ C W → chkGs c ts es = true → PGs X es (tgT.tgTs X.K ts) ∧ (assignEach es X.env).length = ts.length ∧ (assignEach es X.env).findIdx? (·.1) = none
  | [], c, X, k, W, es, o, h => by
    rw [chkGs] at h
    cases es with
    | nil => rw [tgT.tgTs]; exact ⟨pgs_nil, rfl, rfl⟩
    | cons e es => cases h
  | t :: ts, c, X, k, W, es, o, h => by
    rw [chkGs] at h
    cases es with
    | nil => cases h
    | cons e es =>
      simp only [Bool.and_eq_true] at h
      obtain ⟨⟨h0, h1⟩, h2⟩ := h
      obtain ⟨q1, q2, q3⟩ := sndGs ts c X k W es o h2
      rw [tgT.tgTs]
      refine ⟨pgs_cons (sndG t c X k W e o h1) q1 (by rw [assign_cons h0]; rfl), by rw [assign_cons h0]; simp [q2], ?_⟩
      rw [assign_cons h0, List.findIdx?_cons]
      simp [q3]
end
end
section
variable {Φ : Nat → M Sl} {C : Nat → D}
mutual
theorem snd : ∀ (a : E) (m : Mode) (c : Ck) (X : Cx) (k : Nat) (W : WX) (e : Expr), c.Ok X k Φ C W → chk a m c e = true → Snd X W Φ C a e m
  | .non, m, c, X, k, W, e, o, h => dflt_snd o (fun m => by cases m <;> rfl) (by rw [evT] <;> first | rfl | (intros; contradiction)) (by rw [evI] <;> first | rfl | (intros; contradiction)) (fun h => by
      rw [chk] at h; dsimp only [dflt] at h
      split at h
      · rw [ev]; exact PE.imp pe_non fun σ H Q => te_pure fun H => .non
      · cases h) m h
  | .bl b, m, c, X, k, W, e, o, h => dflt_snd o (fun m => by cases m <;> rfl) (by rw [evT] <;> first | rfl | (intros; contradiction)) (by rw [evI] <;> first | rfl | (intros; contradiction)) (fun h => by
      rw [chk] at h; dsimp only [dflt] at h
      split at h
      · simp only [beq_iff_eq] at h
        subst h
        rw [ev]
        exact PE.imp pe_bl fun σ H Q => te_pure fun H => .bl _
      · cases h) m h
  | .int b, m, c, X, k, W, e, o, h => dflt_snd o (fun m => by cases m <;> rfl) (by rw [evT] <;> first | rfl | (intros; contradiction)) (by rw [evI] <;> first | rfl | (intros; contradiction)) (fun h => by
      rw [chk] at h; dsimp only [dflt] at h
      split at h
      · simp only [beq_iff_eq] at h
        subst h
        rw [ev]
        exact PE.imp pe_int fun σ H Q => te_pure fun H => .int _
      · cases h) m h
  | .str b, m, c, X, k, W, e, o, h => dflt_snd o (fun m => by cases m <;> rfl) (by rw [evT] <;> first | rfl | (intros; contradiction)) (by rw [evI] <;> first | rfl | (intros; contradiction)) (fun h => by
      rw [chk] at h; dsimp only [dflt] at h
      split at h
      · simp only [beq_iff_eq] at h
        subst h
        rw [ev]
        exact PE.imp pe_str fun σ H Q => te_pure fun H => .str _
      · cases h) m h
  | .tyc n, m, c, X, k, W, e, o, h => dflt_snd o (fun m => by cases m <;> rfl) (by rw [evT] <;> first | rfl | (intros; contradiction)) (by rw [evI] <;> first | rfl | (intros; contradiction)) (fun h => by
      rw [chk] at h; dsimp only [dflt] at h
      split at h
      · simp only [Bool.and_eq_true, beq_iff_eq] at h
        obtain ⟨⟨⟨h1, rfl⟩, h3⟩, h4⟩ := h
        obtain ⟨g1, g2⟩ := gl_of o h3
        rw [ev]
        exact PE.imp (pe_bltn (v := .ty n) g1 (o.bl _ (by simpa using h4)) (ty_boot h1) rfl (okN_n g2) (okN_d g2)) fun σ H Q => te_pure fun H => .ty n
      · cases h) m h
  | .cst i, m, c, X, k, W, e, o, h => dflt_snd o (fun m => by cases m <;> rfl) (by rw [evT] <;> first | rfl | (intros; contradiction)) (by rw [evI] <;> first | rfl | (intros; contradiction)) (fun h => by
      rw [chk] at h; dsimp only [dflt] at h
      split at h
      · simp only [Bool.and_eq_true, beq_iff_eq] at h
        obtain ⟨g1, g2⟩ := gl_of o h.2
        obtain ⟨v, u, q1, q2, q3⟩ := o.cs i _ h.1
        rw [ev]
        exact PE.imp (pe_glob g1 q1 q2 (okN_d g2)) fun σ H Q => te_pure q3
      · cases h) m h
  | .var i, m, c, X, k, W, e, o, h => dflt_snd o (fun m => by cases m <;> rfl) (by rw [evT] <;> first | rfl | (intros; contradiction)) (by rw [evI] <;> first | rfl | (intros; contradiction)) (fun h => by
      rw [chk] at h; dsimp only [dflt] at h
      rw [ev]; exact PE.imp (visB_name o h) fun σ H Q => te_var) m h
  | .fz i, m, c, X, k, W, e, o, h => dflt_snd o (fun m => by cases m <;> rfl) (by rw [evT] <;> first | rfl | (intros; contradiction)) (by rw [evI] <;> first | rfl | (intros; contradiction)) (fun h => by
      rw [chk] at h; dsimp only [dflt] at h
      rw [ev]; exact PE.imp (visB_name o h) fun σ H Q => te_fz) m h
  | .mv i, m, c, X, k, W, e, o, h => dflt_snd o (fun m => by cases m <;> rfl) (by rw [evT] <;> first | rfl | (intros; contradiction)) (by rw [evI] <;> first | rfl | (intros; contradiction)) (fun h => by
      rw [chk] at h; dsimp only [dflt] at h
      rw [ev]; exact PE.imp (visB_name o h) fun σ H Q => te_mv) m h
  | .bop op a b, m, c, X, k, W, e, o, h => dflt_snd o (fun m => by cases m <;> rfl) (by rw [evT] <;> first | rfl | (intros; contradiction)) (by rw [evI] <;> first | rfl | (intros; contradiction)) (fun h => by
      rw [chk] at h; dsimp only [dflt] at h
      split at h
      · simp only [Bool.and_eq_true, beq_iff_eq] at h
        obtain ⟨⟨rfl, h1⟩, h2⟩ := h
        rw [ev]
        exact PE.imp (pe_op (bop_ok op) (opd_snd o h1 (snd a .val c X k W _ o h1)) (opd_snd o h2 (snd b .val c X k W _ o h2))) fun σ H Q => te_op2
      · cases h) m h
  | .neg a, m, c, X, k, W, e, o, h => dflt_snd o (fun m => by cases m <;> rfl) (by rw [evT] <;> first | rfl | (intros; contradiction)) (by rw [evI] <;> first | rfl | (intros; contradiction)) (fun h => by
      rw [chk] at h; dsimp only [dflt] at h
      split at h
      · rw [ev]
        exact PE.imp (pe_un un_neg (opd_snd o h (snd a .val c X k W _ o h))) fun σ H Q => te_neg
      · cases h) m h
  | .idx a b, m, c, X, k, W, e, o, h => dflt_snd o (fun m => by cases m <;> rfl) (by rw [evT] <;> first | rfl | (intros; contradiction)) (by rw [evI] <;> first | rfl | (intros; contradiction)) (fun h => by
      rw [chk] at h; dsimp only [dflt] at h
      split at h
      · simp only [Bool.and_eq_true] at h
        obtain ⟨⟨h0, h1⟩, h2⟩ := h
        rw [ev]
        exact PE.imp (pe_ix (ix_ok o.room) (opd_snd o h1 (snd a .val c X k W _ o h1)) (opd_snd o h2 (snd b .val c X k W _ o h2)) (plainIx_of h0)) fun σ H Q => te_op2
      · cases h) m h
  | .rev a, m, c, X, k, W, e, o, h => dflt_snd o (fun m => by cases m <;> rfl) (by rw [evT] <;> first | rfl | (intros; contradiction)) (by rw [evI] <;> first | rfl | (intros; contradiction)) (fun h => by
      rw [chk] at h; dsimp only [dflt] at h
      split at h
      · rw [ev]
        exact PE.imp (pe_rev2 (opd_snd o h (snd a .val c X k W _ o h))) fun σ H Q => te_rev
      · cases h) m h
  | .bi b as, m, c, X, k, W, e, o, h => dflt_snd o (fun m => by cases m <;> rfl) (by rw [evT] <;> first | rfl | (intros; contradiction)) (by rw [evI] <;> first | rfl | (intros; contradiction)) (fun h => by
      rw [chk] at h; dsimp only [dflt] at h
      split at h
      · simp only [Bool.and_eq_true, beq_iff_eq, Bool.not_eq_true', List.contains_iff_mem] at h
        obtain ⟨⟨⟨⟨⟨rfl, h3⟩, h4⟩, h5⟩, h6⟩, h7⟩ := h
        obtain ⟨g1, g2⟩ := gl_of o h3
        rw [ev]
        rename_i es _
        cases es with
        | nil => cases h5
        | cons e0 es =>
          have h6' : (e0 :: es).all notStar = true := h6
          rw [List.all_cons, Bool.and_eq_true] at h6
          exact PE.imp (pe_callB (bi_ok o.room o.calm o.gd b) g1 (o.bl _ h4) (bi_boot b) (sndAs as c X k W (e0 :: es) o h6' h7).1 (okN_n g2) (okN_d g2) (star_cons h6.1 _ _) (star_plain _ h6.2)) fun σ H Q => te_opn
      · cases h) m h
  | .ty b as, m, c, X, k, W, e, o, h => dflt_snd o (fun m => by cases m <;> rfl) (by rw [evT] <;> first | rfl | (intros; contradiction)) (by rw [evI] <;> first | rfl | (intros; contradiction)) (fun h => by
      rw [chk] at h; dsimp only [dflt] at h
      split at h
      · simp only [Bool.and_eq_true, beq_iff_eq, Bool.not_eq_true', List.contains_iff_mem] at h
        obtain ⟨⟨⟨⟨⟨rfl, h3⟩, h4⟩, h5⟩, h6⟩, h7⟩ := h
        obtain ⟨g1, g2⟩ := gl_of o h3
        rw [ev]
        rename_i es _
        cases es with
        | nil => cases h5
        | cons e0 es =>
          have h6' : (e0 :: es).all notStar = true := h6
          rw [List.all_cons, Bool.and_eq_true] at h6
          exact PE.imp (pe_callTy (ty_ok b) g1 (o.bl _ h4) (bt_boot b) (sndAs as c X k W (e0 :: es) o h6' h7).1 (okN_n g2) (okN_d g2) (star_cons h6.1 _ _) (star_plain _ h6.2)) fun σ H Q => te_opn
      · cases h) m h
  | .slc a lo hi, m, c, X, k, W, e, o, h => dflt_snd o (fun m => by cases m <;> rfl) (by rw [evT] <;> first | rfl | (intros; contradiction)) (by rw [evI] <;> first | rfl | (intros; contradiction)) (fun h => by
      rw [chk] at h; dsimp only [dflt] at h
      split at h
      · simp only [Bool.and_eq_true] at h
        obtain ⟨⟨h1, h2⟩, h3⟩ := h
        rw [ev]
        have pa := opd_snd o h1 (snd a .val c X k W _ o h1)
        obtain ⟨tl, pl, ql⟩ := po_of o h2 fun l h => opd_snd o h (snd lo .val c X k W _ o h)
        obtain ⟨th, ph, qh⟩ := po_of o h3 fun l h => opd_snd o h (snd hi .val c X k W _ o h)
        exact PE.imp (pe_slice sl_ok pa pl ph) fun σ H Q q => op_mono (te_slc q) fun x H1 q => ql _ _ _ (op_mono q fun l H2 ⟨lo, e, q⟩ => ⟨lo, e, qh _ _ _ q⟩)
      · cases h) m h
  | .tup as, m, c, X, k, W, e, o, h => dflt_snd o (fun m => by cases m <;> rfl) (by rw [evT] <;> first | rfl | (intros; contradiction)) (by rw [evI] <;> first | rfl | (intros; contradiction)) (fun h => by
      rw [chk] at h; dsimp only [dflt] at h
      split at h
      · rw [ev]; exact PE.imp (pe_tup (sndDs as c X k W _ o h)) fun σ H Q => te_tup
      · cases h) m h
  | .lst as, m, c, X, k, W, e, o, h => dflt_snd o (fun m => by cases m <;> rfl) (by rw [evT] <;> first | rfl | (intros; contradiction)) (by rw [evI] <;> first | rfl | (intros; contradiction)) (fun h => by
      rw [chk] at h; dsimp only [dflt] at h
      split at h
      · rw [ev]; exact PE.imp (pe_lst (sndDs as c X k W _ o h)) fun σ H Q => te_lst
      · cases h) m h
  | .call f as, m, c, X, k, W, e, o, h => dflt_snd o (fun m => by cases m <;> rfl) (by rw [evT] <;> first | rfl | (intros; contradiction)) (by rw [evI] <;> first | rfl | (intros; contradiction)) (fun h => by
      rw [chk] at h; dsimp only [dflt] at h
      split at h
      · simp only [Bool.and_eq_true] at h
        obtain ⟨⟨⟨h1, h2⟩, h3⟩, h4⟩ := h
        obtain ⟨g1, g2⟩ := gl_of o h2
        cases ef : c.fs[f]? with
        | none => rw [ef] at h1; cases h1
        | some fe =>
          rw [ef] at h1
          dsimp only at h1
          rw [Bool.and_eq_true] at h1
          obtain ⟨hx, hn⟩ := h1
          have hx := beq_iff_eq.mp hx
          subst hx
          rw [ev]
          obtain ⟨q1, q2⟩ := pe_callF (o.fs f fe ef) o g1 g2 hn (sndAs as c X k W _ o h3 h4).2.2 h3
          exact PE.imp q2 fun σ H Q q => call_sound (Φ f) (args Φ C as) fe.np q1 σ H Q q
      · cases h) m h
  | .dict0, m, c, X, k, W, e, o, h => dflt_snd o (fun m => by cases m <;> rfl) (by rw [evT] <;> first | rfl | (intros; contradiction)) (by rw [evI] <;> first | rfl | (intros; contradiction)) (fun h => by
      rw [chk] at h; dsimp only [dflt] at h
      split at h
      · rw [ev]; exact PE.imp pe_dnewK fun σ H Q => te_dict0
      · cases h) m h
  | .dict1 k' n, m, c, X, k, W, e, o, h => dflt_snd o (fun m => by cases m <;> rfl) (by rw [evT] <;> first | rfl | (intros; contradiction)) (by rw [evI] <;> first | rfl | (intros; contradiction)) (fun h => by
      rw [chk] at h; dsimp only [dflt] at h
      split at h
      · simp only [Bool.and_eq_true, beq_iff_eq] at h
        obtain ⟨rfl, rfl⟩ := h
        rw [ev]
        exact PE.imp (pe_disp (pps_cons pe_str pe_int pps_nil) rfl rfl (by simp) (by simp)) fun σ H Q => te_dict1
      · cases h) m h
  | .dicti k' n, m, c, X, k, W, e, o, h => dflt_snd o (fun m => by cases m <;> rfl) (by rw [evT] <;> first | rfl | (intros; contradiction)) (by rw [evI] <;> first | rfl | (intros; contradiction)) (fun h => by
      rw [chk] at h; dsimp only [dflt] at h
      split at h
      · simp only [Bool.and_eq_true, beq_iff_eq] at h
        obtain ⟨rfl, rfl⟩ := h
        rw [ev]
        exact PE.imp (pe_disp (pps_cons pe_int pe_bl pps_nil) rfl rfl (by simp) (by simp)) fun σ H Q => te_dicti
      · cases h) m h
  | .sset a, m, c, X, k, W, e, o, h => dflt_snd o (fun m => by cases m <;> rfl) (by rw [evT] <;> first | rfl | (intros; contradiction)) (by rw [evI] <;> first | rfl | (intros; contradiction)) (fun h => by
      rw [chk] at h; dsimp only [dflt] at h
      split at h
      · simp only [Bool.and_eq_true, beq_iff_eq, List.contains_iff_mem] at h
        obtain ⟨⟨⟨⟨⟨⟨⟨rfl, rfl⟩, h1⟩, h2⟩, h3⟩, h4⟩, h5⟩, h6⟩ := h
        rw [ev]
        have hu : X.A.units + 64 < cLine := by have := o.room.un; omega
        exact PE.imp (pe_callB (cr_sortedT o.calm) (gl_of o h1).1 (o.bl _ h3) (by decide +kernel) (pa_cons (pe_callTy (cr_setOfT o.calm hu) (gl_of o h2).1 (o.bl _ h4) (by decide +kernel) (pa_cons (opd_snd o h6 (snd a .val c X k W _ o h6)) pa_nil (star_cons h5 _ _)) (okN_n (gl_of o h2).2) (okN_d (gl_of o h2).2) (star_cons h5 _ _) rfl) pa_nil rfl) (okN_n (gl_of o h1).2) (okN_d (gl_of o h1).2) rfl rfl) fun σ H Q => te_sset
      · cases h) m h
  | .lr1 a, m, c, X, k, W, e, o, h => dflt_snd o (fun m => by cases m <;> rfl) (by rw [evT] <;> first | rfl | (intros; contradiction)) (by rw [evI] <;> first | rfl | (intros; contradiction)) (fun h => by
      rw [chk] at h; dsimp only [dflt] at h
      split at h
      · simp only [Bool.and_eq_true, beq_iff_eq, List.contains_iff_mem] at h
        obtain ⟨⟨⟨⟨⟨⟨⟨rfl, rfl⟩, h1⟩, h2⟩, h3⟩, h4⟩, h5⟩, h6⟩ := h
        rw [ev]
        exact PE.imp (pe_listRg o.calm (gl_of o h1).1 (o.bl _ h3) (prg_1 (gl_of o h2).1 (o.bl _ h4) (opd_snd o h6 (snd a .val c X k W _ o h6)) (star_cons h5 _ _))) fun σ H Q => te_lr1
      · cases h) m h
  | .lr2 a b, m, c, X, k, W, e, o, h => dflt_snd o (fun m => by cases m <;> rfl) (by rw [evT] <;> first | rfl | (intros; contradiction)) (by rw [evI] <;> first | rfl | (intros; contradiction)) (fun h => by
      rw [chk] at h; dsimp only [dflt] at h
      split at h
      · simp only [Bool.and_eq_true, beq_iff_eq, List.contains_iff_mem] at h
        obtain ⟨⟨⟨⟨⟨⟨⟨⟨⟨rfl, rfl⟩, h1⟩, h2⟩, h3⟩, h4⟩, h5⟩, h5'⟩, h6⟩, h7⟩ := h
        rw [ev]
        exact PE.imp (pe_listRg o.calm (gl_of o h1).1 (o.bl _ h3) (prg_2 (gl_of o h2).1 (o.bl _ h4) (opd_snd o h6 (snd a .val c X k W _ o h6)) (opd_snd o h7 (snd b .val c X k W _ o h7)) (star_cons h5 _ _) (star_cons h5' _ _) (star_plain _ (by simp [h5'])))) fun σ H Q => te_lr2
      · cases h) m h
  | .lc elt tg it ifs own, m, c, X, k, W, e, o, h => dflt_snd o (fun m => by cases m <;> rfl) (by rw [evT] <;> first | rfl | (intros; contradiction)) (by rw [evI] <;> first | rfl | (intros; contradiction)) (fun h => by
      rw [chk] at h; dsimp only [dflt] at h
      split at h
      · simp only [Bool.and_eq_true] at h
        obtain ⟨⟨⟨⟨⟨⟨h1, h2⟩, h3⟩, h4⟩, h5⟩, h6⟩, h7⟩ := h
        rw [ev]
        have hb := blkOk_by h1
        have hb' := hb
        rw [← o.N, ← o.sc] at hb'
        have hst : ∀ i ∈ tg.st, i ∈ own := fun i hi => by simpa using List.all_eq_true.mp h2 i hi
        have ok := fun s H C' cl fp => o.inner (Cc := C') (cl := cl) (own := own) (s := s) (H := H) (fp := fp) hb.kind
        refine PE.imp (pe_lc (te := TEof X.K X.mg W0 (ev Φ C elt)) (tt := ttOf X.K X.mg W0 Φ C ifs) (g := tgT X.K tg) o.calm (by rw [o.N]; exact o.nd) (snd it (.iter _) c X k W _ o h4) hb' (fun s H C' cl fp => sndG tg _ _ _ _ _ (ok s H C' cl fp) h5) (fun s H C' cl fp => sndTs ifs _ _ _ _ _ (ok s H C' cl fp) h6) (fun s H C' cl fp => snd elt .val _ _ _ _ _ (ok s H C' cl fp) h7) (folded_of h3)) fun σ H Q q => ?_
        have hown : (ownN c own).map (·.2) = own := by simp [ownN, Function.comp_def]
        rw [hown]
        exact lc_sound hst (fun σ H Q => tts_of ifs (chkTs_len h6)) σ H Q q
      · cases h) m h
  | .mth m' a as, m, c, X, k, W, e, o, h => dflt_snd o (fun m => by cases m <;> rfl) (by rw [evT] <;> first | rfl | (intros; contradiction)) (by rw [evI] <;> first | rfl | (intros; contradiction)) (fun h => by
      rw [chk] at h; dsimp only [dflt] at h
      split at h
      · simp only [Bool.and_eq_true, beq_iff_eq] at h
        obtain ⟨⟨⟨rfl, h1⟩, h2⟩, h3⟩ := h
        rw [ev, opds]
        exact PE.imp (pe_upper (opd_snd o h3 (snd a .val c X k W _ o h3)) (base_of h2) (by simpa using h1)) fun σ H Q => te_upper
      · cases h) m h
  | .heard a, m, c, X, k, W, e, o, h => dflt_snd o (fun m => by cases m <;> rfl) (by rw [evT] <;> first | rfl | (intros; contradiction)) (by rw [evI] <;> first | rfl | (intros; contradiction)) (fun h => by
      rw [chk] at h; dsimp only [dflt] at h
      split at h
      · simp only [Bool.and_eq_true, beq_iff_eq] at h
        obtain ⟨⟨⟨⟨⟨rfl, h2⟩, h3⟩, h4⟩, h5⟩, h6⟩ := h
        obtain ⟨g1, g2⟩ := gl_of o h2
        obtain ⟨j, h1, hx, fsj⟩ := o.hd h3
        rw [ev]
        exact hx.heard g1 (by rw [o.sc]; exact h5) h4 fun A outer s H E f c' hg hrm => show PE _ _ (TEof X.K X.mg (fun c d _ H => E c d H) (ev Φ C a)) from snd a .val _ _ j _ _ (o.lam (E := E) h1 h5 hg hrm fsj) h6
      · cases h) m h
  | .isx a n, m, c, X, k, W, e, o, h => dflt_snd o (fun m => by cases m <;> rfl) (by rw [evT] <;> first | rfl | (intros; contradiction)) (by rw [evI] <;> first | rfl | (intros; contradiction)) (fun h => by
      rw [chk] at h; dsimp only [dflt] at h
      split at h
      · simp only [Bool.and_eq_true, Bool.or_eq_true, beq_iff_eq, List.contains_iff_mem] at h
        obtain ⟨⟨⟨⟨⟨⟨⟨rfl, rfl⟩, h2⟩, h3⟩, h4⟩, h5⟩, h6⟩, h7⟩ := h
        obtain ⟨g1, g2⟩ := gl_of o h2
        obtain ⟨g3, g4⟩ := gl_of o h4
        rw [ev]
        exact pe_isX o g1 (o.bl _ h3) g3 g4 h5 h6 (opd_snd o h7 (snd a .val c X k W _ o h7))
      · cases h) m h
  | .callf i a, m, c, X, k, W, e, o, h => dflt_snd o (fun m => by cases m <;> rfl) (by rw [evT] <;> first | rfl | (intros; contradiction)) (by rw [evI] <;> first | rfl | (intros; contradiction)) (fun h => by
      rw [chk] at h; dsimp only [dflt] at h
      split at h
      · simp only [Bool.and_eq_true, List.contains_iff_mem] at h
        obtain ⟨⟨⟨h1, h2⟩, h3⟩, h4⟩ := h
        rw [ev]
        obtain ⟨k', rfl⟩ : ∃ k', k = k' + 1 := ⟨k - 1, by have := o.one; omega⟩
        exact PE.imp (pe_callf o.exf (o.bl _ h2) o.room (pe_varO o h1) (opd_snd o h4 (snd a .val c X _ W _ o h4)) (star_cons h3 _ _)) fun σ H Q => te_callf
      · cases h) m h
  | .xval a, m, c, X, k, W, e, o, h => dflt_snd o (fun m => by cases m <;> rfl) (by rw [evT] <;> first | rfl | (intros; contradiction)) (by rw [evI] <;> first | rfl | (intros; contradiction)) (fun h => by
      rw [chk] at h; dsimp only [dflt] at h
      split at h
      · simp only [Bool.and_eq_true, beq_iff_eq] at h
        obtain ⟨⟨rfl, h2⟩, h3⟩ := h
        rw [ev]
        exact PE.imp (pe_xval o.exf (opd_snd o h3 (snd a .val c X k W _ o h3)) rfl (base_of h2)) fun σ H Q => te_op1
      · cases h) m h
  | .dget i k' x, m, c, X, k, W, e, o, h => dflt_snd o (fun m => by cases m <;> rfl) (by rw [evT] <;> first | rfl | (intros; contradiction)) (by rw [evI] <;> first | rfl | (intros; contradiction)) (fun h => by
      rw [chk] at h; dsimp only [dflt] at h
      split at h
      · simp only [Bool.and_eq_true, beq_iff_eq] at h
        obtain ⟨⟨⟨⟨⟨⟨⟨rfl, h1⟩, h2⟩, h3⟩, h4⟩, h5⟩, h6⟩, h7⟩ := h
        rw [ev]
        exact PE.imp (pe_dget2 (by have := o.room.un; omega) (visB_name o h3) (opd_snd o h6 (snd k' .val c X k W _ o h6)) (opd_snd o h7 (snd x .val c X k W _ o h7)) (m2_of (base_of h2) (by simpa using h1) h4 h5)) fun σ H Q => te_dget
      · cases h) m h
  | .sitems a, m, c, X, k, W, e, o, h => dflt_snd o (fun m => by cases m <;> rfl) (by rw [evT] <;> first | rfl | (intros; contradiction)) (by rw [evI] <;> first | rfl | (intros; contradiction)) (fun h => by
      rw [chk] at h; dsimp only [dflt] at h
      split at h
      · simp only [Bool.and_eq_true, beq_iff_eq, List.contains_iff_mem] at h
        obtain ⟨⟨⟨⟨⟨⟨rfl, rfl⟩, h1⟩, h2⟩, h3⟩, h4⟩, h5⟩ := h
        rw [ev]
        exact PE.imp (pe_sitems o.calm (by have := o.room.un; omega) (opd_snd o h5 (snd a .val c X k W _ o h5)) (gl_of o h2).1 (o.bl _ h3) (by decide +kernel) (base_of h4) (by simpa using h1) rfl) fun σ H Q => te_sitems
      · cases h) m h
  | .svals a, m, c, X, k, W, e, o, h => dflt_snd o (fun m => by cases m <;> rfl) (by rw [evT] <;> first | rfl | (intros; contradiction)) (by rw [evI] <;> first | rfl | (intros; contradiction)) (fun h => by
      rw [chk] at h; dsimp only [dflt] at h
      split at h
      · simp only [Bool.and_eq_true, beq_iff_eq, List.contains_iff_mem] at h
        obtain ⟨⟨⟨⟨⟨⟨rfl, rfl⟩, h1⟩, h2⟩, h3⟩, h4⟩, h5⟩ := h
        rw [ev]
        exact PE.imp (pe_svals o.calm (by have := o.room.un; omega) (opd_snd o h5 (snd a .val c X k W _ o h5)) (gl_of o h2).1 (o.bl _ h3) (by decide +kernel) (base_of h4) (by simpa using h1) rfl) fun σ H Q => te_svals
      · cases h) m h
  | .tcnt i b, m, c, X, k, W, e, o, h => dflt_snd o (fun m => by cases m <;> rfl) (by rw [evT] <;> first | rfl | (intros; contradiction)) (by rw [evI] <;> first | rfl | (intros; contradiction)) (fun h => by
      rw [chk] at h; dsimp only [dflt] at h
      split at h
      · simp only [Bool.and_eq_true, beq_iff_eq] at h
        obtain ⟨⟨⟨⟨⟨rfl, h1⟩, h2⟩, h3⟩, h4⟩, h5⟩ := h
        rw [ev]
        exact PE.imp (pe_tcount (visB_name o h3) (opd_snd o h5 (snd b .val c X k W _ o h5)) (m1_of (base_of h2) (by simpa using h1) h4)) fun σ H Q => te_tcnt
      · cases h) m h
  | .isort a, m, c, X, k, W, e, o, h => dflt_snd o (fun m => by cases m <;> rfl) (by rw [evT] <;> first | rfl | (intros; contradiction)) (by rw [evI] <;> first | rfl | (intros; contradiction)) (fun h => by
      rw [chk] at h; dsimp only [dflt] at h
      split at h
      · simp only [Bool.and_eq_true, beq_iff_eq, List.contains_iff_mem] at h
        obtain ⟨⟨⟨⟨⟨⟨⟨rfl, rfl⟩, h1⟩, h2⟩, h3⟩, h4⟩, h5⟩, h6⟩ := h
        rw [ev]
        exact PE.imp (pe_callB (cr_sortedSet o.calm) (gl_of o h1).1 (o.bl _ h3) (by decide +kernel) (pa_cons (pe_callTy (cr_setI o.calm) (gl_of o h2).1 (o.bl _ h4) (by decide +kernel) (pa_cons (opd_snd o h6 (snd a .val c X k W _ o h6)) pa_nil (star_cons h5 _ _)) (okN_n (gl_of o h2).2) (okN_d (gl_of o h2).2) (star_cons h5 _ _) rfl) pa_nil rfl) (okN_n (gl_of o h1).2) (okN_d (gl_of o h1).2) rfl rfl) fun σ H Q => te_isort
      · cases h) m h
  | .ptup a, m, c, X, k, W, e, o, h => dflt_snd o (fun m => by cases m <;> rfl) (by rw [evT] <;> first | rfl | (intros; contradiction)) (by rw [evI] <;> first | rfl | (intros; contradiction)) (fun h => by
      rw [chk] at h; dsimp only [dflt] at h
      split at h
      · simp only [Bool.and_eq_true, beq_iff_eq, List.contains_iff_mem] at h
        obtain ⟨⟨⟨⟨rfl, h2⟩, h3⟩, h4⟩, h5⟩ := h
        rw [ev]
        exact PE.imp (pe_callTy call_tuple_plain (gl_of o h2).1 (o.bl _ h3) (by decide +kernel) (pa_cons (opd_snd o h5 (snd a .val c X k W _ o h5)) pa_nil (star_cons h4 _ _)) (okN_n (gl_of o h2).2) (okN_d (gl_of o h2).2) (star_cons h4 _ _) rfl) fun σ H Q => te_ptup
      · cases h) m h
  | .dictl a, m, c, X, k, W, e, o, h => dflt_snd o (fun m => by cases m <;> rfl) (by rw [evT] <;> first | rfl | (intros; contradiction)) (by rw [evI] <;> first | rfl | (intros; contradiction)) (fun h => by
      rw [chk] at h; dsimp only [dflt] at h
      split at h
      · simp only [Bool.and_eq_true, beq_iff_eq, List.contains_iff_mem] at h
        obtain ⟨⟨⟨⟨rfl, h2⟩, h3⟩, h4⟩, h5⟩ := h
        rw [ev]
        exact PE.imp (pe_callTy (call_dictP o.calm) (gl_of o h2).1 (o.bl _ h3) (by decide +kernel) (pa_cons (opd_snd o h5 (snd a .val c X k W _ o h5)) pa_nil (star_cons h4 _ _)) (okN_n (gl_of o h2).2) (okN_d (gl_of o h2).2) (star_cons h4 _ _) rfl) fun σ H Q => te_dictl
      · cases h) m h
  | .pdict i, m, c, X, k, W, e, o, h => dflt_snd o (fun m => by cases m <;> rfl) (by rw [evT] <;> first | rfl | (intros; contradiction)) (by rw [evI] <;> first | rfl | (intros; contradiction)) (fun h => by
      rw [chk] at h; dsimp only [dflt] at h
      split at h
      · simp only [Bool.and_eq_true, beq_iff_eq, List.contains_iff_mem] at h
        obtain ⟨⟨⟨⟨rfl, h2⟩, h3⟩, h4⟩, h5⟩ := h
        rw [ev]
        exact PE.imp (pe_callTy (call_dictPT o.calm) (gl_of o h2).1 (o.bl _ h3) (by decide +kernel) (pa_cons (visB_name o h5) pa_nil (star_cons h4 _ _)) (okN_n (gl_of o h2).2) (okN_d (gl_of o h2).2) (star_cons h4 _ _) rfl) fun σ H Q => te_pdict
      · cases h) m h
  | .pcat i j, m, c, X, k, W, e, o, h => dflt_snd o (fun m => by cases m <;> rfl) (by rw [evT] <;> first | rfl | (intros; contradiction)) (by rw [evI] <;> first | rfl | (intros; contradiction)) (fun h => by
      rw [chk] at h; dsimp only [dflt] at h
      split at h
      · simp only [Bool.and_eq_true] at h
        rw [ev]
        exact PE.imp (pe_op op_catP (visB_name o h.1) (visB_name o h.2)) fun σ H Q => te_pcat
      · cases h) m h
  | .weak a, m, c, X, k, W, e, o, h => dflt_snd o (fun m => by cases m <;> rfl) (by rw [evT] <;> first | rfl | (intros; contradiction)) (by rw [evI] <;> first | rfl | (intros; contradiction)) (fun h => by
      rw [chk] at h; dsimp only [dflt] at h
      rw [Bool.and_eq_true] at h; rw [ev]; exact PE.imp (snd a .val c X k W _ o h.2) fun σ H Q => weak_snd) m h
  | .dc kx vx tg it ifs own, m, c, X, k, W, e, o, h => dflt_snd o (fun m => by cases m <;> rfl) (by rw [evT] <;> first | rfl | (intros; contradiction)) (by rw [evI] <;> first | rfl | (intros; contradiction)) (fun h => by
      rw [chk] at h; dsimp only [dflt] at h
      split at h
      · simp only [Bool.and_eq_true] at h
        obtain ⟨⟨⟨⟨⟨⟨⟨h1, h2⟩, h3⟩, h4⟩, h5⟩, h6⟩, h7⟩, h8⟩ := h
        rw [ev]
        have hb := blkOk_by h1
        have hb' := hb
        rw [← o.N, ← o.sc] at hb'
        have hst : ∀ i ∈ tg.st, i ∈ own := fun i hi => by simpa using List.all_eq_true.mp h2 i hi
        have ok := fun s H C' cl fp => o.inner (Cc := C') (cl := cl) (own := own) (s := s) (H := H) (fp := fp) hb.kind
        refine PE.imp (pe_dc (tk := TEof X.K X.mg W0 (ev Φ C kx)) (tv := TEof X.K X.mg W0 (ev Φ C vx)) (tt := ttOf X.K X.mg W0 Φ C ifs) (g := tgT X.K tg) o.calm (by rw [o.N]; exact o.nd) (snd it (.iter _) c X k W _ o h4) hb' (fun s H C' cl fp => sndG tg _ _ _ _ _ (ok s H C' cl fp) h5) (fun s H C' cl fp => sndTs ifs _ _ _ _ _ (ok s H C' cl fp) h6) (fun s H C' cl fp => snd kx .val _ _ _ _ _ (ok s H C' cl fp) h7) (fun s H C' cl fp => snd vx .val _ _ _ _ _ (ok s H C' cl fp) h8) (folded_of h3)) fun σ H Q q => ?_
        have hown : (ownN c own).map (·.2) = own := by simp [ownN, Function.comp_def]
        rw [hown]
        exact dc_sound hst (fun σ H Q => tts_of ifs (chkTs_len h6)) σ H Q q
      · cases h) m h
  | .keys i, m, c, X, k, W, e, o, h => by
      cases m with
      | iter t =>
        rw [chk] at h; dsimp only at h
        show PI X t e (TIof X.K X.mg W (evI Φ C (.keys i)))
        split at h
        · rw [evI]
          exact pi_keysF (pe_varO o h)
        · cases h
      | _ => simp [chk] at h
  | .star a, m, c, X, k, W, e, o, h => by cases m <;> simp [chk, dflt] at h
  | .isf C, m, c, X, k, W, e, o, h => by cases m <;> simp [chk, dflt] at h
  | .rng1 a, m, c, X, k, W, e, o, h => by
      cases m with
      | iter t =>
        rw [chk] at h; dsimp only at h
        show PI X t e (TIof X.K X.mg W (evI Φ C (.rng1 a)))
        split at h
        · simp only [Bool.and_eq_true, beq_iff_eq, List.contains_iff_mem] at h
          obtain ⟨⟨⟨⟨rfl, h2⟩, h3⟩, h4⟩, h5⟩ := h
          obtain ⟨g1, g2⟩ := gl_of o h2
          rw [evI]
          exact pi_rng1 g1 (o.bl _ h3) (pa_cons (snd a .val c X k W _ o h5) pa_nil (star_cons h4 _ _)) (star_cons h4 _ _)
        · cases h
      | _ => simp [chk] at h
  | .rng2 a b, m, c, X, k, W, e, o, h => by
      cases m with
      | iter t =>
        rw [chk] at h; dsimp only at h
        show PI X t e (TIof X.K X.mg W (evI Φ C (.rng2 a b)))
        split at h
        · simp only [Bool.and_eq_true, beq_iff_eq, List.contains_iff_mem] at h
          obtain ⟨⟨⟨⟨⟨⟨rfl, h2⟩, h3⟩, h4⟩, h4'⟩, h5⟩, h6⟩ := h
          obtain ⟨g1, g2⟩ := gl_of o h2
          rw [evI]
          exact pi_rng2 g1 (o.bl _ h3) (pa_cons (opd_snd o h5 (snd a .val c X k W _ o h5)) (pa_cons (opd_snd o h6 (snd b .val c X k W _ o h6)) pa_nil (star_cons h4' _ _)) (star_cons h4 _ _)) (by rw [star_cons h4, star_cons h4']; rfl) (by rw [star_cons h4']; rfl)
        · cases h
      | _ => simp [chk] at h
  | .enum a, m, c, X, k, W, e, o, h => by
      cases m with
      | iter t =>
        rw [chk] at h; dsimp only at h
        show PI X t e (TIof X.K X.mg W (evI Φ C (.enum a)))
        split at h
        · simp only [Bool.and_eq_true, beq_iff_eq, List.contains_iff_mem] at h
          obtain ⟨⟨⟨⟨⟨h0, rfl⟩, h2⟩, h3⟩, h4⟩, h5⟩ := h
          obtain ⟨g1, g2⟩ := gl_of o h2
          obtain ⟨es, kk, tp, rfl⟩ := tup_of h0
          rw [evI]
          exact pi_enum' g1 (o.bl _ h3) (pa_cons (snd a .val c X k W _ o h5) pa_nil (star_cons h4 _ _)) (star_cons h4 _ _)
        · cases h
      | _ => simp [chk] at h
  | .zip a b, m, c, X, k, W, e, o, h => by
      cases m with
      | iter t =>
        rw [chk] at h; dsimp only at h
        show PI X t e (TIof X.K X.mg W (evI Φ C (.zip a b)))
        split at h
        · simp only [Bool.and_eq_true, beq_iff_eq, List.contains_iff_mem] at h
          obtain ⟨⟨⟨⟨⟨⟨⟨h0, rfl⟩, h2⟩, h3⟩, h4⟩, h4'⟩, h5⟩, h6⟩ := h
          obtain ⟨g1, g2⟩ := gl_of o h2
          obtain ⟨es, kk, tp, rfl⟩ := tup_of h0
          rw [evI]
          exact pi_zip' g1 (o.bl _ h3) (pa_cons (snd a .val c X k W _ o h5) (pa_cons (snd b .val c X k W _ o h6) pa_nil (star_cons h4' _ _)) (star_cons h4 _ _)) (star_cons h4 _ _) (star_plain _ (by simp [h4']))
        · cases h
      | _ => simp [chk] at h
  | .andV a b, m, c, X, k, W, e, o, h => spec_snd o (fun t => rfl) (by rw [evI] <;> first | rfl | (intros; contradiction)) (fun h => by
      rw [chk] at h; dsimp only at h
      split at h
      · simp only [Bool.and_eq_true] at h
        obtain ⟨h1, h2⟩ := h
        rw [ev]
        refine PE.imp (pe_and (snd a .val c X k W _ o h1) ?_) fun σ H Q => te_and
        rename_i r _
        cases r with
        | nil => exact pe_one (snd b .val c X k W _ o h2)
        | cons z r => exact snd b .val c X k W _ o h2
      · cases h) (fun h => by
      rw [chk] at h; dsimp only at h
      split at h
      · simp only [Bool.and_eq_true] at h
        obtain ⟨h1, h2⟩ := h
        rw [evT]
        refine PT.imp (pw_and (tB' := TTof X.K X.mg W (evT Φ C b)) (snd a .test c X k W _ o h1) ?_).pt fun σ H Q => tt_and
        rename_i r _
        cases r with
        | nil => exact pw_and1 (snd b .test c X k W _ o h2)
        | cons z r => exact pw_bool (snd b .test c X k W _ o h2)
      · cases h) m h
  | .orV a b, m, c, X, k, W, e, o, h => spec_snd o (fun t => rfl) (by rw [evI] <;> first | rfl | (intros; contradiction)) (fun h => by
      rw [chk] at h; dsimp only at h
      split at h
      · simp only [Bool.and_eq_true] at h
        obtain ⟨h1, h2⟩ := h
        rw [ev]
        refine PE.imp (pe_or (snd a .val c X k W _ o h1) ?_) fun σ H Q => te_or
        rename_i r _
        cases r with
        | nil => exact pe_one (snd b .val c X k W _ o h2)
        | cons z r => exact snd b .val c X k W _ o h2
      · cases h) (fun h => by
      rw [chk] at h; dsimp only at h
      split at h
      · simp only [Bool.and_eq_true] at h
        obtain ⟨h1, h2⟩ := h
        rw [evT]
        refine PT.imp (pw_or (tB' := TTof X.K X.mg W (evT Φ C b)) (snd a .test c X k W _ o h1) ?_).pt fun σ H Q => tt_or
        rename_i r _
        cases r with
        | nil => exact pw_or1 (snd b .test c X k W _ o h2)
        | cons z r => exact pw_bool (snd b .test c X k W _ o h2)
      · cases h) m h
  | .notV a, m, c, X, k, W, e, o, h => spec_snd o (fun t => rfl) (by rw [evI] <;> first | rfl | (intros; contradiction)) (fun h => by
      rw [chk] at h; dsimp only at h
      split at h
      · rw [ev]; exact PE.imp (pe_not (snd a .val c X k W _ o h)) fun σ H Q => te_not
      · cases h) (fun h => by
      rw [chk] at h; dsimp only at h
      split at h
      · rw [evT]; exact PT.imp (pt_not (snd a .test c X k W _ o h)) fun σ H Q => tt_not
      · cases h) m h
  | .ite t a b, m, c, X, k, W, e, o, h => spec_snd o (fun t => rfl) (by rw [evI] <;> first | rfl | (intros; contradiction)) (fun h => by
      rw [chk] at h; dsimp only at h
      split at h
      · simp only [Bool.and_eq_true] at h
        obtain ⟨⟨h1, h2⟩, h3⟩ := h
        rw [ev]; exact PE.imp (pe_ifExp (snd t .test c X k W _ o h1) (snd a .val c X k W _ o h2) (snd b .val c X k W _ o h3)) fun σ H Q => te_ite
      · cases h) (fun h => by
      rw [chk] at h; dsimp only at h
      split at h
      · simp only [Bool.and_eq_true] at h
        obtain ⟨⟨h1, h2⟩, h3⟩ := h
        rw [evT]; exact PT.imp (pt_ifExp (snd t .test c X k W _ o h1) (snd a .test c X k W _ o h2) (snd b .test c X k W _ o h3)) fun σ H Q => tt_ite
      · cases h) m h
  | .cmp op a b, m, c, X, k, W, e, o, h => spec_snd o (fun t => rfl) (by rw [evI] <;> first | rfl | (intros; contradiction)) (fun h => by
      rw [chk] at h; dsimp only at h
      split at h
      · simp only [Bool.and_eq_true, beq_iff_eq] at h
        obtain ⟨⟨⟨rfl, h1⟩, h2⟩, h3⟩ := h
        rw [ev]
        exact PE.imp (pe_cmpR (cmp_ok o.room op) (opd_snd o h2 (snd a .val c X k W _ o h2)) (opd_snd o h3 (snd b .val c X k W _ o h3)) (marks_of h1)) fun σ H Q => te_op2
      · cases h) (fun h => by
      rw [chk] at h; dsimp only at h
      split at h
      · simp only [Bool.and_eq_true, beq_iff_eq] at h
        obtain ⟨⟨⟨rfl, h1⟩, h2⟩, h3⟩ := h
        refine PT.imp (pt_cmpR (cmp_ok o.room op) (opd_snd o h2 (snd a .val c X k W _ o h2)) (opd_snd o h3 (snd b .val c X k W _ o h3)) (marks_of h1)) fun σ H Q q => tt_cmp ?_
        rw [evT_cmp] at q
        have q := tt_val q
        rw [opd_ex (by intros; simp)] at q
        rw [ev] at q
        exact te_op2 q
      · cases h) m h
  | .chn op p a b d, m, c, X, k, W, e, o, h => spec_snd o (fun t => rfl) (by rw [evI] <;> first | rfl | (intros; contradiction)) (fun h => by
      rw [chk] at h; dsimp only at h
      split at h
      · simp only [Bool.and_eq_true, beq_iff_eq] at h
        obtain ⟨⟨⟨⟨⟨rfl, rfl⟩, h1⟩, h2⟩, h3⟩, h4⟩ := h
        rw [ev]
        exact PE.imp (pe_chain (cmp_ok o.room op) (cmp_ok o.room p) (opd_snd o h2 (snd a .val c X k W _ o h2)) (opd_snd o h3 (snd b .val c X k W _ o h3)) (opd_snd o h4 (snd d .val c X k W _ o h4)) (lastMarks_of h1)) fun σ H Q => te_chn
      · cases h) (fun h => by
      rw [chk] at h; dsimp only at h
      split at h
      · simp only [Bool.and_eq_true, beq_iff_eq] at h
        obtain ⟨⟨⟨⟨⟨rfl, rfl⟩, h1⟩, h2⟩, h3⟩, h4⟩ := h
        refine PT.imp (pt_chain (cmp_ok o.room op) (cmp_ok o.room p) (opd_snd o h2 (snd a .val c X k W _ o h2)) (opd_snd o h3 (snd b .val c X k W _ o h3)) (opd_snd o h4 (snd d .val c X k W _ o h4)) (lastMarks_of h1)) fun σ H Q q => tt_chn ?_
        rw [evT_chn] at q
        have q := tt_val q
        rw [opd_ex (by intros; simp)] at q
        rw [ev] at q
        exact te_chn q
      · cases h) m h
theorem sndAs : ∀ (as : List E) (c : Ck) (X : Cx) (k : Nat) (W : WX) (es : List Expr), c.Ok X k Φ C W → es.all notStar = true → chkAs as c es = true → PA X es (tOpds X.K X.mg W (opds Φ C as)) ∧ PA X es (tArgs X.K X.mg W (args Φ C as)) ∧ PEs X W es (args Φ C as)
  | [], c, X, k, W, es, o, hs, h => by
    rw [chkAs] at h
    cases es with
    | nil => rw [opds, args]; exact ⟨pa_nil, pa_nil, .nil⟩
    | cons e es => cases h
  | a :: as, c, X, k, W, es, o, hs, h => by
    rw [chkAs] at h
    cases es with
    | nil => cases h
    | cons e es =>
      have hs' := hs
      rw [List.all_cons, Bool.and_eq_true] at hs
      simp only [Bool.and_eq_true] at h
      have s := snd a .val c X k W e o h.1
      obtain ⟨q1, q2, q3⟩ := sndAs as c X k W es o hs.2 h.2
      have so := opd_snd o h.1 s
      have pe : PEs X W (e :: es) (args Φ C (a :: as)) := by
        by_cases q : ∃ i, a = .var i
        · obtain ⟨i, rfl⟩ := q
          rw [args_var]
          rw [opd_var] at so
          exact .cons so q3
        · rw [args_ex fun i z => q ⟨i, z⟩]
          exact .cons s q3
      rw [opds]
      exact ⟨pa_cons so q1 (star_cons hs.1 _ _), PEs.pa pe hs', pe⟩
theorem sndDs : ∀ (as : List E) (c : Ck) (X : Cx) (k : Nat) (W : WX) (es : List Expr), c.Ok X k Φ C W → chkDs as c es = true → PA X es (tDisp X.K X.mg W Φ C as)
  | [], c, X, k, W, es, o, h => by
    rw [chkDs] at h
    cases es with
    | nil => rw [tDisp]; exact pa_nil
    | cons e es => cases h
  | a :: as, c, X, k, W, es, o, h => by
    rw [chkDs] at h
    cases es with
    | nil => cases h
    | cons e es =>
      simp only [Bool.and_eq_true] at h
      obtain ⟨h1, h2⟩ := h
      have sd := sndDs as c X k W es o h2
      have sa := fun h => snd a .val c X k W e o h
      cases a
      case star b =>
        split at h1
        · have s := snd b .val c X k W _ o h1
          rw [tDisp]
          exact StX.pa_star s sd rfl
        · simp [chk, dflt] at h1
      all_goals (
        have hns : notStar e = true := by
          cases e <;> first | rfl | cases h1
        have h1 := (show chk _ .val c e = true by cases e <;> first | exact h1 | cases hns)
        rw [tDisp_cons _ as (by intros; simp)]
        exact pa_cons (sa h1) sd (star_cons hns _ _))
theorem sndTs : ∀ (as : List E) (c : Ck) (X : Cx) (k : Nat) (W : WX) (es : List Expr), c.Ok X k Φ C W → chkTs as c es = true → PTs X es (ttOf X.K X.mg W Φ C as)
  | [], c, X, k, W, es, o, h => by
    rw [chkTs] at h
    cases es with
    | nil => exact pts_nil
    | cons e es => cases h
  | a :: as, c, X, k, W, es, o, h => by
    rw [chkTs] at h
    dsimp only at h
    split at h
    · exact pts_one (snd a .test c X k W _ o h)
    · cases h
end
end
end Lw
end

section
set_option Elab.async false
set_option linter.all false
set_option maxRecDepth 100000
set_option maxHeartbeats 4000000
/-! L19: the checker's word is good: statements -/
namespace Lw
open PySem L2
variable [TabInfo]
section
variable {X : Cx} {c : Ck} {k : Nat} {Φ : Nat → M Sl} {C : Nat → D} {W : WX}
theorem filterMap_all {α β : Type} {f : α → Option β} : ∀ {l : List α}, (l.filterMap f).length = l.length → ∀ x ∈ l, (f x).isSome = true
  | [], _, x, h => nomatch h
  | a :: l, e, x, h => by
    rw [List.filterMap_cons] at e
    have hle := List.length_filterMap_le f l
    cases ea : f a with
    | none => rw [ea] at e; simp at e; omega
    | some b =>
      rw [ea] at e
      rcases List.mem_cons.mp h with rfl | h
      · rw [ea]; rfl
      · exact filterMap_all (by simpa using e) x h
theorem swap_none {ts : List Expr} {v : Expr} {a b} (o : c.Ok X k Φ C W) (h : plainAsg c ts v = true) : swappedStores [.Tuple ts a b] v X.env = pure none := by
  cases v with
  | Tuple vs k p =>
    unfold swappedStores
    simp only [plainAsg, Bool.or_eq_true] at h
    dsimp only
    split
    · rfl
    · rename_i h1
      split
      · rfl
      · split
        · rfl
        · rename_i h3
          split
          · rfl
          · rename_i h4
            exfalso
            simp only [Bool.or_eq_true, not_or] at h1 h3
            rcases h with ((h | h) | h) | h
            · exact h4 h
            · exact h1.1.1 h
            · exact h1.1.2 h
            · rw [List.any_eq_true] at h
              obtain ⟨e, he, h⟩ := h
              have := filterMap_all (by have q := h3.1; rw [bne_iff_ne] at q; exact Classical.not_not.mp q) e he
              cases e <;> first | cases this | skip
              rename_i x p
              have hk : X.env.kindOf x = c.sc.names.lookup x := by show X.env.scope.names.lookup x = _; rw [o.sc]
              dsimp only at this h
              rw [hk] at this
              cases e2 : (c.sc.names.lookup x == some .local) with
              | false => rw [e2] at this; cases this
              | true => simp only [bne, e2] at h; cases h
  | _ => rfl
theorem names_eq (o : c.Ok X k Φ C W) (l : Nat) : ∀ {ts : List Expr}, (ts.all fun e => match e with
    | .Name x p => c.sc.names.lookup x == some .local && p.line == l
    | _ => false) = true → (ts.filterMap fun e => match e with
    | .Name id pos => if X.env.kindOf id == some .local && pos.line == l then some id else none
    | _ => none) = namesOf ts ∧ (namesOf ts).length = ts.length
  | [], _ => ⟨rfl, rfl⟩
  | e :: ts, h => by
    rw [List.all_cons, Bool.and_eq_true] at h
    obtain ⟨q1, q2⟩ := names_eq o l h.2
    cases e <;> first | cases h.1 | skip
    rename_i x p
    have hk : X.env.kindOf x = c.sc.names.lookup x := by show X.env.scope.names.lookup x = _; rw [o.sc]
    have h1 : (c.sc.names.lookup x == some .local && p.line == l) = true := h.1
    refine ⟨?_, by simp [namesOf, q2]⟩
    rw [List.filterMap_cons]
    dsimp only
    rw [hk, h1, namesOf, ← q1]
    rfl
theorem swap_some {ts vs : List Expr} {a b k' p} (o : c.Ok X k Φ C W) (h : swapAsg c ts vs = true) : swappedStores [.Tuple ts a b] (.Tuple vs k' p) X.env = pure (some (namesOf ts)) := by
  have hb : X.env.blockKind = .function := by unfold Env.blockKind; rw [o.sc, o.kind]; rfl
  simp only [swapAsg, Bool.and_eq_true, Bool.not_eq_true'] at h
  obtain ⟨⟨⟨⟨⟨⟨h1, h2⟩, h3⟩, h4⟩, h5⟩, h6⟩, h7⟩ := h
  obtain ⟨q1, q2⟩ := names_eq o _ h7
  unfold swappedStores
  dsimp only
  have e4 : (vs.any fun | .Starred .. => true | _ => false) = false := by
    rw [List.any_eq_false]
    intro x hx
    have := List.all_eq_true.mp h4 x hx
    cases x <;> first | (simp; done) | cases this
  have eh : ts[0]? = ts.head? := by cases ts <;> rfl
  rw [if_neg (by rw [hb]; simp only [h1]; simp only [beq_iff_eq] at h2; simp [h2])]
  split
  · rename_i z; exact absurd (e4.symm.trans z) (by decide)
  · split
    · rename_i z
      exfalso
      erw [q1] at z
      simp only [beq_iff_eq] at h3
      simp [q2, h3] at z
    · rw [if_neg (by rw [h5]; decide), if_neg (by rw [h6]; decide)]
      erw [q1]
end
end Lw
end

section
set_option Elab.async false
set_option linter.all false
set_option maxRecDepth 100000
set_option maxHeartbeats 4000000
/-! L20: the checker's word is good: every statement -/
namespace Lw
open PySem L2
variable [TabInfo]
section
variable {Φ : Nat → M Sl} {C : Nat → D}
/-- l = [.. for ..] -/
theorem set_lc {X : Cx} {c : Ck} {k : Nat} {W : WX} (o : c.Ok X k Φ C W) {e : E} {i : Nat} {x : Str} {px pos p : Pos} {el : Expr} {gs : List Comprehension} {scope : Scope} (hl : locB c i x = true) (he : chk e .val c (.ListComp el gs scope p) = true)
    (h1 : (c.sc.names.lookup x == some .local) = true) (h2 : (px.line == p.line) = true) (h3 : (scope.names.any fun (n, k) => n == x && (k == .local || k == .cell)) = false) :
    PS X (.Assign [.Name x px] (.ListComp el gs scope p) pos) (tAsg (TEof X.K X.mg W (ev Φ C e)) (gName i)) := by
  cases e
  case mth m a as => rw [chk] at he; dsimp only [dflt] at he; cases m <;> cases as <;> cases he
  case lc =>
    rename_i elt tg it ifs own
    rw [chk] at he; dsimp only [dflt] at he
    split at he
    · rename_i heq
      cases heq
      simp only [Bool.and_eq_true] at he
      obtain ⟨⟨⟨⟨⟨⟨h1', h2'⟩, h3'⟩, h4⟩, h5⟩, h6⟩, h7⟩ := he
      rw [ev]
      have hb := blkOk_by h1'
      have hb' := hb
      rw [← o.N, ← o.sc] at hb'
      have hst : ∀ i ∈ tg.st, i ∈ own := fun i hi => by simpa using List.all_eq_true.mp h2' i hi
      have ok := fun s H C' cl fp => o.inner (Cc := C') (cl := cl) (own := own) (s := s) (H := H) (fp := fp) hb.kind
      obtain ⟨q1, q2, q3⟩ := loc_of o hl
      have hy : X.env.scope.names.lookup x = some .local := by rw [o.sc]; simpa using h1
      refine PS.imp (ps_setLc (te := TEof X.K X.mg W0 (ev Φ C elt)) (tt := ttOf X.K X.mg W0 Φ C ifs) (g := tgT X.K tg) o.calm (by rw [o.N]; exact o.nd) q1 hy (sw_true (by rw [o.sc]; exact o.kind) hy h2 h3) (snd it (.iter _) c X k W _ o h4) hb' (fun s H C' cl fp => sndG tg _ _ _ _ _ (ok s H C' cl fp) h5) (fun s H C' cl fp => sndTs ifs _ _ _ _ _ (ok s H C' cl fp) h6) (fun s H C' cl fp => snd elt .val _ _ _ _ _ (ok s H C' cl fp) h7) (folded_of h3')) fun D σ H q => ?_
      have hown : (ownN c own).map (·.2) = own := by simp [ownN, Function.comp_def]
      rw [hown]
      exact lc_sound hst (fun σ H Q => tts_of ifs (chkTs_len h6)) σ H _ q
    · cases he
  all_goals (rw [chk] at he; dsimp only [dflt] at he; cases he)
/-- l = {.. for ..} -/
theorem set_dc {X : Cx} {c : Ck} {k : Nat} {W : WX} (o : c.Ok X k Φ C W) {e : E} {i : Nat} {x : Str} {px pos p : Pos} {el vl : Expr} {gs : List Comprehension} {scope : Scope} (hl : locB c i x = true) (he : chk e .val c (.DictComp el vl gs scope p) = true)
    (h1 : (c.sc.names.lookup x == some .local) = true) (h2 : (px.line == p.line) = true) (h3 : (scope.names.any fun (n, k) => n == x && (k == .local || k == .cell)) = false) :
    PS X (.Assign [.Name x px] (.DictComp el vl gs scope p) pos) (tAsg (TEof X.K X.mg W (ev Φ C e)) (gName i)) := by
  cases e
  case mth m a as => rw [chk] at he; dsimp only [dflt] at he; cases m <;> cases as <;> cases he
  case dc =>
    rename_i kx vx tg it ifs own
    rw [chk] at he; dsimp only [dflt] at he
    split at he
    · rename_i heq
      cases heq
      simp only [Bool.and_eq_true] at he
      obtain ⟨⟨⟨⟨⟨⟨⟨h1', h2'⟩, h3'⟩, h4⟩, h5⟩, h6⟩, h7⟩, h8⟩ := he
      rw [ev]
      have hb := blkOk_by h1'
      have hb' := hb
      rw [← o.N, ← o.sc] at hb'
      have hst : ∀ i ∈ tg.st, i ∈ own := fun i hi => by simpa using List.all_eq_true.mp h2' i hi
      have ok := fun s H C' cl fp => o.inner (Cc := C') (cl := cl) (own := own) (s := s) (H := H) (fp := fp) hb.kind
      obtain ⟨q1, q2, q3⟩ := loc_of o hl
      have hy : X.env.scope.names.lookup x = some .local := by rw [o.sc]; simpa using h1
      refine PS.imp (ps_setDc (tk := TEof X.K X.mg W0 (ev Φ C kx)) (tv := TEof X.K X.mg W0 (ev Φ C vx)) (tt := ttOf X.K X.mg W0 Φ C ifs) (g := tgT X.K tg) o.calm (by rw [o.N]; exact o.nd) q1 hy (swD_true (by rw [o.sc]; exact o.kind) hy h2 h3) (snd it (.iter _) c X k W _ o h4) hb' (fun s H C' cl fp => sndG tg _ _ _ _ _ (ok s H C' cl fp) h5) (fun s H C' cl fp => sndTs ifs _ _ _ _ _ (ok s H C' cl fp) h6) (fun s H C' cl fp => snd kx .val _ _ _ _ _ (ok s H C' cl fp) h7) (fun s H C' cl fp => snd vx .val _ _ _ _ _ (ok s H C' cl fp) h8) (folded_of h3')) fun D σ H q => ?_
      have hown : (ownN c own).map (·.2) = own := by simp [ownN, Function.comp_def]
      rw [hown]
      exact dc_sound hst (fun σ H Q => tts_of ifs (chkTs_len h6)) σ H _ q
    · cases he
  all_goals (rw [chk] at he; dsimp only [dflt] at he; cases he)
theorem par_of {X : Cx} {c : Ck} {k : Nat} {W : WX} (o : c.Ok X k Φ C W) : ∀ {is : List Nat} {ts : List Expr}, chkPar c is ts = true → is.length = ts.length ∧ ∀ i ∈ is, i ∈ c.st
  | [], [], _ => ⟨rfl, fun _ h => nomatch h⟩
  | i :: is, e :: ts, h => by
    cases e <;> first | cases h | skip
    rw [chkPar, Bool.and_eq_true] at h
    obtain ⟨q1, q2⟩ := par_of o h.2
    refine ⟨by simp [q1], fun j hj => ?_⟩
    rcases List.mem_cons.mp hj with rfl | hj
    · have := h.1
      unfold locB at this
      simp only [Bool.and_eq_true] at this
      simpa using this.1.2
    · exact q2 j hj
  | [], e :: ts, h => by simp [chkPar] at h
  | i :: is, [], h => by simp [chkPar] at h
theorem par_cons {c : Ck} {is : List Nat} {ts : List Expr} {n : Nat} (h : chkPar c is ts = true) (e : ts.length = n + 1) : ∃ i is' x px ts', is = i :: is' ∧ ts = .Name x px :: ts' ∧ locB c i x = true ∧ chkPar c is' ts' = true ∧ ts'.length = n := by
  cases ts with
  | nil => cases e
  | cons t ts =>
    cases is with
    | nil => simp [chkPar] at h
    | cons i is =>
      cases t <;> first | cases h | skip
      rw [chkPar, Bool.and_eq_true] at h
      exact ⟨_, _, _, _, _, rfl, rfl, h.1, h.2, by simpa using e⟩
theorem par_nil {c : Ck} {is : List Nat} {ts : List Expr} (h : chkPar c is ts = true) (e : ts.length = 0) : is = [] ∧ ts = [] := by
  cases ts with
  | nil => cases is with
    | nil => exact ⟨rfl, rfl⟩
    | cons i is => simp [chkPar] at h
  | cons t ts => cases e
theorem locB_st {c : Ck} {i : Nat} {x : Str} (h : locB c i x = true) : i ∈ c.st := by
  unfold locB at h
  simp only [Bool.and_eq_true] at h
  simpa using h.1.2
mutual
theorem chkG_st : ∀ (tg : Tgt) {c : Ck} {e : Expr}, chkG c tg e = true → ∀ i ∈ tg.st, i ∈ c.st
  | .nm i, c, e, h, j, hj => by
    rw [chkG] at h; dsimp only at h
    rw [Tgt.st] at hj
    split at h
    · have := locB_st h
      simp at hj; rw [hj]; exact this
    · cases h
  | .tup ts, c, e, h, j, hj => by
    rw [chkG] at h; dsimp only at h
    rw [Tgt.st] at hj
    split at h
    · exact chkGs_st ts h j hj
    · cases h
theorem chkGs_st : ∀ (ts : List Tgt) {c : Ck} {es : List Expr}, chkGs c ts es = true → ∀ i ∈ Tgt.sts ts, i ∈ c.st
  | [], c, es, h, j, hj => by rw [Tgt.sts] at hj; cases hj
  | t :: ts, c, es, h, j, hj => by
    rw [chkGs] at h
    cases es with
    | nil => cases h
    | cons e es =>
      simp only [Bool.and_eq_true] at h
      rw [Tgt.sts] at hj
      rcases List.mem_append.mp hj with hj | hj
      · exact chkG_st t h.1.2 j hj
      · exact chkGs_st ts h.2 j hj
end
theorem aug_add {d x : Lw.D} {s : Sl} (h : augO .Add d x = some s) : ∃ a b, d = .int a ∧ x = .int b ∧ s = vI (a + b) := by
  unfold augO at h
  split at h
  · cases h; exact ⟨_, _, rfl, rfl, rfl⟩
  · rename_i heq; cases heq
  · cases h
theorem aug_sub {d x : Lw.D} {s : Sl} (h : augO .Sub d x = some s) : ∃ a b, d = .int a ∧ x = .int b ∧ s = vI (a - b) := by
  unfold augO at h
  split at h
  · rename_i heq; cases heq
  · cases h; exact ⟨_, _, rfl, rfl, rfl⟩
  · cases h
theorem noswap1 {t e : Expr} {l : Nat} {env : PySem.Env} (h : notComp e = true) : swapsWithSole [t] e l env = pure false := by
  unfold swapsWithSole
  exact noswap_of h
theorem asg_sub {o i : Expr} {pos : Pos} {env : PySem.Env} {v : Value} (h : plainIx i = true) : assign (.Subscript o i pos) env v = (do
      let ov ← holding [v] (eval o env)
      let iv ← holding [v, ov] (eval i env)
      standAt pos
      holding [v, ov, iv] (setItem ov iv v)
      release [v, ov, iv] []) := by
  cases i <;> first | rfl | cases h
theorem base_name {x : Str} {p : Pos} {m : Str} {env : PySem.Env} {w : Sem Value} : attributeBase (.Name x p) m env w = w := rfl
/-- raise C(e) -/
theorem ss_raise {K : PySem.W.Frag} {mg : Str → Option Value} {W : WX} {st : List Nat} {D : Ends} {σ : L2.St} {H : Hp} {f : M Sl} {n : Str} {c : Addr} (ec : TabInfo.exc n = some c) (h : TSof K mg W st (fun E => .of (f E) fun s E1 => .exc n s.d E1) D σ H) :
    TEof K mg W f σ H fun v H1 => ∀ d, H1 d = none → W (.ref c) (some d) σ (upd H1 d (.xd [(("value" : Str), v)])) := by
  obtain ⟨P, E, g, h⟩ := h
  dsimp only at h
  refine ⟨P, E, g, ?_⟩
  cases e : f E with
  | bad => rw [e] at h; exact h.elim
  | exc C x E1 => exact of_post e h
  | ok s E1 =>
    rw [e] at h
    intro v H1 g1 l1 r1 n1 d hd
    have ex := ext_upd (o := .xd [(("value" : Str), v)]) hd
    exact h σ _ (.ref c) (some d) ((g1.less fun a z => .inl z).ext ex) ((l1.less fun a z => .inl z).trans (Lnk.ext ex)) Same.refl ⟨c, d, v, ec, rfl, rfl, upd_same, (r1.frz0 g1 n1).keep (Kp.of ex)⟩
/-- a lambda of the list, as the checker sees it -/
theorem lamB_ok {X : Cx} {c : Ck} {k j : Nat} {W : WX} (o : c.Ok X k Φ C W) (h1 : 1 ≤ j) (fsj : ∀ i e, c.fs[i]? = some e → FnH X.prog X.w X.K X.mg X.base j e (Φ i)) {e : E} {v : Expr} (h : lamB c e v = true) :
    ∃ (params : Arguments) (body : Expr) (scope : Scope) (pos : Pos), v = .Lambda params body scope pos ∧ LInf.Ok ⟨params, body, scope, ev Φ C e⟩ X j := by
  cases v <;> first | cases h | skip
  rename_i params body scope pos
  simp only [lamB, Bool.and_eq_true] at h
  obtain ⟨⟨h2, h3⟩, h4⟩ := h
  exact ⟨params, body, scope, pos, rfl, by rw [o.sc]; exact h3, h2, fun A outer s H E f c' hg hrm => show PE _ _ (TEof X.K X.mg (fun c d _ H => E c d H) (ev Φ C e)) from snd e .val _ _ j _ _ (o.lam (E := E) h1 h3 hg hrm fsj) h4⟩
theorem chkApps_ok {X : Cx} {c : Ck} {k j : Nat} {W : WX} (o : c.Ok X k Φ C W) (h1 : 1 ≤ j) (fsj : ∀ i e, c.fs[i]? = some e → FnH X.prog X.w X.K X.mg X.base j e (Φ i)) {x : Str} : ∀ {es : List E} {ss : List Stmt}, chkApps c x es ss = true →
    ∃ infos : List LInf, infos.map (·.m) = evs Φ C es ∧ (∀ i ∈ infos, i.Ok X j) ∧ Paired (IsApp x) ss infos
  | [], [], _ => ⟨[], by rw [evs]; rfl, (fun i z => absurd z List.not_mem_nil), .nil⟩
  | [], _ :: _, h => by simp [chkApps] at h
  | e :: es, [], h => by simp [chkApps] at h
  | e :: es, s :: ss, h => by
    unfold chkApps at h
    split at h
    · rename_i heq1 heq2; cases heq1
    · rename_i e' es' x' p1 m ap v cp p2 ss' heq1 heq2
      cases heq1; cases heq2
      simp only [Bool.and_eq_true, beq_iff_eq] at h
      obtain ⟨⟨⟨⟨rfl, rfl⟩, h4⟩, h5⟩, h6⟩ := h
      obtain ⟨params, body, scope, pos, rfl, ok⟩ := lamB_ok o h1 fsj h5
      obtain ⟨infos, q1, q2, q3⟩ := chkApps_ok o h1 fsj h6
      exact ⟨⟨params, body, scope, ev Φ C e⟩ :: infos, by rw [evs, List.map_cons, q1], fun i hi => (List.mem_cons.mp hi).elim (fun z => z ▸ ok) (q2 i), .cons ⟨p1, ap, cp, p2, pos, rfl, by simpa using h4⟩ q3⟩
    · cases h
/-- l = [lambda: ..], .., c = [_law_heard(x)[0] for x in l], and the rest -/
theorem hears_snd {X : Cx} {c : Ck} {k : Nat} {W : WX} (o : c.Ok X k Φ C W) {l kc : Nat} {es : List E} {ss rest : List Stmt} {tR : TS} (h : chkHs c (.hears l kc es) ss = true) (hr : PSs X rest tR) : PSs X (ss ++ rest) (tSeq (TSof X.K X.mg W c.st (ex Φ C (.hears l kc es))) tR) := by
  unfold chkHs at h
  split at h
  · rename_i l' k' e es' x px v lpos pos ss' heq
    cases heq
    simp only [Bool.and_eq_true] at h
    obtain ⟨⟨⟨⟨⟨h1, h2⟩, h3⟩, h4⟩, h5⟩, h6⟩ := h
    obtain ⟨j, j1, hx, fsj⟩ := o.hd h1
    obtain ⟨params, body, scope, lp, rfl, ok⟩ := lamB_ok o j1 fsj h4
    obtain ⟨infos, q1, q2, q3⟩ := chkApps_ok o j1 fsj h5
    split at h6
    case h_2 => cases h6
    rename_i sl hd
    have hss : ss' = ss'.take es'.length ++ [sl] := by rw [← hd, List.take_append_drop]
    rw [hss]
    generalize ss'.take es'.length = apps at q3
    unfold chkLast at h6
    split at h6
    case h_2 => cases h6
    rename_i y py hn p1 lk p2 p3 z k0 p4 p5 lk' p6 x' p7 scope' p8 p0
    simp only [Bool.and_eq_true, beq_iff_eq, Bool.not_eq_true'] at h6
    obtain ⟨⟨⟨⟨⟨⟨⟨⟨rfl, rfl⟩, rfl⟩, rfl⟩, g1⟩, g2⟩, g3⟩, g4⟩, g5⟩ := h6
    split at g5
    case h_2 => cases g5
    rename_i jl hjl
    simp only [Bool.and_eq_true, beq_iff_eq] at g5
    obtain ⟨⟨⟨⟨b1, b2⟩, b3⟩, b4⟩, b5⟩ := g5
    have hN : X.N.Nodup := by rw [o.N]; exact o.nd
    obtain ⟨x1, x2, x3⟩ := loc_of o h2
    obtain ⟨y1, y2, y3⟩ := loc_of o g1
    have ly : X.env.scope.names.lookup y = some .local := by rw [o.sc]; exact g2
    have bo := blkOk_by b2
    have bo' := bo
    rw [← o.N, ← o.sc] at bo'
    have okB := fun s H C' cl fp => o.inner (Cc := C') (cl := cl) (own := [jl]) (s := s) (H := H) (fp := fp) bo.kind
    have q := hears_ok (W := W) (st := c.st) (todo := infos) (i := ⟨params, body, scope, ev Φ C e⟩) (lk := lk') (jl := jl) (p0 := p0) (p1 := p1) (p2 := p2) (p3 := p3) (p4 := p4) (p5 := p5) (p6 := p6) (p7 := p7) (p8 := p8) (py := py) (k0 := k0) (scope := scope') hx o.calm hN x1 x2 x3 (fun p => pe_varO o h3) y1 ly (locB_st h2) (locB_st g1) (by rw [o.N]; exact b1)
      (fun i hi => (List.mem_cons.mp hi).elim (fun z => z ▸ ok) (q2 i)) ⟨px, lp, lpos, pos, rfl⟩ q3 (sw_true (by rw [o.sc]; exact o.kind) ly (by simpa using g3) g4) bo'
      (fun s H C' cl fp => by
        obtain ⟨z1, z2, z3⟩ := loc_of (okB s H C' cl fp) b5
        exact pg_name hN z1 z2 z3)
      (fun s H C' cl fp => pe_varO (okB s H C' cl fp) b4) (by
        have z := b3
        unfold glB at z
        simp only [Bool.and_eq_true, beq_iff_eq] at z
        show (relS scope' X.env.scope).names.lookup hdN = _
        rw [o.sc]; exact z.2) hr
    rw [List.map_cons, q1, ← (show evs Φ C (e :: es') = ev Φ C e :: evs Φ C es' from by rw [evs])] at q
    have e1 : ex Φ C (.hears l kc (e :: es')) = hearsS l kc (evs Φ C (e :: es')) := by rw [ex]
    rw [e1]
    simpa [List.append_assoc] using q
  · rename_i heq; cases heq
  · cases h
/-- l = [lambda: ..], .., _law_all_refuse(l, lambda miss: .., v), and the rest -/
theorem refuse_snd {X : Cx} {c : Ck} {k : Nat} {W : WX} (o : c.Ok X k Φ C W) {l : Nat} {es : List E} {Cn : Str} {v : E} {fin : Bool} {ss rest : List Stmt} {tR : TS} (h : chkHs c (.refuse l es Cn v fin) ss = true) (hr : PSs X rest tR) : PSs X (ss ++ rest) (tSeq (TSof X.K X.mg W c.st (ex Φ C (.refuse l es Cn v fin))) tR) := by
  unfold chkHs at h
  split at h
  · rename_i heq; cases heq
  · rename_i l' e es' Cn' w' fin' x px v' lpos pos ss' heq
    cases heq
    simp only [Bool.and_eq_true] at h
    obtain ⟨⟨⟨⟨⟨h1, h2⟩, h3⟩, h4⟩, h5⟩, h6⟩ := h
    obtain ⟨j, j1, hx, hA, fsj⟩ := o.ar h1
    obtain ⟨params, body, scope, lp, rfl, ok⟩ := lamB_ok o j1 fsj h4
    obtain ⟨infos, q1, q2, q3⟩ := chkApps_ok o j1 fsj h5
    split at h6
    case h_2 => cases h6
    rename_i sl hd
    have hss : ss' = ss'.take es'.length ++ [sl] := by rw [← hd, List.take_append_drop]
    rw [hss]
    generalize ss'.take es'.length = apps at q3
    have hN : X.N.Nodup := by rw [o.N]; exact o.nd
    obtain ⟨x1, x2, x3⟩ := loc_of o h2
    have okA : ∀ i ∈ (⟨params, body, scope, ev Φ C e⟩ : LInf) :: infos, i.Ok X j := fun i hi => (List.mem_cons.mp hi).elim (fun z => z ▸ ok) (q2 i)
    -- the call
    have call : ∀ {ce : Expr}, chkARc c x Cn v ce = true → PE X ce (tAR c.st X l (⟨params, body, scope, ev Φ C e⟩ :: infos) Cn (ev Φ C v)) ∧ plainT ce = true := fun {ce} hc => by
      unfold chkARc at hc
      split at hc
      · rename_i f p0 x' p1 pa bd sc p2 w p3
        simp only [Bool.and_eq_true, beq_iff_eq, List.contains_iff_mem] at hc
        obtain ⟨⟨⟨⟨⟨⟨rfl, rfl⟩, g1⟩, g2⟩, g3⟩, g4⟩, g5⟩ := hc
        obtain ⟨a, ea⟩ := o.ex _ g2
        exact ⟨hA.rule (W := W) (gl_of o g1).1 (fun p => pe_varO o h3) okA ea g3 (snd v .val c X k W w o g5) (star_cons g4 _ _), rfl⟩
      · cases hc
    have e1 : ex Φ C (.refuse l (e :: es') Cn v fin) = refuseS l (evs Φ C (e :: es')) Cn (ev Φ C v) fin := by rw [ex]
    have em : evs Φ C (e :: es') = ((⟨params, body, scope, ev Φ C e⟩ : LInf) :: infos).map (·.m) := by rw [evs, List.map_cons, q1]
    rw [e1, em]
    have fini : ∀ {tL : TS}, PS X sl tL → (∀ D σ H, tGo X W c.st l (fun E => .of (arM (((⟨params, body, scope, ev Φ C e⟩ : LInf) :: infos).map (·.m)) Cn (ev Φ C v) E) (endAR fin)) (⟨params, body, scope, ev Φ C e⟩ :: infos) [] D σ H → tL D σ H) →
        PSs X ((.Assign [.Name x px] (.List [.Lambda params body scope lp] lpos) pos :: (apps ++ [sl])) ++ rest) (tSeq (TSof X.K X.mg W c.st (refuseS l (((⟨params, body, scope, ev Φ C e⟩ : LInf) :: infos).map (·.m)) Cn (ev Φ C v) fin)) tR) := fun {tL} hl hL => by
      have q := refuse_ok (W := W) (st := c.st) (C := Cn) (mv := ev Φ C v) (fin := fin) (c := 0) hx hA hN x1 x2 x3 (fun p => pe_varO o h3) (locB_st h2) okA ⟨px, lp, lpos, pos, rfl⟩ q3 hl hL hr
      simpa [List.append_assoc] using q
    unfold chkAR at h6
    split at h6
    · rename_i ce p0
      rw [Bool.and_eq_true] at h6
      obtain ⟨rfl, hc⟩ := h6
      exact fini (ps_ret (call hc).1) fun D σ H z => go_ar z fun b H' q => by simpa using q
    · rename_i ce p0 b p1 p2 p3 p4
      simp only [Bool.and_eq_true, Bool.not_eq_true'] at h6
      obtain ⟨⟨rfl, rfl⟩, hc⟩ := h6
      obtain ⟨hc1, hc2⟩ := call hc
      refine fini (ps_if (pt_not (pt_truthV hc1 truR fun whole => isTrue_of hc2 whole)) (pss_one (ps_ret pe_bl)) pss_nil) fun D σ H z => ?_
      show tAR c.st X l (⟨params, body, scope, ev Φ C e⟩ :: infos) Cn (ev Φ C v) σ H (fun x H' => rTru X.K x H' fun b H1 => if (!b) = true then D.rt (.bl false) H1 else D.nx σ H1)
      refine go_ar z fun b H' q => ⟨fun _ => True, .bl b, b, (RepB.bl b).top, rfl, ?_⟩
      cases b with
      | true => simpa using q
      | false => simpa using q
    · cases h6
  · cases h
mutual
theorem sndS : ∀ (a : S) (c : Ck) (X : Cx) (k : Nat) (W : WX) (s : Stmt), c.Ok X k Φ C W → chkS a c s = true → PS X s (TSof X.K X.mg W c.st (ex Φ C a))
  | .set i e, c, X, k, W, s, o, h => by
    rw [chkS] at h; dsimp only at h
    split at h
    · rename_i x px v pos
      simp only [Bool.and_eq_true, Bool.or_eq_true] at h
      obtain ⟨⟨h1, h2⟩, h3⟩ := h
      refine PS.imp (t := tAsg (TEof X.K X.mg W (ev Φ C e)) (gName i)) ?_ fun D σ H q => ss_set (locB_st h1) (by rw [ex] at q; exact q)
      rcases h3 with (h3 | h3) | h3
      · obtain ⟨q1, q2, q3⟩ := loc_of o h1
        exact ps_set (by rw [o.N]; exact o.nd) q1 q2 (snd e .val c X k W v o h2) (noswap_of h3) q3
      · obtain ⟨q1, q2, q3⟩ := loc_of o h1
        exact ps_set (by rw [o.N]; exact o.nd) q1 q2 (snd e .val c X k W v o h2) (noswap_cell (by rw [o.sc]; simpa using h3)) q3
      · split at h3
        · simp only [Bool.and_eq_true, Bool.not_eq_true'] at h3
          exact set_lc o h1 h2 h3.1.1 h3.1.2 h3.2
        · simp only [Bool.and_eq_true, Bool.not_eq_true'] at h3
          exact set_dc o h1 h2 h3.1.1 h3.1.2 h3.2
        · cases h3
    · cases h
  | .setT tg e, c, X, k, W, s, o, h => by
    rw [chkS] at h; dsimp only at h
    split at h
    · rename_i tg ts a b v pos
      simp only [Bool.and_eq_true] at h
      obtain ⟨⟨⟨h1, h2⟩, h3⟩, h4⟩ := h
      obtain ⟨q1, q2, q3⟩ := sndGs tg c X k W ts o h1
      refine PS.imp (ps_asg (snd e .val c X k W v o h4) (pg_tup o.calm q1 q2 q3) (noswap1 h2) (swap_none o h3) rfl) fun D σ H q => ?_
      rw [ex] at q
      have := ss_setT (chkGs_st tg h1) q
      rwa [tgT] at this
    · cases h
  | .parT is es, c, X, k, W, s, o, h => by
    rw [chkS] at h; dsimp only at h
    split at h
    · rename_i ts a b vs k' p pos
      simp only [Bool.and_eq_true, decide_eq_true_eq] at h
      obtain ⟨⟨⟨⟨h1, h2⟩, h3⟩, h4⟩, h5⟩ := h
      obtain ⟨q1, q2, q3⟩ := sndGs (is.map Tgt.nm) c X k W ts o h1
      have hst : ∀ i ∈ is, i ∈ c.st := fun i hi => by
        have := chkGs_st (is.map Tgt.nm) h1 i
        exact this (by
          clear this h1 q1 q2 q3 h3
          induction is with
          | nil => cases hi
          | cons j is ih =>
            simp only [List.map_cons, Tgt.sts, Tgt.st, List.mem_append, List.mem_singleton]
            rcases List.mem_cons.mp hi with e | e
            · exact .inl e
            · exact .inr (ih e))
      refine PS.imp (ps_asg (pe_tup (sndAs es c X k W vs o h4 h5).2.1) (pg_tup o.calm q1 q2 q3) (noswap1 rfl) (swap_none o h2) rfl) fun D σ H q => ?_
      rw [ex] at q
      have := ss_parT hst h3 q
      rwa [tgT] at this
    · cases h
  | .par is es, c, X, k, W, s, o, h => by
    rw [chkS] at h; dsimp only at h
    split at h
    · rename_i ts a b vs k' p pos
      simp only [Bool.and_eq_true] at h
      obtain ⟨⟨⟨⟨h1, h2⟩, h3⟩, h4⟩, h5⟩ := h
      have hsw := swap_some (a := a) (b := b) (k' := k') (p := p) o h4
      obtain ⟨hl, hst⟩ := par_of o h1
      have h4' := h4
      simp only [swapAsg, Bool.and_eq_true, Bool.not_eq_true'] at h4'
      obtain ⟨⟨⟨⟨⟨⟨g1, g2⟩, g3⟩, g4⟩, g5⟩, g6⟩, g7⟩ := h4'
      have nd : is.Nodup := by simpa using h2
      have lcl : ∀ {x p}, Expr.Name x p ∈ ts → X.env.scope.names.lookup x = some .local := fun {x p} hx => by
        have := List.all_eq_true.mp g7 _ hx
        simp only [Bool.and_eq_true] at this
        rw [o.sc]; simpa using this.1
      have hN : X.N.Nodup := by rw [o.N]; exact o.nd
      have pa := (sndAs es c X k W vs o g4 h5).2.1
      simp only [Bool.or_eq_true, beq_iff_eq] at g1 g2
      rcases g1 with g1 | g1
      · obtain ⟨i, is1, x, px, ts1, rfl, rfl, l1, h1, e1⟩ := par_cons h1 g1
        obtain ⟨j, is2, y, py, ts2, rfl, rfl, l2, h1, e2⟩ := par_cons h1 e1
        obtain ⟨rfl, rfl⟩ := par_nil h1 e2
        obtain ⟨x1, _, _⟩ := loc_of o l1
        obtain ⟨y1, _, _⟩ := loc_of o l2
        obtain ⟨v, w, rfl⟩ : ∃ v w, vs = [v, w] := by
          match vs, g2 with
          | [v, w], _ => exact ⟨v, w, rfl⟩
        refine PS.imp (ps_par o.calm hN x1 y1 (by intro e; simp [e] at nd) (lcl (p := px) (by simp)) (lcl (p := py) (by simp)) pa hsw rfl) fun D σ H q => ?_
        rw [ex] at q
        exact tPar_of (fun σ H Q Q' m => tArgs_mono _ m) (ss_par hst q)
      · obtain ⟨i, is1, x, px, ts1, rfl, rfl, l1, h1, e1⟩ := par_cons h1 g1
        obtain ⟨j, is2, y, py, ts2, rfl, rfl, l2, h1, e2⟩ := par_cons h1 e1
        obtain ⟨l, is3, z, pz, ts3, rfl, rfl, l3, h1, e3⟩ := par_cons h1 e2
        obtain ⟨rfl, rfl⟩ := par_nil h1 e3
        obtain ⟨x1, _, _⟩ := loc_of o l1
        obtain ⟨y1, _, _⟩ := loc_of o l2
        obtain ⟨z1, _, _⟩ := loc_of o l3
        obtain ⟨v, w, u, rfl⟩ : ∃ v w u, vs = [v, w, u] := by
          match vs, g2 with
          | [v, w, u], _ => exact ⟨v, w, u, rfl⟩
        refine PS.imp (ps_par3 o.calm hN x1 y1 z1 (by intro e; simp [e] at nd) (by intro e; simp [e] at nd) (by intro e; simp [e] at nd) (lcl (p := px) (by simp)) (lcl (p := py) (by simp)) (lcl (p := pz) (by simp)) pa hsw rfl) fun D σ H q => ?_
        rw [ex] at q
        refine tArgs_mono _ (fun vs H1 ⟨hl, q⟩ => ?_) (ss_par hst q)
        match vs, hl, q with
        | [v, w, u], _, q => exact ⟨v, w, u, rfl, q⟩
    · cases h
  | .aug i op e, c, X, k, W, s, o, h => by
    rw [chkS] at h; dsimp only at h
    split at h
    · rename_i x px op' v pos
      simp only [Bool.and_eq_true, Bool.or_eq_true, beq_iff_eq] at h
      obtain ⟨⟨⟨rfl, h1⟩, h2⟩, h3⟩ := h
      obtain ⟨q1, q2, q3⟩ := loc_of o h2
      have hN : X.N.Nodup := by rw [o.N]; exact o.nd
      rcases h1 with rfl | rfl
      · exact PS.imp (ps_aug hN q1 q2 (snd e .val c X k W v o h3) ip_add q3) fun D σ H q => ss_aug (fun d x s => aug_add) (locB_st h2) (by rw [ex] at q; exact q)
      · exact PS.imp (ps_aug hN q1 q2 (snd e .val c X k W v o h3) ip_sub q3) fun D σ H q => ss_aug (fun d x s => aug_sub) (locB_st h2) (by rw [ex] at q; exact q)
    · cases h
  | .sidx i kx e, c, X, k, W, s, o, h => by
    rw [chkS] at h; dsimp only at h
    split at h
    · rename_i x px kx' p2 v pos
      simp only [Bool.and_eq_true] at h
      obtain ⟨⟨⟨⟨h1, h2⟩, h3⟩, h4⟩, h5⟩ := h
      refine PS.imp (ps_asg (snd e .val c X k W v o h5) (pg_sub (pe_varO o h1) (snd kx .val c X k W kx' o h4) set_list (fun v => asg_sub h2)) (noswap1 h3) (by cases v <;> rfl) rfl) fun D σ H q => ?_
      rw [ex] at q
      exact ss_sidx q
    · cases h
  | .dset i kx e, c, X, k, W, s, o, h => by
    rw [chkS] at h; dsimp only at h
    split at h
    · rename_i x px kx' p2 v pos
      simp only [Bool.and_eq_true] at h
      obtain ⟨⟨⟨⟨h1, h2⟩, h3⟩, h4⟩, h5⟩ := h
      refine PS.imp (ps_asg (snd e .val c X k W v o h5) (pg_sub (pe_varO o h1) (snd kx .val c X k W kx' o h4) (set_dict (by have := o.room.un; omega)) (fun v => asg_sub h2)) (noswap1 h3) (by cases v <;> rfl) rfl) fun D σ H q => ?_
      rw [ex] at q
      exact ss_dset q
    · cases h
  | .app i e, c, X, k, W, s, o, h => by
    rw [chkS] at h; dsimp only at h
    split at h
    · rename_i x px m ap v cp p
      simp only [Bool.and_eq_true, beq_iff_eq] at h
      obtain ⟨⟨⟨⟨rfl, h1⟩, h2⟩, h3⟩, h4⟩ := h
      refine PS.imp (ps_expr (pe_bm PySem.F.plainAttrs_list PySem.F.slot_list_append PySem.F.type_list_append mt_append (pe_varO o h2) (pa_cons (snd e .val c X k W v o h4) pa_nil (star_cons h3 _ _)) rfl (by rw [star_cons h3]; rfl) (by simpa using h1) (star_cons h3 _ _) rfl) rfl) fun D σ H q => ?_
      rw [ex] at q
      exact ss_app q
    · cases h
  | .ext i e, c, X, k, W, s, o, h => by
    rw [chkS] at h; dsimp only at h
    split at h
    · rename_i x px m ap v cp p
      simp only [Bool.and_eq_true, beq_iff_eq] at h
      obtain ⟨⟨⟨⟨rfl, h1⟩, h2⟩, h3⟩, h4⟩ := h
      refine PS.imp (ps_expr (pe_bm PySem.F.plainAttrs_list PySem.F.slot_list_extend PySem.F.type_list_extend mt_extend (pe_varO o h2) (pa_cons (snd e .val c X k W v o h4) pa_nil (star_cons h3 _ _)) rfl (by rw [star_cons h3]; rfl) (by simpa using h1) (star_cons h3 _ _) rfl) rfl) fun D σ H q => ?_
      rw [ex] at q
      exact ss_ext q
    · cases h
  | .ex e, c, X, k, W, s, o, h => by
    rw [chkS] at h; dsimp only at h
    split at h
    · simp only [Bool.and_eq_true] at h
      exact PS.imp (ps_expr (snd e .val c X k W _ o h.2) (noswap_of h.1)) fun D σ H q => ss_drop (by rw [ex] at q; exact q)
    · cases h
  | .ret e, c, X, k, W, s, o, h => by
    rw [chkS] at h; dsimp only at h
    split at h
    · exact PS.imp (ps_ret (snd e .val c X k W _ o h)) fun D σ H q => ss_ret (by rw [ex] at q; exact q)
    · cases h
  | .retN, c, X, k, W, s, o, h => by
    rw [chkS] at h; dsimp only at h
    split at h
    · exact PS.imp ps_retN fun D σ H q => ss_retN (by rw [ex] at q; exact q)
    · cases h
  | .ite t a b, c, X, k, W, s, o, h => by
    rw [chkS] at h; dsimp only at h
    split at h
    · simp only [Bool.and_eq_true] at h
      exact PS.imp (ps_if (snd t .test c X k W _ o h.1.1) (sndSs a c X k W _ o h.1.2) (sndSs b c X k W _ o h.2)) fun D σ H q => ss_if (by rw [ex] at q; exact q)
    · cases h
  | .whl t a, c, X, k, W, s, o, h => by
    rw [chkS] at h; dsimp only at h
    split at h
    · simp only [Bool.and_eq_true] at h
      exact PS.imp (ps_while o.pass (snd t .test c X k W _ o h.1) (sndSs a c X k W _ o h.2)) fun D σ H q => ss_while (by rw [ex] at q; exact q)
    · cases h
  | .for_ tg it a, c, X, k, W, s, o, h => by
    rw [chkS] at h; dsimp only at h
    split at h
    · simp only [Bool.and_eq_true] at h
      obtain ⟨⟨⟨h1, h2⟩, h3⟩, h4⟩ := h
      exact PS.imp (ps_for o.pass o.calm (snd it (.iter _) c X k W _ o h3) (sndG tg c X k W _ o h2) (sndSs a c X k W _ o h4) (folded_of h1)) fun D σ H q => ss_for (chkG_st tg h2) (by rw [ex] at q; exact q)
    · cases h
  | .brk, c, X, k, W, s, o, h => by
    rw [chkS] at h; dsimp only at h
    split at h
    · exact PS.imp ps_break fun D σ H q => ss_bk (by rw [ex] at q; exact q)
    · cases h
  | .cnt, c, X, k, W, s, o, h => by
    rw [chkS] at h; dsimp only at h
    split at h
    · exact PS.imp ps_continue fun D σ H q => ss_ct (by rw [ex] at q; exact q)
    · cases h
  | .pas, c, X, k, W, s, o, h => by
    rw [chkS] at h; dsimp only at h
    split at h
    · exact PS.imp ps_pass fun D σ H q => ss_nil (by rw [ex] at q; exact q)
    · cases h
  | .nev, c, X, k, W, s, o, h => PS.imp ps_never fun D σ H q => ss_bad (t := tNever) (by rw [ex] at q; exact q)
  | .raise n e, c, X, k, W, s, o, h => by
    rw [chkS] at h; dsimp only at h
    split at h
    · rename_i x px v p1 p2
      simp only [Bool.and_eq_true, beq_iff_eq, List.contains_iff_mem] at h
      obtain ⟨⟨⟨⟨rfl, h2⟩, h3⟩, h4⟩, h5⟩ := h
      obtain ⟨g1, g2⟩ := gl_of o h3
      obtain ⟨a, ea⟩ := o.ex _ h2
      have xk := o.exf.one _ a ea
      obtain ⟨fI, ik⟩ := xk.init
      obtain ⟨k', rfl⟩ : ∃ k', k = k' + 1 := ⟨k - 1, by have := o.one; omega⟩
      exact PS.imp (ps_raise o.calm o.tk (pmk_pass xk.oc ik o.room g1 xk.nm (snd e .val c X _ W v o h5) (okN_d g2) (star_cons h4 _ _))) fun D σ H q => ss_raise ea (by rw [ex] at q; exact q)
    · cases h
  | .hears _ _ _, c, X, k, W, s, o, h => by rw [chkS] at h; cases h
  | .refuse _ _ _ _ _, c, X, k, W, s, o, h => by rw [chkS] at h; cases h
theorem sndSs : ∀ (as : List S) (c : Ck) (X : Cx) (k : Nat) (W : WX) (ss : List Stmt), c.Ok X k Φ C W → chkSs as c ss = true → PSs X ss (TSof X.K X.mg W c.st (exs Φ C as))
  | [], c, X, k, W, ss, o, h => by
    rw [chkSs] at h
    cases ss with
    | nil => exact ⟨fun pins s σ H D I q => pss_nil.run pins s σ H D I (ss_nil (by rw [exs] at q; exact q))⟩
    | cons s ss => cases h
  | a :: as, c, X, k, W, ss, o, h => by
    rw [chkSs] at h; dsimp only at h
    by_cases hh : isHears a = true
    · rw [if_pos hh] at h
      simp only [Bool.and_eq_true, decide_eq_true_eq] at h
      have q : PSs X (ss.take (hearsN a) ++ ss.drop (hearsN a)) (tSeq (TSof X.K X.mg W c.st (ex Φ C a)) (TSof X.K X.mg W c.st (exs Φ C as))) := by
        have hR := sndSs as c X k W _ o h.2
        cases a <;> first | cases hh | skip
        · exact hears_snd o h.1.1 hR
        · exact refuse_snd o h.1.1 hR
      rw [List.take_append_drop] at q
      exact ⟨fun pins s σ H D I h => q.run pins s σ H D I (ss_seq (by rw [exs] at h; exact h))⟩
    rw [if_neg hh] at h
    cases ss with
    | nil => cases h
    | cons s ss =>
      simp only [Bool.and_eq_true] at h
      have q := pss_cons (sndS a c X k W s o h.1) (sndSs as c X k W ss o h.2)
      exact ⟨fun pins s σ H D I h => q.run pins s σ H D I (ss_seq (by rw [exs] at h; exact h))⟩
end
end
end Lw
end

section
set_option Elab.async false
set_option linter.all false
set_option maxRecDepth 100000
set_option maxHeartbeats 4000000
/-! LAR: the def that hears a list of lambdas and looks whether all are refused -/
namespace Lw
open PySem PySem.Spec PyProof.Rows L2 LamX
variable [TabInfo]
def ARN : List Str := ["looks", "is_it", "value", "caught", "look", "miss"]
def arCk (sg : Scope) (bl xl : List Str) : Ck := ⟨ARN, sg, [], [], bl, [3], true, false, xl, false⟩
def arBodyB (sg : Scope) (bl xl : List Str) : List Stmt → Bool
  | [s1, s2] => chkLast (arCk sg bl xl) 3 "looks" s1 && chkS (.ret ARE) (arCk sg bl xl) s2
  | _ => false
structure ArK (K : PySem.W.Frag) (mg : Str → Option Value) (bl xl : List Str) : Prop where
  ex : ∃ (g : Addr) (fd : FuncData) (pg : Arguments) (bg : List Stmt) (sg : Scope) (kws : List (Str × V)), mg arN = some (.ref g) ∧ FunD K arN arN pg bg sg [] kws g fd ∧ C8.scC ARN ["looks", "is_it", "value"] sg = true ∧ visB (arCk sg bl xl) 0 "looks" = true ∧ arBodyB sg bl xl bg = true ∧
    ∀ (s : Shared) (u v w : Value), BindsTo s fd ⟨[u, v, w], []⟩ [("looks", u), ("is_it", v), ("value", w)]
section
variable {K : PySem.W.Frag} {P P' : Addr → Prop} {H H' : Hp} {σ : L2.St} {E : SE} {D : Addr}
/-- all but the object at D stays -/
theorem Good.keepBut (g : Good K (fun q => P q ∨ q = D) H σ E) (hD : ∀ o, H D = some o → Mu o) (hk : ∀ q o, H q = some o → (∀ ps, o ≠ .tbl ps) → q ≠ D → H' q = some o) (tb : ∀ q, H' q = none → H q = none) (t : Tabs TabInfo.T H') : Good K P H' σ E := by
  have kp : Kp (Fz (fun q => P q ∨ q = D) σ E) H H' := fun a o e nt h => hk a o e nt fun z => by
    subst z
    exact h.elim (fun z => z.1 (.inr rfl)) fun z => z (hD o e)
  have m : ∀ b, Fz (fun q => P q ∨ q = D) σ E b → Fz P σ E b := fun b z => ⟨fun q => z.1 (.inl q), z.2⟩
  refine ⟨g.len, fun a p => ?_, fun i d e => ?_, fun i d e => ?_, fun a q p => g.dis a q (.inl p), g.inj, t⟩
  · obtain ⟨o, e⟩ := g.dom a (.inl p)
    cases q : H' a with
    | none => rw [tb a q] at e; cases e
    | some u => exact ⟨u, rfl⟩
  · obtain ⟨v, e1, r⟩ := g.val i d e
    exact ⟨v, e1, (r.keep kp).mono m⟩
  · obtain ⟨a, e1, S, r, hS⟩ := g.own i d e
    have na : a ≠ D := fun z => g.dis a ⟨i, d, e, e1⟩ (.inr z)
    have kp2 : Kp (fun b => Fz (fun q => P q ∨ q = D) σ E b ∨ b = a) H H' := fun b o eb nt h => by
      rcases h with (h | h) | h
      · exact kp b o eb nt (.inl h)
      · exact hk b o eb nt fun z => na (h.symm.trans z)
      · exact kp b o eb nt (.inr h)
    exact ⟨a, e1, S, r.keep kp2 (.inr rfl) fun b hb => .inl (hS b hb), fun b hb => m b (hS b hb)⟩
end
section
variable {X : Cx} {c : Ck} {k j : Nat} {W : WX} {Φ : Nat → M Sl} {C : Nat → Lw.D}
theorem allR_of (o : c.Ok X k Φ C W) (h : HdX X j) (hr : Room (j + 3) X.A) (ar : ArK X.K X.mg c.bl c.ex) : AllR X j := by
  obtain ⟨ga, fd, pg, bg, sg, kws, hm, D, hsc, hvis, hbody, hbind⟩ := ar.ex
  obtain ⟨oc, od, dV, kV, doc, pm, an, cdg, ct, osl, rfl, lk, hcd, _, _⟩ := D.ex
  have S : FnScope ARN ["looks", "is_it", "value"] sg := C8.fnScope_by hsc
  refine ⟨fun {W' l x C' infos cc mv params body ve scope st p p1 lp pos} hgl vx oki ec hisf pv hsv => ?_⟩
  obtain ⟨pl, isfA⟩ := h.isf (pos := lp) hisf
  have pa : PA X [.Name x p1, .Lambda params body scope lp, ve] (tCons (tVar l) (tCons (tLamMk X params body scope) (tCons (TEof X.K X.mg W' mv) tNil))) := pa_cons (vx p1) (pa_cons pl (pa_cons pv pa_nil hsv) (by rfl)) (by rfl)
  refine ⟨fun pins s σ H Q I ⟨P0, σ0, E0, H0, a, fs, gs, hz, b, E1, hb, fin⟩ => ?_⟩
  refine wpAny_Call_Name_kw (ld_glob I hgl hm ?_ (by decide +kernel))
  -- what the pieces of _law_all_refuse come to
  unfold arM at hb
  split at hb
  case h_2 => cases hb
  rename_i sv E2 emv
  split at hb
  case h_2 => cases hb
  rename_i rs E3 ers
  split at hb
  case h_2 => cases hb
  rename_i b' EZ ear
  cases hb
  refine PySem.W.callWith_K (h₀ := X.base) I.ok.mod.kin D.kp (thn (pa.run pos pins s σ H (fun vs H2 => ∃ f2 c' w, vs = [.ref a, .ref f2, w] ∧ Good X.K (fun q => P0 q ∨ q = a) H2 σ E2 ∧ Lnk P0 σ0 E0 H0 (fun q => P0 q ∨ q = a) σ E2 H2 ∧ RepB X.K H2 (Fz (fun q => P0 q ∨ q = a) σ E2) w sv.d ∧
      H2 a = some (.lst (fs.map V.ref)) ∧ Paired (IsLam X H2) fs infos ∧ H2 f2 = some (LamO f2 (lfOf X params body scope c')) ∧ H2 c' = some (CodeO c' (lamN X))) I ⟨.ref a, gs.at_, gs.good.tab, fun f2 c' H1 ⟨e1, e2, e3⟩ _ f1 fc => ?_⟩) fun us s2 ⟨vs, H2, I2, rv, f2, c', w, evs, g2, l2, rw', ha, lam2, lf2, lc2⟩ => ?_) (by rfl) (by
        show (backTo pos (starEach [.Lambda params body scope lp, ve] X.env)).any (·.1) = false
        have : starEach [.Lambda params body scope lp, ve] X.env = (false, eval (.Lambda params body scope lp) X.env) :: starEach [ve] X.env := rfl
        rw [this, hsv]; rfl)
  · -- the value
    refine ⟨_, _, gs.good.extN e1 e2 e3, ?_⟩
    rw [emv]
    intro w H2 g2 l2 r2 n2
    have lx := Lnk.extN (P := fun q => P0 q ∨ q = a) (σ := σ) (E := E0.set l .no) e1 e3
    have g1 := gs.good.extN e1 e2 e3
    exact ⟨f2, c', w, rfl, g2.less fun a z => .inl z, (gs.lnk.trans lx).trans (l2.less fun a z => .inl z), r2.frz0 g2 n2, l2.keep a _ (e1 a _ gs.lst (fun _ z => nomatch z)) (fun _ z => nomatch z) fun q => g1.dis a q (.inr rfl),
      L2.Paired.mapP gs.lams fun f i z => (z.extN e1).lnk g1 l2, l2.keep f2 _ f1 lamO_tbl (g1.nown f1 lamO_mu), l2.keep c' _ fc codeO_ne (g1.nown fc codeO_mu)⟩
  subst evs
  refine ⟨I2.kIn, ?_⟩
  obtain ⟨u1, u2, u3, rfl, r1, r2, r3⟩ : ∃ u1 u2 u3, us = [u1, u2, u3] ∧ L2.RelV (V.ref a) u1 ∧ L2.RelV (V.ref f2) u2 ∧ L2.RelV w u3 := by
    cases rv with
    | cons a1 rv => cases rv with
      | cons a2 rv => cases rv with
        | cons a3 rv => cases rv; exact ⟨_, _, _, rfl, a1, a2, a3⟩
  have rc : codeAny (model X.prog X.w) X.A (.call (.ref ga) ⟨[u1, u2, u3], []⟩) (CR (L2.CX X.prog X.w) X.stack X.prog X.w H2 s2 Q noX) s2 := by
    refine run_ofS (N := ARN) (ps := ["looks", "is_it", "value"]) (us := [u1, u2, u3]) (vs := [.ref a, .ref f2, w]) lk hcd S hr I2.env0 (hbind s2 u1 u2 u3) (.cons r1 (.cons r2 (.cons r3 .nil))) rfl fun hr1 => ?_
    generalize hZ : cxOf (L2.CX X.prog X.w) X.prog X.w X.K X.mg X.base ARN arN sg ga cdg X.A X.stack s2 H2 noX = Z
    have okZ : (arCk sg c.bl c.ex).Ok Z (j + 2) (fun _ => M.bad) (fun _ => .non) (fun c d _ H' => noX c d H') := by
      rw [← hZ]
      exact ⟨rfl, S.nd, rfl, S.kind, rfl, fun _ _ => rfl, hr1, o.gd, takes_of rfl rfl rfl rfl, passes_of rfl, (fun i e z => by simp [arCk] at z), (fun i e z => by simp [arCk] at z), o.bl, by omega, o.ex, o.exf, (fun z => by cases z), fun z => by cases z⟩
    -- a state of Z is a state of X
    have toX : ∀ {pz : List (Addr × Obj)} {σz : L2.St} {Hz : Hp} {sz : Shared}, Inv Z pz σz Hz sz → Inv X pins σ Hz sz := fun {pz σz Hz sz} J => by
      rw [← hZ] at J
      exact I2.call' J.os J.base J.hok J.bare fun _ z => absurd z List.not_mem_nil
    have ZK : Z.K = X.K := by rw [← hZ]; rfl
    have Zm : Z.mg = X.mg := by rw [← hZ]; rfl
    have Zo : X.oth Z = Z := by rw [← hZ]; rfl
    unfold arBodyB at hbody
    split at hbody
    case h_2 => cases hbody
    rename_i s1 s2'
    rw [Bool.and_eq_true] at hbody
    obtain ⟨hb1, hb2⟩ := hbody
    have st2 := sndS (.ret ARE) (arCk sg c.bl c.ex) Z (j + 2) _ s2' okZ hb2
    unfold chkLast at hb1
    split at hb1
    case h_2 => cases hb1
    rename_i y py hn q1 lk' q2 q3 z k0 q4 q5 lk2 q6 x2 q7 scope' q8 q0
    simp only [Bool.and_eq_true, beq_iff_eq, Bool.not_eq_true'] at hb1
    obtain ⟨⟨⟨⟨⟨⟨⟨⟨rfl, rfl⟩, rfl⟩, rfl⟩, y1⟩, y2⟩, y3⟩, y4⟩, y5⟩ := hb1
    split at y5
    case h_2 => cases y5
    rename_i jl hjl
    simp only [Bool.and_eq_true, beq_iff_eq] at y5
    obtain ⟨⟨⟨⟨b1, b2⟩, b3⟩, b4⟩, b5⟩ := y5
    have hN : Z.N.Nodup := by rw [okZ.N]; exact okZ.nd
    obtain ⟨z1, z2, z3⟩ := loc_of okZ y1
    have ly : Z.env.scope.names.lookup y = some .local := by rw [okZ.sc]; exact y2
    have bo := blkOk_by b2
    have bo' := bo
    rw [← okZ.N, ← okZ.sc] at bo'
    have okB := fun s H C' cl fp => okZ.inner (Cc := C') (cl := cl) (own := [jl]) (s := s) (H := H) (fp := fp) bo.kind
    have hjN : jl < ARN.length := (List.getElem?_eq_some_iff.mp b1).1
    have st1 : PS Z (.Assign [.Name y py] (.ListComp (.Subscript (.Call (.Name hdN q1) [.Name lk2 q2] [] q3) (.Constant (.int 0) k0 q4) q5) [⟨.Name lk2 q6, .Name "looks" q7, [], 0⟩] scope' q8) q0)
        (fun Dz σz Hz => tLc (iList X.K (tVar 0)) (gName jl) tYes (tOp (r2D X.K ixS) (tHV X infos σ jl) (tC (.int 0))) [jl] σz Hz (fun x H1 => gName 3 x σz H1 Dz.nx)) := by
      refine ⟨fun pz sz σz Hz Dz Jz hq => ?_⟩
      have hlB : Gl { Z with env := compEnvC scope' [] 0 Z.env } hdN := by
        have z := b3
        unfold glB at z
        simp only [Bool.and_eq_true, beq_iff_eq] at z
        show (relS scope' Z.env.scope).names.lookup hdN = _
        rw [okZ.sc]; exact z.2
      rw [exec_Assign_Name_used _ _ _ _ (sw_true (by rw [okZ.sc]; exact okZ.kind) ly (by simpa using y3) y4)]
      refine wpAny_bind (wpAny_standAt (wpAny_bind ?_))
      show wpAny _ Z.A (do let _ ← comprehension (.ListComp _ [⟨.Name lk2 q6, .Name "looks" q7, [], 0⟩] scope' q8) scope' Z.env (firstIterPos [⟨.Name lk2 q6, .Name "looks" q7, [], 0⟩] q8) (newList []) false (eval (.Name "looks" q7) Z.env) (some (assign (.Name y py) Z.env))) _ _ sz
      have heB : ∀ (s : Shared) (H : Hp) (C : Addr) (cl : List (Str × Addr)) (fp : List Addr), (∀ (pb : List (Addr × Obj)) (σb : L2.St) (Hb : Hp) (sb : Shared), Inv (Z.blk s H scope' (compEnvC scope' cl C Z.env) fp) pb σb Hb sb → Inv Z pz σz Hb sb) →
          PE (Z.blk s H scope' (compEnvC scope' cl C Z.env) fp) (.Subscript (.Call (.Name hdN q1) [.Name lk2 q2] [] q3) (.Constant (.int 0) k0 q4) q5) (tOp (r2D X.K ixS) (tHV X infos σ jl) (tC (.int 0))) := fun s H C cl fp view => by
        have hvB := pe_varO (pos := q2) (okB s H C cl fp) b4
        have rz : Room (j + 2) Z.A := okZ.room
        have gz : Z.A.guards = some [] := okZ.gd
        have e : X.oth (Z.blk s H scope' (compEnvC scope' cl C Z.env) fp) = Z.blk s H scope' (compEnvC scope' cl C Z.env) fp := by rw [← hZ]; rfl
        have hp := h.heardV (pins := pins) (Y := Z.blk s H scope' (compEnvC scope' cl C Z.env) fp) (infos := infos) (σ := σ) (jl := jl) (lk := lk2) (p := q1) (p1 := q2) (pos := q3) rz gz oki (fun pb σb Hb sb J => toX (view pb σb Hb sb (by rw [← e]; exact J))) hlB (by rw [e]; exact hvB)
        rw [e] at hp
        have ix : IxR (Z.blk s H scope' (compEnvC scope' cl C Z.env) fp) (r2D X.K ixS) := by
          have := ix_ok (X := Z.blk s H scope' (compEnvC scope' cl C Z.env) fp) rz
          rw [show (Z.blk s H scope' (compEnvC scope' cl C Z.env) fp).K = X.K from ZK] at this
          exact this
        exact pe_ix ix hp pe_int (fun _ _ => rfl)
      refine wpAny_bind (thn (lc_view (Qf := fun _ s' => SP Z pz Dz .next s') (own := [(lk2, jl)]) okZ.calm hN Jz (by have := pi_list (tg := .Name lk2 q6) (pe_varO (pos := q7) okZ hvis); rw [ZK] at this; exact this) bo'
        (fun s H C cl fp => by
          obtain ⟨w1, w2, w3⟩ := loc_of (okB s H C cl fp) b5
          exact pg_name hN w1 w2 w3) (fun s H C cl fp => pts_nil) heB (by intro _; rfl) hq fun L C s' m H' I' q hn f => ?_) fun _ s' hq => wpAny_pure (wpAny_pure hq))
      show wpAny _ _ (assign (.Name y py) Z.env (.ref L)) _ _ _
      refine wpAny_assign_Name (store_ok2 (v := V.ref L) I' hN z1 (.inl ly) rfl (fun s2 I2 ⟨a, sb, ha⟩ => ?_) (.inr ly))
      obtain ⟨f0, f1, f2, f3, f4, f5⟩ := f
      have haC : C ≠ a := by
        rcases ha with z | z
        · rw [z]; exact f1
        · exact fun e => f4 y a z e.symm
      refine ⟨m, hn.sameBut sb haC, fun h3 sb3 => ?_⟩
      exact ⟨_, H', I2.turned (t' := s2.toks) (fun b o hb e => (sb3.2 b hb).trans e) f0 f1 f3 f4 f5, q⟩
    refine ⟨_, pss_cons st1 (pss_one st2), ?_⟩
    rw [List.map_map] at ers
    show tLc (iList X.K (tVar 0)) (gName jl) tYes (tOp (r2D X.K ixS) (tHV X infos σ jl) (tC (.int 0))) [jl] (L2.start ARN [V.ref a, V.ref f2, w]) H2 (fun x H1 => TSof Z.K Z.mg (fun c d _ H' => noX c d H') (arCk sg c.bl c.ex).st (ex (fun _ => M.bad) (fun _ => .non) (.ret ARE)) { nx := fun _ H' => Q .non H', rt := Q } ((L2.start ARN [V.ref a, V.ref f2, w]).set 3 (some x)) H1)
    refine hear_loop (ji := 0) g2 (.inr rfl) rfl ha lam2 hz (by show jl < (L2.start ARN [V.ref a, V.ref f2, w]).length; simpa [L2.start, ARN] using hjN) ers fun D1 Hi accV hD gi li hDi ri => ?_
    have PD : ∀ b, P0 b ∨ b = a → b ≠ D1 := fun b p e => by
      obtain ⟨o, q⟩ := g2.dom b p
      rw [e, hD] at q; cases q
    have OD : ∀ b, OwnS σ E1 b → b ≠ D1 := fun b q e => gi.dis b q (.inr e)
    have lf3 := li.keep f2 _ lf2 lamO_tbl (g2.nown lf2 lamO_mu)
    have lc3 := li.keep c' _ lc2 codeO_ne (g2.nown lc2 codeO_mu)
    have rw3 := rw'.lnk g2 li
    have own1 : ∀ b, OwnS ((L2.start ARN [V.ref a, V.ref f2, w]).set 3 (some (.ref D1))) [.no, .val (.isf C'), .val sv.d, .own (.lst rs), .no, .no] b → b = D1 := fun b ⟨i, d, e1, e2⟩ => by
      match i, e1, e2 with
      | 0, e1, _ => cases e1
      | 1, e1, _ => cases e1
      | 2, e1, _ => cases e1
      | 3, e1, e2 => exact (V.ref.inj (Option.some.inj (Option.some.inj e2))).symm
      | 4, e1, _ => cases e1
      | 5, e1, _ => cases e1
      | n + 6, e1, _ => cases e1
    have fz : ∀ b, Fz (fun q => (P0 q ∨ q = a) ∨ q = D1) σ E1 b → Fz (fun q => (P0 q ∨ q = a) ∨ OwnS σ E1 q) ((L2.start ARN [V.ref a, V.ref f2, w]).set 3 (some (.ref D1))) [.no, .val (.isf C'), .val sv.d, .own (.lst rs), .no, .no] b := fun b z =>
      ⟨fun q => q.elim (fun q => z.1 (.inl q)) z.2, fun q => z.1 (.inr (own1 b q))⟩
    rw [ZK, Zm]
    refine ⟨fun q => (P0 q ∨ q = a) ∨ OwnS σ E1 q, [.no, .val (.isf C'), .val sv.d, .own (.lst rs), .no, .no], ⟨rfl, fun q p => ?_, fun i d e => ?_, fun i d e => ?_, fun b q p => ?_, fun i i2 d d' b e1 e2 e3 e4 => ?_, gi.tab⟩, ?_⟩
    · rcases p with p | p
      · exact gi.dom q (.inl p)
      · obtain ⟨o, e, _⟩ := gi.ownD p
        exact ⟨o, e⟩
    · match i, e with
      | 0, e => cases e
      | 1, e =>
        cases e
        exact ⟨.ref f2, rfl, [], .isf ec (isfA c') lf3 lc3, fun _ z => absurd z List.not_mem_nil⟩
      | 2, e =>
        cases e
        exact ⟨w, rfl, rw3.mono fz⟩
      | 3, e => cases e
      | 4, e => cases e
      | 5, e => cases e
      | n + 6, e => cases e
    · match i, e with
      | 0, e => cases e
      | 1, e => cases e
      | 2, e => cases e
      | 3, e =>
        cases e
        exact ⟨D1, rfl, OwnB.lst hDi (ri.mono fz)⟩
      | 4, e => cases e
      | 5, e => cases e
      | n + 6, e => cases e
    · have e := own1 b q
      rcases p with p | p
      · exact PD b p e
      · exact OD b p e
    · have at3 : ∀ {i : Nat} {d : Lw.D}, ([.no, .val (.isf C'), .val sv.d, .own (.lst rs), .no, .no] : SE)[i]? = some (.own d) → i = 3 := fun {i d} e => by
        match i, e with
        | 0, e => cases e
        | 1, e => cases e
        | 2, e => cases e
        | 3, e => rfl
        | 4, e => cases e
        | 5, e => cases e
        | n + 6, e => cases e
      rw [at3 e1, at3 e2]
    · have ee : ex (fun _ => M.bad) (fun _ => .non) (.ret ARE) [.no, .val (.isf C'), .val sv.d, .own (.lst rs), .no, .no] = .rt (vB b) EZ := by
        rw [ex]
        show SR.of (ev _ _ ARE _) _ = _
        rw [ear]
        rfl
      rw [ee]
      intro v σ' H' gz lz sz r n
      have hv : v = .bl b := r.bl
      subst hv
      have kept : ∀ q o, Hi q = some o → (∀ ps, o ≠ .tbl ps) → q ≠ D1 → H' q = some o := fun q o e nt ne => lz.keep q o e nt fun z => ne (own1 q z)
      have g3 : Good X.K (fun q => P0 q ∨ q = a) H' σ E1 := Good.keepBut gi (fun o e => by rw [hDi] at e; cases e; trivial) kept lz.tbs gz.tab
      refine fin H' g3 ⟨fun q o e nt no => ?_, fun q z => ?_, fun q z => ?_, fun q e => l2.tbs q (li.tbs q (lz.tbs q e))⟩
      · have e2 := l2.keep q o e nt no
        have e3 := li.keep q o e2 nt fun z => (l2.new q z).elim no fun z => by rw [e] at z; cases z
        exact kept q o e3 nt fun z => by
          rw [z, hD] at e2; cases e2
      · rcases li.new q z with z | z
        · exact l2.new q z
        · exact .inr (l2.tbs q z)
      · rcases l2.pr q z with z | z | z
        · exact .inl z
        · exact .inr (.inl z)
        · exact .inr (.inr z)
  refine wpAny_call (codeAny_mono rc fun r t2 hq => ?_)
  match r, hq with
  | .error e, hq =>
    obtain ⟨_, _, _, _, _, _, _, _, _, _, _, _, z⟩ := hq
    exact z.elim
  | .ok (.ret u), hq => exact I2.after hq
  | .ok .next, hq => exact hq.elim
  | .ok .brk, hq => exact hq.elim
  | .ok .cont, hq => exact hq.elim
end
end Lw
end

section
set_option Elab.async false
set_option linter.all false
set_option maxRecDepth 100000
set_option maxHeartbeats 4000000
/-! L21: a def by its IR -/
namespace Lw
open PySem L2
variable [TabInfo]
section
variable {K : PySem.W.Frag} {mg : Str → Option Value} {W : WX} {P P' P1 P2 : Addr → Prop} {H H' H1 H0 H2 : Hp} {σ σ' σ1 σ2 : L2.St} {E E' E1 E2 E0 : SE}
/-- the slots seen anew: what is there agrees -/
theorem own_re (hm : ∀ (i : Nat) (s : Sl), E2[i]? = some s → s ≠ .no → E[i]? = some s ∧ σ2[i]? = σ[i]?) {a : Addr} (h : OwnS σ2 E2 a) : OwnS σ E a := by
  obtain ⟨i, d, e1, e2⟩ := h
  obtain ⟨q1, q2⟩ := hm i _ e1 (by simp)
  exact ⟨i, d, q1, by rw [← q2]; exact e2⟩
theorem Good.re (g : Good K P H σ E) (hl : σ2.length = E2.length) (hm : ∀ (i : Nat) (s : Sl), E2[i]? = some s → s ≠ .no → E[i]? = some s ∧ σ2[i]? = σ[i]?) : Good K P H σ2 E2 where
  len := hl
  dom := g.dom
  val := fun i d e => by
    obtain ⟨q1, q2⟩ := hm i _ e (by simp)
    obtain ⟨v, e1, r⟩ := g.val i d q1
    exact ⟨v, by rw [q2]; exact e1, r.mono fun a z => ⟨z.1, fun q => z.2 (own_re hm q)⟩⟩
  own := fun i d e => by
    obtain ⟨q1, q2⟩ := hm i _ e (by simp)
    obtain ⟨v, e1, r⟩ := g.own i d q1
    exact ⟨v, by rw [q2]; exact e1, r.monoD fun a _ _ z => ⟨z.1, fun q => z.2 (own_re hm q)⟩⟩
  dis := fun a q => g.dis a (own_re hm q)
  inj := fun i j d d' a e1 e2 e3 e4 => by
    obtain ⟨q1, q2⟩ := hm i _ e1 (by simp)
    obtain ⟨q3, q4⟩ := hm j _ e2 (by simp)
    exact g.inj i j d d' a q1 q3 (by rw [← q2]; exact e3) (by rw [← q4]; exact e4)
  tab := g.tab
theorem Lnk.re (l : Lnk P σ E H P' σ' E' H') (h1 : ∀ a, OwnS σ E a → OwnS σ1 E1 a) (h2 : ∀ a, OwnS σ2 E2 a → OwnS σ' E' a) (h3 : ∀ a, OwnS σ E a → OwnS σ1 E1 a) : Lnk P σ1 E1 H P' σ2 E2 H' :=
  ⟨fun a o e t n => l.keep a o e t fun q => n (h1 a q), fun a q => (l.new a (h2 a q)).imp (h1 a) id, fun a p => (l.pr a p).imp id (·.imp (h1 a) id), l.tbs⟩
end
section
variable {P : Program} {w : World} {K : PySem.W.Frag} {mg : Str → Option Value} {base : Heap} {k : Nat} {Φ : Nat → M Sl} {C : Nat → D}
/-- a body by its IR -/
theorem body_of {W : WX} {Pr : Addr → Prop} {H : Hp} {vs : List V} {E : SE} {n : Nat} {rb st : List Nat} {body : List S} {Q : VK} (hn : vs.length ≤ n) (hst : ∀ i, i < vs.length → i ∈ st → i ∈ rb) (hW : ∀ c d σ σ' H, W c d σ H → W c d σ' H) (g : Good K Pr H (vs.map some) E)
    (h : PostE K mg W Pr (vs.map some) E H Q (fnS Φ C n rb body E)) : TSof K mg W st (exs Φ C body) { nx := fun _ H' => Q .non H', rt := Q } (vs.map some ++ List.replicate (n - vs.length) none) H := by
  have hlen : E.length = vs.length := by rw [← g.len, List.length_map]
  have m0 : ∀ (i : Nat) (s : Sl), (E ++ List.replicate (n - E.length) Sl.no)[i]? = some s → s ≠ .no → E[i]? = some s ∧ (vs.map some ++ List.replicate (n - vs.length) none)[i]? = (vs.map some)[i]? := fun i s e hs => by
    by_cases hi : i < E.length
    · rw [List.getElem?_append_left hi] at e
      exact ⟨e, List.getElem?_append_left (by rw [List.length_map]; omega)⟩
    · rw [List.getElem?_append_right (by omega), List.getElem?_replicate] at e
      split at e
      · cases e; exact absurd rfl hs
      · cases e
  have m1 : ∀ (i : Nat) (s : Sl), E[i]? = some s → s ≠ .no → (E ++ List.replicate (n - E.length) Sl.no)[i]? = some s ∧ (vs.map some)[i]? = (vs.map some ++ List.replicate (n - vs.length) none)[i]? := fun i s e hs => by
    have hi : i < E.length := by
      rcases Nat.lt_or_ge i E.length with h | h
      · exact h
      · rw [List.getElem?_eq_none h] at e; cases e
    exact ⟨by rw [List.getElem?_append_left hi]; exact e, (List.getElem?_append_left (by rw [List.length_map]; omega)).symm⟩
  have g0 : Good K Pr H (vs.map some ++ List.replicate (n - vs.length) none) (E ++ List.replicate (n - E.length) Sl.no) := g.re (by simp [hlen]) m0
  refine ⟨Pr, _, g0, ?_⟩
  unfold fnS at h
  -- the slots at the end, seen from outside
  have fin : ∀ {σ' : L2.St} {E' : SE}, σ'.length = E'.length → Same st (vs.map some ++ List.replicate (n - vs.length) none) σ' → (vs.map some).length = ((wipeE E' rb).take E.length).length ∧
      ∀ (i : Nat) (s : Sl), ((wipeE E' rb).take E.length)[i]? = some s → s ≠ .no → E'[i]? = some s ∧ (vs.map some)[i]? = σ'[i]? := fun {σ' E'} hl sm => by
    have hl' : E'.length = n := by
      rw [← hl, sm.1]; simp; omega
    refine ⟨by rw [List.length_take, wipeE_len, hl', hlen]; simp; omega, fun i s e hs => ?_⟩
    rw [List.getElem?_take] at e
    split at e
    · rename_i hi
      rw [wipeE_at] at e
      split at e
      · split at e
        · cases e; exact absurd rfl hs
        · cases e
      · rename_i hr
        refine ⟨e, ?_⟩
        rw [sm.2 i fun q => hr (hst i (by omega) q)]
        exact (List.getElem?_append_left (by rw [List.length_map]; omega)).symm
    · cases e
  cases e : exs Φ C body (E ++ List.replicate (n - E.length) .no) with
  | bad => rw [e] at h; exact h.elim
  | bk E' => rw [e] at h; exact h.elim
  | ct E' => rw [e] at h; exact h.elim
  | nx E' =>
    rw [e] at h
    intro σ' H' g' l' s'
    obtain ⟨f1, f2⟩ := fin g'.len s'
    have g2 := g'.re f1 f2
    refine h .non H' (g2.less fun a z => z.elim id False.elim) ?_ .non fun a z => z.elim
    exact (l'.re (fun a => own_re m0) (fun a => own_re f2) (fun a => own_re m0)).less fun a z => z.elim id False.elim
  | rt s E' =>
    rw [e] at h
    intro v σ' H' g' l' s' r' n'
    obtain ⟨f1, f2⟩ := fin g'.len s'
    exact h v H' (g'.re f1 f2) (l'.re (fun a => own_re m0) (fun a => own_re f2) (fun a => own_re m0)) (r'.mono2 fun a z => ⟨z.1, fun q => z.2 (own_re f2 q)⟩) n'
  | exc Cn x E' =>
    rw [e] at h
    intro σ' H' cls d g' l' s' x'
    obtain ⟨f1, f2⟩ := fin g'.len s'
    exact hW _ _ _ _ _ (h H' cls d (g'.re f1 f2) (l'.re (fun a => own_re m0) (fun a => own_re f2) (fun a => own_re m0)) (x'.less fun a z => ⟨z.1, fun q => z.2 (own_re f2 q)⟩))
/-- what a def's text may lean on -/
structure Facts (P : Program) (w : World) (K : PySem.W.Frag) (mg : Str → Option Value) (base : Heap) (k : Nat) (Φ : Nat → M Sl) (C : Nat → D) (fs : List FnE) (cs bl xl : List Str) : Prop where
  one : 1 ≤ k
  ex : ∀ n ∈ xl, ∃ a, TabInfo.exc n = some a
  exf : ExcF P K mg
  fs : ∀ i e, fs[i]? = some e → FnH P w K mg base k e (Φ i)
  cs : ∀ i n, cs[i]? = some n → ∃ v u, mg n = some u ∧ RelV v u ∧ ∀ H, RepB K H (fun _ => False) v (C i)
  bl : ∀ n ∈ bl, mg n = none
def slotsOk (np : Nat) (st rb : List Nat) : Bool := st.all fun i => !(decide (i < np)) || rb.contains i
theorem fn_ok {f : Addr} {name qual : Str} {params : Arguments} {body : List Stmt} {scope : Scope} {dV kV doc pm cdv ct oc : Value} {an od : Option Addr}
    {osl : Array (Option Value)} {N ps : List Str} {fs : List FnE} {cs bl xl : List Str} {st rb : List Nat} {b : List S}
    (lk : K.lookup f = some ⟨oc, od, .func (PySem.W.fnOf name qual params body scope dV kV doc pm an cdv ct), osl⟩) (hcd : PySem.W.codeIn K cdv qual = true) (S : FnScope N ps scope)
    {hd ar : Bool} (F : Facts P w K mg base k Φ C fs cs bl xl) (hs : slotsOk ps.length st rb = true) (hc : chkSs b ⟨N, scope, fs, cs, bl, st, true, hd, xl, ar⟩ body = true)
    (hH : hd = true ∨ ar = true → HdF K mg base qual cdv ∧ ∃ j, 1 ≤ j ∧ j + 3 ≤ k ∧ ∀ i e, fs[i]? = some e → FnH P w K mg base j e (Φ i)) (hA : ar = true → ArK K mg bl xl) :
    FOk P w K mg base (k + 1) f (PySem.W.fnOf name qual params body scope dV kV doc pm an cdv ct) ps (spF K mg ps.length (fnS Φ C N.length rb b)) := by
  refine ⟨fun vs H Q E h => h.1, fun A outer s H args us vs Q E hr hg e0 hb r hsp => ?_⟩
  obtain ⟨hl, Pr, E0, g, hp⟩ := hsp
  have hpl : ps.length ≤ N.length := by have := congrArg List.length S.pre; rw [List.length_take] at this; omega
  have KX : K.In s.heap := e0.mod.kin.keeps fun b o e => (e0.bs b o e).1
  have lim : s.heap.NoLimit := e0.mod.nolimit.keeps fun b o e => (e0.bs b o e).1
  have hkind : ∀ y ∈ ps.zip us, scope.names.lookup y.1 = some .local ∨ (scope.names.lookup y.1 = some .cell ∧ ((cellsFrom (s.heap.objs.size + 1) scope.names []).lookup y.1).isSome = true) := fun ⟨n, v⟩ hy => by
    rcases S.par n (List.of_mem_zip hy).1 with q | q
    · exact .inl q
    · exact .inr ⟨q, PySem.W.cellsFrom_some _ _ _ (.inl q)⟩
  refine codeAny_call_function hr.depth (KX _ _ lk) rfl S.co S.gen rfl (PySem.W.codeRec_of KX hcd) (hb _ _ _ _ ?_)
  refine wpAny_newFunctionEnv_cells S.kind hkind fun env he s1 x => ?_
  subst he
  refine ⟨lim.keeps x.toInCall.keep, codeAny_func ?_⟩
  have I : Inv (cxOf (L2.CX P w) P w K mg base N qual scope f cdv A outer s H E) [] (start N vs) H s1 := inv_start S hr.hd e0 hl r x
  have mk : ∀ (hd' ar' : Bool), (hd' = true → ∃ j, 1 ≤ j ∧ HdX (cxOf (L2.CX P w) P w K mg base N qual scope f cdv A outer s H E) j ∧ ∀ i e, fs[i]? = some e → FnH P w K mg base j e (Φ i)) →
      (ar' = true → ∃ j, 1 ≤ j ∧ HdX (cxOf (L2.CX P w) P w K mg base N qual scope f cdv A outer s H E) j ∧ AllR (cxOf (L2.CX P w) P w K mg base N qual scope f cdv A outer s H E) j ∧ ∀ i e, fs[i]? = some e → FnH P w K mg base j e (Φ i)) →
      (⟨N, scope, fs, cs, bl, st, true, hd', xl, ar'⟩ : Ck).Ok (cxOf (L2.CX P w) P w K mg base N qual scope f cdv A outer s H E) k Φ C (fun c d _ H' => E c d H') := fun hd' ar' h1 h2 =>
    ⟨rfl, S.nd, rfl, S.kind, rfl, fun _ _ => rfl, hr.deeper _, hg, takes_of rfl rfl rfl rfl, passes_of rfl, F.fs, F.cs, F.bl, F.one, F.ex, F.exf, h1, h2⟩
  have hx : hd = true ∨ ar = true → ∃ j, 1 ≤ j ∧ j + 3 ≤ k ∧ HdX (cxOf (L2.CX P w) P w K mg base N qual scope f cdv A outer s H E) j ∧ ∀ i e, fs[i]? = some e → FnH P w K mg base j e (Φ i) := fun hh => by
    obtain ⟨h1, j, j1, hj, h2⟩ := hH hh
    obtain ⟨CP, kk, ⟨cc, tb, ec, B, mT, uT⟩, hcp⟩ := h1.ex
    exact ⟨j, j1, hj, ⟨⟨CP, cc, tb, kk, ec, B, mT, uT, hcp⟩, (hr.deeper _).mono (by omega), hg⟩, h2⟩
  have ok : (⟨N, scope, fs, cs, bl, st, true, hd, xl, ar⟩ : Ck).Ok (cxOf (L2.CX P w) P w K mg base N qual scope f cdv A outer s H E) k Φ C (fun c d _ H' => E c d H') := by
    refine mk hd ar (fun hh => ?_) fun hh => ?_
    · obtain ⟨j, j1, _, h1, h2⟩ := hx (.inl hh)
      exact ⟨j, j1, h1, h2⟩
    · obtain ⟨j, j1, hj, h1, h2⟩ := hx (.inr hh)
      exact ⟨j, j1, h1, allR_of (mk false false (fun z => by cases z) fun z => by cases z) h1 ((hr.deeper _).mono hj) (hA hh), h2⟩
  have hq : TSof K mg (fun c d _ H' => E c d H') st (exs Φ C b) { nx := fun _ H' => Q .non H', rt := Q } (start N vs) H :=
    body_of (by omega) (fun i hi hs' => by
      have := List.all_eq_true.mp hs i hs'
      have hi' : i < ps.length := by omega
      simpa [hi'] using this) (fun _ _ _ _ _ h => h) g hp
  refine wpAny_mono ((sndSs b _ _ k _ body ok hc).run [] s1 (start N vs) H _ I hq) (fun fl s' hs => ?_) fun e s' hs => hs
  have fin : ∀ {σ' : L2.St} {H' : Hp} {v : V} {u : Value}, Inv (cxOf (L2.CX P w) P w K mg base N qual scope f cdv A outer s H E) [] σ' H' s' → RelV v u → Q v H' → CE outer P w H s Q u s' :=
    fun {σ' H' v u} J rv q => ⟨v, H', J.os, J.bare, J.base, J.hok, rv, q⟩
  cases fl with
  | ret u =>
    obtain ⟨v, σ', H', J, rv, q⟩ := hs
    exact fin J rv q
  | next =>
    obtain ⟨σ', H', J, q⟩ := hs
    exact fin (v := V.non) (u := Value.none) J rfl q
  | brk =>
    obtain ⟨_, _, _, q⟩ := hs
    exact False.elim q
  | cont =>
    obtain ⟨_, _, _, q⟩ := hs
    exact False.elim q
end
end Lw
end

section
set_option Elab.async false
set_option linter.all false
set_option maxRecDepth 100000
set_option maxHeartbeats 4000000
/-! L22: the defs of a text, all together -/
namespace Lw
open PySem L2 PySem.Spec PyProof.Rows
variable [TabInfo]
def nx (Φ : Nat → M Sl) (j : Nat) (F : M Sl) : Nat → M Sl := fun i => if i = j then F else Φ i
section
variable {P : Program} {w : World} {K : PySem.W.Frag} {mg : Str → Option Value} {base : Heap} {k : Nat} {Φ : Nat → M Sl} {C : Nat → D} {fs : List FnE} {cs bl xl : List Str}
theorem FnH.mono {e : FnE} {F : M Sl} {j : Nat} (h : FnH P w K mg base j e F) (hj : j ≤ k) : FnH P w K mg base k e F := by
  obtain ⟨f, fd, ps, h1, h2, h3, h4, h5, h6⟩ := h.ex
  exact ⟨f, fd, ps, h1, h2, h3, h4, h5, h6.mono hj⟩
theorem _root_.L2.FunD.bindsKw {x qual : Str} {params : Arguments} {body : List Stmt} {scope : Scope} {kws : List (Str × V)} {f : Addr} {fd : FuncData} {A : Args} {r : List (Str × Value)} (F : FunD K x qual params body scope [] kws f fd)
    (h : ∀ (kV doc pm : Value) (an : Option Addr) (cdv ct : Value), bindArgs (PySem.W.fnOf x qual params body scope .none kV doc pm an cdv ct) A = pure r) (s : Shared) : BindsTo s fd A r := by
  obtain ⟨oc, od, dV, kV, doc, pm, an, cdv, ct, osl, rfl, _, _, hD, _⟩ := F.ex
  rcases hD with ⟨_, rfl⟩ | ⟨e, _⟩
  · exact .of_eq (h kV doc pm an cdv ct)
  · exact absurd rfl e
theorem excF_none {T : List (Addr × Str)} {P : Program} {K : PySem.W.Frag} {mg : Str → Option Value} : @ExcF ⟨T, fun _ => .none⟩ P K mg := @ExcF.mk ⟨T, fun _ => .none⟩ _ _ _ (fun _ _ e => nomatch e) fun _ _ _ _ e => nomatch e
theorem Facts.none (hc : ∀ i n, cs[i]? = some n → ∃ v u, mg n = some u ∧ RelV v u ∧ ∀ H, RepB K H (fun _ => False) v (C i)) (hb : ∀ n ∈ bl, mg n = Option.none) (xh : ∀ n ∈ xl, ∃ a, TabInfo.exc n = some a) (hx : ExcF P K mg) : Facts P w K mg base 1 (fun _ => M.bad) C [] cs bl xl :=
  ⟨Nat.le_refl 1, xh, hx, fun i e h => by simp at h, hc, hb⟩
/-- one def more -/
theorem Facts.def_ (F : Facts P w K mg base k Φ C fs cs bl xl) {x : Str} {params : Arguments} {body : List Stmt} {scope : Scope} {kws : List (Str × V)} {f : Addr} {fd : FuncData} {N ps : List Str} {st rb : List Nat} {b : List S}
    (D : FunD K x x params body scope [] kws f fd) (S : C8.scC N ps scope = true) (hs : slotsOk ps.length st rb = true) (hc : chkSs b ⟨N, scope, fs, cs, bl, st, true, false, xl, false⟩ body = true) :
    FOk P w K mg base (k + 1) f fd ps (spF K mg ps.length (fnS Φ C N.length rb b)) := by
  obtain ⟨oc, od, dV, kV, doc, pm, an, cdv, ct, osl, rfl, lk, hcd, _, _⟩ := D.ex
  exact fn_ok lk hcd (C8.fnScope_by S) F hs hc (fun z => by simp at z) fun z => by cases z
theorem Facts.step (F : Facts P w K mg base k Φ C fs cs bl xl) {x : Str} {params : Arguments} {body : List Stmt} {scope : Scope} {kws : List (Str × V)} {f : Addr} {fd : FuncData} {N ps : List Str} {st rb : List Nat} {b : List S}
    (D : FunD K x x params body scope [] kws f fd) (hm : mg x = some (.ref f))
    (ks : List (Nat × List Str)) (hb : ∀ (kV doc pm : Value) (an : Option Addr) (cdv ct : Value) (us : List Value), us.length = ps.length → bindArgs (PySem.W.fnOf x x params body scope .none kV doc pm an cdv ct) ⟨us, []⟩ = pure (ps.zip us))
    (hkb : ∀ q ∈ ks, q.1 + q.2.length = ps.length ∧ ∀ (kV doc pm : Value) (an : Option Addr) (cdv ct : Value) (us ws : List Value), us.length = q.1 → ws.length = q.2.length → bindArgs (PySem.W.fnOf x x params body scope .none kV doc pm an cdv ct) ⟨us, q.2.zip ws⟩ = pure (ps.zip (us ++ ws)))
    (S : C8.scC N ps scope = true) (hs : slotsOk ps.length st rb = true) (hc : chkSs b ⟨N, scope, fs, cs, bl, st, true, false, xl, false⟩ body = true) :
    Facts P w K mg base (k + 1) (nx Φ fs.length (fnS Φ C N.length rb b)) C (fs ++ [⟨x, ps.length, ks⟩]) cs bl xl := by
  refine ⟨by have := F.one; omega, F.ex, F.exf, fun i e h => ?_, F.cs, F.bl⟩
  rcases Nat.lt_or_ge i fs.length with hi | hi
  · rw [List.getElem?_append_left hi] at h
    have hne : i ≠ fs.length := by omega
    have := (F.fs i e h).mono (Nat.le_succ k)
    unfold nx
    rw [if_neg hne]; exact this
  · rw [List.getElem?_append_right hi] at h
    have : i = fs.length := by
      rcases Nat.lt_or_ge (i - fs.length) 1 with q | q
      · omega
      · rw [List.getElem?_eq_none (by simpa using q)] at h; cases h
    subst this
    simp at h
    subst h
    unfold nx
    rw [if_pos rfl]
    exact ⟨f, fd, ps, hm, D.kp, D.bindsN hb, fun q hq => ⟨(hkb q hq).1, fun s us ws _ h1 h2 => D.bindsKw (fun kV doc pm an cdv ct => (hkb q hq).2 kV doc pm an cdv ct us ws h1 h2) s⟩, rfl, F.def_ D S hs hc⟩
theorem Facts.mono {j : Nat} (F : Facts P w K mg base j Φ C fs cs bl xl) (h : j ≤ k) : Facts P w K mg base k Φ C fs cs bl xl := ⟨by have := F.one; omega, F.ex, F.exf, fun i e z => (F.fs i e z).mono h, F.cs, F.bl⟩
/-- one def more, in which a lambda is handed to _law_heard -/
theorem Facts.stepH (F : Facts P w K mg base k Φ C fs cs bl xl) {x : Str} {params : Arguments} {body : List Stmt} {scope : Scope} {kws : List (Str × V)} {f : Addr} {fd : FuncData} {N ps : List Str} {st rb : List Nat} {b : List S}
    (D : FunD K x x params body scope [] kws f fd) (hm : mg x = some (.ref f))
    (hb : ∀ (kV doc pm : Value) (an : Option Addr) (cdv ct : Value) (us : List Value), us.length = ps.length → bindArgs (PySem.W.fnOf x x params body scope .none kV doc pm an cdv ct) ⟨us, []⟩ = pure (ps.zip us))
    (S : C8.scC N ps scope = true) (hs : slotsOk ps.length st rb = true) {ar : Bool} (hA : ar = true → ArK K mg bl xl) (hc : chkSs b ⟨N, scope, fs, cs, bl, st, true, true, xl, ar⟩ body = true)
    (hH : ∀ (oc dV kV doc pm cdv ct : Value) (od an : Option Addr) (osl : Array (Option Value)), K.lookup f = some ⟨oc, od, .func (PySem.W.fnOf x x params body scope dV kV doc pm an cdv ct), osl⟩ → PySem.W.codeIn K cdv x = true → HdF K mg base x cdv) :
    Facts P w K mg base (k + 4) (nx Φ fs.length (fnS Φ C N.length rb b)) C (fs ++ [⟨x, ps.length, []⟩]) cs bl xl := by
  refine ⟨by have := F.one; omega, F.ex, F.exf, fun i e h => ?_, F.cs, F.bl⟩
  rcases Nat.lt_or_ge i fs.length with hi | hi
  · rw [List.getElem?_append_left hi] at h
    have hne : i ≠ fs.length := by omega
    have := (F.fs i e h).mono (show k ≤ k + 4 by omega)
    unfold nx
    rw [if_neg hne]; exact this
  · rw [List.getElem?_append_right hi] at h
    have : i = fs.length := by
      rcases Nat.lt_or_ge (i - fs.length) 1 with q | q
      · omega
      · rw [List.getElem?_eq_none (by simpa using q)] at h; cases h
    subst this
    simp at h
    subst h
    unfold nx
    rw [if_pos rfl]
    refine ⟨f, fd, ps, hm, D.kp, D.bindsN hb, fun q hq => (List.not_mem_nil hq).elim, rfl, ?_⟩
    obtain ⟨oc, od, dV, kV, doc, pm, an, cdv, ct, osl, rfl, lk, hcd, _, _⟩ := D.ex
    exact fn_ok lk hcd (C8.fnScope_by S) (F.mono (Nat.le_add_right k 3)) hs hc (fun _ => ⟨hH oc dV kV doc pm cdv ct od an osl lk hcd, k, F.one, Nat.le_refl _, F.fs⟩) hA
/-- a def that is not to be come to -/
theorem Facts.bad (F : Facts P w K mg base k Φ C fs cs bl xl) {x : Str} {params : Arguments} {body : List Stmt} {scope : Scope} {kws : List (Str × V)} {f : Addr} {fd : FuncData} {ps : List Str}
    (D : FunD K x x params body scope [] kws f fd) (hm : mg x = some (.ref f))
    (hb : ∀ (kV doc pm : Value) (an : Option Addr) (cdv ct : Value) (us : List Value), us.length = ps.length → bindArgs (PySem.W.fnOf x x params body scope .none kV doc pm an cdv ct) ⟨us, []⟩ = pure (ps.zip us)) :
    Facts P w K mg base (k + 1) (nx Φ fs.length M.bad) C (fs ++ [⟨x, ps.length, []⟩]) cs bl xl := by
  refine ⟨by have := F.one; omega, F.ex, F.exf, fun i e h => ?_, F.cs, F.bl⟩
  rcases Nat.lt_or_ge i fs.length with hi | hi
  · rw [List.getElem?_append_left hi] at h
    have hne : i ≠ fs.length := by omega
    have := (F.fs i e h).mono (Nat.le_succ k)
    unfold nx
    rw [if_neg hne]; exact this
  · rw [List.getElem?_append_right hi] at h
    have : i = fs.length := by
      rcases Nat.lt_or_ge (i - fs.length) 1 with q | q
      · omega
      · rw [List.getElem?_eq_none (by simpa using q)] at h; cases h
    subst this
    simp at h
    subst h
    unfold nx
    rw [if_pos rfl]
    refine ⟨f, fd, ps, hm, D.kp, D.bindsN hb, fun q hq => (List.not_mem_nil hq).elim, rfl, fun vs H Q E h => h.1, fun A outer s H args us vs Q E _ _ _ _ _ h => ?_⟩
    obtain ⟨_, Pr, E0, g, z⟩ := h
    exact z.elim
end
/-! ### the law's end -/
section
variable {P : Program} {w : World} {K : PySem.W.Frag} {mg mb : Str → Option Value} {k : Nat} {fa a : Addr} {fd : FuncData} {x : Str} {s : Shared} {us : List Value} {ns : List Int} {cs : List (Addr × Addr)}
/-- the heap of what is tracked at the start: the script, where the module does not know it, and the tables cs -/
def scrH (K : PySem.W.Frag) (cs : List (Addr × Addr)) (a : Addr) (us : List Value) (ns : List Int) : Hp := fun b =>
  if b ∈ cs.map (·.2) then some (.tbl #[]) else if b = a ∧ K.lookup a = none then some (.frz { cls := .type "list", data := .seq us.toArray } (.lst (ns.map V.int))) else none
theorem scrH_ne {b : Addr} {u : HO} (h : scrH K cs a us ns b = some u) : (b ∈ cs.map (·.2) ∧ u = .tbl #[]) ∨ (b ∉ cs.map (·.2) ∧ (b = a ∧ K.lookup a = none) ∧ u = .frz { cls := .type "list", data := .seq us.toArray } (.lst (ns.map V.int))) := by
  unfold scrH at h
  split at h
  · rename_i hb
    cases h; exact .inl ⟨hb, rfl⟩
  · rename_i hb
    split at h
    · rename_i hc
      cases h; exact .inr ⟨hb, hc, rfl⟩
    · cases h
theorem law_end {F : M Sl} {E' : SE} (KX : K.In s.heap) (hns : s.heap.Ns mainGlobals mg) (hb : s.heap.Ns builtinsNs mb) (hbb : ∀ x : Str, x ≠ "__name__" → mb x = bootBuiltins x) (hlim : s.heap.NoLimit) (hg : s.gens = #[])
    (tT : ∀ q ∈ cs, s.heap.get? q.2 = some { cls := .none, data := .fields #[] }) (tK : ∀ q ∈ cs, K.lookup q.2 = none) (tC : ∀ q ∈ cs, PySem.W.CodeHd s.heap q.1 q.2) (tI : ∀ q ∈ TabInfo.T, q.1 ∈ cs.map (·.2))
    (tM : cs ≠ [] → ∃ (bm : Addr) (ob : Obj), mg "__builtins__" = some (.ref bm) ∧ bm ≠ builtinsNs ∧ s.heap.get? bm = some ob ∧ ob.cls = .type "module" ∧ ob.dict = some builtinsNs ∧ ob.data = .plain)
    (ha : s.heap.get? a = some { cls := .type "list", data := .seq us.toArray }) (hi : IntsAre us ns) (hl : ns.length ≤ sizeLine) (hr : Room k callerA)
    (hF : ∀ base : Heap, K.In base → base.Ns mainGlobals mg → (∀ q ∈ cs, LamX.TabB base mg q.1 q.2) → FOk P w K mg base k fa fd [x] (spF K mg 1 F)) (hbind : ∀ (s : Shared) (u : Value), BindsTo s fd ⟨[u], []⟩ [(x, u)])
    (plain : F [.val (.scr ns)] = .ok (.val (.bl true)) E') :
    codeAny (model P w) callerA (.call (.ref fa) ⟨[.ref a], []⟩) (fun r t => r = .ok (.ret (.bool true)) ∧ OldK s.heap t.heap ∧ t.os = s.os ∧ AllBare t.gens) s := by
  generalize hH : scrH K cs a us ns = H
  have isTb : ∀ {b : Addr}, b ∈ cs.map (·.2) → s.heap.get? b = some { cls := .none, data := .fields #[] } := fun {b} z => by
    obtain ⟨q, hq, rfl⟩ := List.mem_map.mp z
    exact tT q hq
  have aNo : a ∉ cs.map (·.2) := fun z => by
    have e := isTb z
    rw [ha] at e
    have e2 := congrArg Obj.data (Option.some.inj e)
    cases e2
  have cse : ∀ {b u}, H b = some u → (b ∈ cs.map (·.2) ∧ u = .tbl #[]) ∨ (b ∉ cs.map (·.2) ∧ (b = a ∧ K.lookup a = none) ∧ u = .frz { cls := .type "list", data := .seq us.toArray } (.lst (ns.map V.int))) := fun {b u} z => scrH_ne (by rw [hH]; exact z)
  have atT : ∀ {b}, b ∈ cs.map (·.2) → H b = some (.tbl #[]) := fun {b} z => by rw [← hH]; exact if_pos z
  have lenV := hi.length
  have rv := vals_ints hi
  -- what is neither a list nor an empty table is not tracked
  have free : ∀ {b : Addr} {o : Obj}, s.heap.get? b = some o → o.data ≠ .seq us.toArray → o.data ≠ .fields #[] → H b = none := fun {b o} e n1 n2 => by
    cases q : H b with
    | none => rfl
    | some u =>
      rcases cse q with ⟨z, _⟩ | ⟨_, ⟨z, _⟩, _⟩
      · rw [isTb z] at e; cases e; exact absurd rfl n2
      · rw [z, ha] at e; cases e; exact absurd rfl n1
  have freeD : ∀ {b : Addr} {o : Obj} {es : Array DictEntry} {ep : Nat}, s.heap.get? b = some o → o.data = .dict es ep → H b = none := fun {b o es ep} e d => free e (by rw [d]; exact fun z => nomatch z) (by rw [d]; exact fun z => nomatch z)
  have ns' : ∀ {b : Addr} {m : Str → Option Value}, s.heap.Ns b m → (hidT s.heap H).Ns b m := fun {b m} z => by
    obtain ⟨o, es, ep, e, d, r⟩ := z
    exact ⟨o, es, ep, hidT_get e (freeD e d), d, r⟩
  have inK : K.In (hidT s.heap H) := fun b o e => hidT_get (KX b o e) (by
    cases q : H b with
    | none => rfl
    | some u =>
      rcases cse q with ⟨z, _⟩ | ⟨_, ⟨z, n⟩, _⟩
      · obtain ⟨p, hp, rfl⟩ := List.mem_map.mp z
        rw [tK p hp] at e; cases e
      · rw [z, n] at e; cases e)
  have md : Mod K mg (hidT s.heap H) := ⟨inK, ns' hns, ⟨mb, ns' hb, hbb⟩, by
    obtain ⟨mc, h1, h2⟩ := hlim
    exact ⟨mc, ns' h1, h2⟩⟩
  have good : HOk P w H s.heap := fun b u z => by
    rcases cse z with ⟨hb, rfl⟩ | ⟨_, ⟨hb, _⟩, rfl⟩
    · exact isTb hb
    · rw [hb]
      exact ⟨ha, by rw [List.length_map]; exact hl, us, _, rv, ha⟩
  have env : Env0 P w K mg (hidT s.heap H) callerA [] s H := ⟨rfl, md, fun b o e => of_hidT e, Nat.le_of_eq (hidT_size _ _), trivial, fun b z => (List.not_mem_nil z).elim, good, .of_eq hg⟩
  have tabs : ∀ q ∈ cs, LamX.TabB (hidT s.heap H) mg q.1 q.2 := fun q hq => by
    have at2 := tT q hq
    refine ⟨?_, ?_, fun z => ?_⟩
    · obtain ⟨o, vs, f1, f2, f3, f4, f5, f6, f7, e, r1, r2, r3, rest⟩ := tC q hq
      refine ⟨o, vs, f1, f2, f3, f4, f5, f6, f7, hidT_get e (free e ?_ ?_), r1, r2, r3, rest⟩
      · rw [r2]; exact fun z => nomatch z
      · rw [r2]
        intro z
        cases z
        simp at r3
    · obtain ⟨bm, ob, b1, b2, b3, b4, b5, b6⟩ := tM (fun z => by rw [z] at hq; cases hq)
      refine ⟨bm, ob, b1, b2, fun z => ?_, fun z => ?_, hidT_get b3 (free b3 ?_ ?_), b4, b5, b6⟩
      · obtain ⟨o, es, ep, e, d, _⟩ := hns
        rw [z, e] at b3; cases b3
        rw [d] at b6; cases b6
      · rw [z, at2] at b3; cases b3; cases b6
      · rw [b6]; exact fun z => nomatch z
      · rw [b6]; exact fun z => nomatch z
    · obtain ⟨o, es, ep, e, d, _⟩ := hns
      rw [z, at2] at e; cases e; cases d
  have scr : Scr K H a ns := by
    cases q : K.lookup a with
    | none => exact .inl ⟨_, by rw [← hH]; unfold scrH; rw [if_neg aNo]; exact if_pos ⟨rfl, q⟩⟩
    | some o =>
      have e := KX a o q
      rw [ha] at e; cases e
      exact .inr ⟨_, us.toArray, _, q, rfl, rfl, rfl, by rw [List.size_toArray, lenV]; exact hl, by simpa using rv⟩
  have sp : spF K mg 1 F [.ref a] H (fun v _ => v = .bl true) fun _ _ _ => False := by
    refine ⟨rfl, fun _ => False, [.val (.scr ns)], ⟨rfl, fun _ h => h.elim, fun i d e => ?_, fun i d e => ?_, fun b _ h => h, fun i j d d' b e => ?_, fun q hq => LamX.TabS.nil (atT (tI q hq))⟩, ?_⟩
    · rcases i with _ | i
      · cases e
        exact ⟨_, rfl, ⟨_, .scr scr, fun _ z => nomatch z⟩⟩
      · simp at e
    · rcases i with _ | i
      · cases e
      · simp at e
    · rcases i with _ | i
      · cases e
      · simp at e
    · rw [plain]
      intro v H' _ _ r _
      obtain ⟨S, r, _⟩ := (show RepB K H' _ v (.bl true) from r)
      cases r; rfl
  refine codeAny_mono ((hF _ inK (ns' hns) tabs).run callerA [] s H ⟨[.ref a], []⟩ [.ref a] [.ref a] _ _ hr rfl env (hbind s (.ref a)) (.cons rfl .nil) sp) fun r t h => ?_
  match r, h with
  | .error e, h =>
    obtain ⟨a, B, H', cls, d, _, _, _, _, _, _, _, z⟩ := h
    exact z.elim
  | .ok .next, h => exact h.elim
  | .ok .brk, h => exact h.elim
  | .ok .cont, h => exact h.elim
  | .ok (.ret u), h =>
    obtain ⟨v, H', os, bare, un, hok', r', q⟩ := h
    obtain rfl : v = .bl true := q
    obtain rfl : u = Value.bool true := r'
    have same : ∀ {b : Addr} {o : Obj}, b ∉ cs.map (·.2) → s.heap.get? b = some o → t.heap.get? b = some o := fun {b o} hb e => by
      cases q : H b with
      | none => exact un.keep b o e q List.not_mem_nil (by simp)
      | some u =>
        rcases cse q with ⟨z, _⟩ | ⟨_, ⟨z, _⟩, rfl⟩
        · exact absurd z hb
        · have z2 := un.frzs b _ _ q
          obtain ⟨e1, _⟩ := good b _ q
          obtain ⟨e2, _⟩ := hok' b _ z2
          rw [e] at e1; cases e1
          exact e2
    have more : ∀ q ∈ cs, ∃ ps : Array Value, t.heap.get? q.2 = some { cls := .none, data := .fields ps } := fun q hq => by
      obtain ⟨ps, z⟩ := un.tbls q.2 #[] (atT (List.mem_map.mpr ⟨q, hq, rfl⟩))
      exact ⟨_, hok' q.2 _ z⟩
    refine ⟨rfl, ⟨fun b o e => ?_, fun b o e => ?_⟩, os, bare⟩
    · by_cases hb : b ∈ cs.map (·.2)
      · obtain ⟨q, hq, rfl⟩ := List.mem_map.mp hb
        obtain ⟨ps, z⟩ := more q hq
        rw [tT q hq] at e; cases e
        refine .inr (.inl ⟨((tC q hq).tab (tT q hq)).isCodeTable, rfl, #[], ps, rfl, ?_⟩)
        rw [Array.empty_append]; exact z
      · exact .inl (same hb e)
    · by_cases hb : b ∈ cs.map (·.2)
      · obtain ⟨q, hq, rfl⟩ := List.mem_map.mp hb
        obtain ⟨ps, z⟩ := more q hq
        exact ⟨_, z⟩
      · exact ⟨o, same hb e⟩
end
/-- a law whose defs make no lambdas -/
theorem walk_end {l : PySem.W.OpenLaw} {n k : Nat} {x : Str} {q : Program} {loose : List Str} {XP : (Str → Option Value) → Heap → Prop} {YP : World → Heap → Prop} {d : DefRec}
    (hn : l.most = some n) (hn2 : n ≤ sizeLine) (hdf : d.params.defaults = []) (hr : Room k callerA)
    (F : ∀ (w : World) (mg : Str → Option Value) (fa : Addr) (h : Heap), YP w h → h.Ns mainGlobals mg → mg d.name = some (.ref fa) →
      ∃ (K : PySem.W.Frag) (fd : FuncData) (f : M Sl), K.In h ∧ (∀ (s : Shared) (u : Value), BindsTo s fd ⟨[u], []⟩ [(x, u)]) ∧ (∀ ns : List Int, ns.length ≤ n → ∃ E', f [.val (.scr ns)] = .ok (.val (.bl true)) E') ∧
        ∀ (base : Heap), K.In base → base.Ns mainGlobals mg → @FOk l.prog w K mg base k fa fd [x] (@spF ⟨[], fun _ => none⟩ K mg 1 f)) :
    PySem.W.WalkO q loose XP YP l.row.toRowW d [] (fun f vs => PySem.call f vs) := by
  refine Att.attach_call hn hdf fun w s₀ s₁ mg mb fa o pm cd doc a vs ns G Y ho hd hcd hmg hobj hints hlen hg => ?_
  obtain ⟨K, fd, f, KX, hb, hp, hF⟩ := F w mg fa _ Y G.T.g hmg
  obtain ⟨E', hp⟩ := hp ns hlen
  letI : TabInfo := ⟨[], fun _ => none⟩
  exact law_end (cs := []) KX G.T.g G.T.b G.T.builtins G.T.nolimit hg (fun _ z => nomatch z) (fun _ z => nomatch z) (fun _ z => nomatch z) (fun _ z => nomatch z) (fun z => absurd rfl z) hobj hints (Nat.le_trans hlen hn2) hr (fun base h1 h2 _ => hF base h1 h2) hb hp
/-- a law whose defs make lambdas: cs, the code objects and their tables -/
theorem walk_endT {l : PySem.W.OpenLaw} {n k : Nat} {x : Str} {q : Program} {loose : List Str} {XP : (Str → Option Value) → Heap → Prop} {YP : World → Heap → Prop} {d : DefRec}
    (hn : l.most = some n) (hn2 : n ≤ sizeLine) (hdf : d.params.defaults = []) (hr : Room k callerA)
    (F : ∀ (w : World) (mg : Str → Option Value) (fa : Addr) (h : Heap), YP w h → h.Ns mainGlobals mg → mg d.name = some (.ref fa) →
      ∃ (K : PySem.W.Frag) (fd : FuncData) (f : M Sl) (cs : List (Addr × Addr)) (T : List (Addr × Str)) (xc : Str → Option Addr), K.In h ∧ (∀ (s : Shared) (u : Value), BindsTo s fd ⟨[u], []⟩ [(x, u)]) ∧ (∀ ns : List Int, ns.length ≤ n → ∃ E', f [.val (.scr ns)] = .ok (.val (.bl true)) E') ∧
        (∀ p ∈ cs, h.get? p.2 = some { cls := .none, data := .fields #[] }) ∧ (∀ p ∈ cs, K.lookup p.2 = none) ∧ (∀ p ∈ cs, PySem.W.CodeHd h p.1 p.2) ∧ (∀ p ∈ T, p.1 ∈ cs.map (·.2)) ∧
        ∀ base : Heap, K.In base → base.Ns mainGlobals mg → (∀ p ∈ cs, LamX.TabB base mg p.1 p.2) → @FOk l.prog w K mg base k fa fd [x] (@spF ⟨T, xc⟩ K mg 1 f)) :
    PySem.W.WalkO q loose XP YP l.row.toRowW d [] (fun f vs => PySem.call f vs) := by
  refine Att.attach_callB hn hdf fun w s₀ s₁ mg mb fa o pm cd doc a vs ns G Y ho hd hcd hmg hobj hints hlen hbits hg => ?_
  obtain ⟨K, fd, f, cs, T, xc, KX, hb, hp, h1, h2, h3, h4, hF⟩ := F w mg fa _ Y G.T.g hmg
  obtain ⟨E', hp⟩ := hp ns hlen
  letI : TabInfo := ⟨T, xc⟩
  exact law_end (cs := cs) KX G.T.g G.T.b G.T.builtins G.T.nolimit hg h1 h2 h3 h4 (fun _ => G.T.bmain) hobj hints (Nat.le_trans hlen hn2) hr hF hb hp
end Lw
end

section
set_option Elab.async false
set_option linter.all false
set_option maxRecDepth 100000
set_option maxHeartbeats 4000000
/-! LY: what a head says of the own classes of exceptions -/
namespace Lw
open PySem PySem.Spec PyProof.Rows L2 LamX
abbrev gaK (K : PySem.W.Frag) (x : Str) : Addr := He.ga K x
def veB : List Stmt → Bool
  | [.Expr (.Call (.Attribute (.Call (.Name a _) [] [] _) b ap) [.Name c _] [] cp) _, .Assign [.Attribute (.Name d _) e _] (.Name f _) _] => ap.endLine == cp.line && a == ("super" : Str) && b == ("__init__" : Str) && c == ("value" : Str) && d == ("self" : Str) && e == ("value" : Str) && f == ("value" : Str)
  | _ => false
theorem ve_call {o : Expr} {p2 p4 : Pos} {env : Env} {a : Expr} (hl : (p2.endLine == p4.line) = true) (hs : starEach [a] env = [(false, eval a env)]) : ∃ pl : Sem Bool, eval (.Call (.Attribute o "__init__" p2) [a] [] p4) env = (do
      let ov ← attributeBase o "__init__" env (eval o env)
      standAt p2.atName
      let (f, first) ← holding [ov] (getMethod ov "__init__" pl)
      callWith p4 f first (backTo p4 (starEach [a] env)) []) := by
  refine ⟨do return (← importBound o env).getD true, ?_⟩
  have h1 : ∀ ov : Value, methodCall o "__init__" p2 p4 env ov 1 (backTo p4 (starEach [a] env)) [] = (do
      let (f, first) ← holding [ov] (getMethod ov "__init__" (do return (← importBound o env).getD true))
      callWith p4 f first (backTo p4 (starEach [a] env)) []) := fun ov => by
    unfold methodCall
    have hf : methodCallForm 1 (backTo p4 (starEach [a] env)) [] = true := by rw [hs]; rfl
    rw [hf]
    unfold methodCallPos calleeOf
    rw [if_pos rfl]
    simp only [if_pos (show (!true || p2.endLine == p4.line) = true by rw [hl]; rfl)]
    simp
  rw [arm_eval_Call]
  show (do
      let ov ← attributeBase o "__init__" env (eval o env)
      standAt p2.atName
      methodCall o "__init__" p2 p4 env ov 1 (backTo p4 (starEach [a] env)) []) = _
  simp only [h1]
theorem veB_ok {bd : List Stmt} (h : veB bd = true) : veBody bd := by
  unfold veB at h
  split at h
  · simp only [Bool.and_eq_true, beq_iff_eq] at h
    obtain ⟨⟨⟨⟨⟨⟨hl, rfl⟩, rfl⟩, rfl⟩, rfl⟩, rfl⟩, rfl⟩ := h
    exact ⟨_, _, _, _, _, _, _, _, _, _, rfl, fun env => ve_call (by simpa using hl) (by rfl)⟩
  · cases h
def arB (x : Str) : PySem.Arg → Bool
  | ⟨a, none, _⟩ => a == x
  | _ => false
def paB : Arguments → Bool
  | ⟨[], [a, b], none, [], [], none, []⟩ => arB "self" a && arB "value" b
  | _ => false
theorem arB_ok {x : Str} {a : PySem.Arg} (h : arB x a = true) : ∃ p, a = ⟨x, none, p⟩ := by
  obtain ⟨a, an, p⟩ := a
  cases an with
  | none => exact ⟨p, by have : a = x := by simpa [arB] using h
                         rw [this]⟩
  | some e => cases h
theorem paB_ok {a : Arguments} (h : paB a = true) : ∃ p1 p2, a = { posonlyargs := [], args := [{ arg := "self", annotation := none, pos := p1 }, { arg := "value", annotation := none, pos := p2 }], vararg := none, kwonlyargs := [], kw_defaults := [], kwarg := none, defaults := [] } := by
  unfold paB at h
  split at h
  · rw [Bool.and_eq_true] at h
    obtain ⟨p, rfl⟩ := arB_ok h.1
    obtain ⟨q, rfl⟩ := arB_ok h.2
    exact ⟨p, q, rfl⟩
  · cases h
def veScope : Scope := { kind := .function, names := [("self", .local), ("value", .local), ("__class__", .free), ("super", .globalImplicit)], isGenerator := false, isCoroutine := false, more := [] }
/-- the def __init__ -/
def fnB (K : PySem.W.Frag) (file : Str) (C : Addr) (fd : FuncData) : Bool :=
  fd.name == ("__init__" : Str) && (match fd.body with
    | .stmts bd => veB bd
    | _ => false) && paB fd.params && decide (fd.scope = veScope) && decide (fd.globals = mainGlobals) && decide (fd.builtins = builtinsNs) && decide (fd.defaults = .none) && (match fd.closure, fd.code with
    | [(x, cc)], .ref cda => x == ("__class__" : Str) && PySem.W.codeIn K (.ref cda) fd.qualname && (match K.lookup cda with
        | some ⟨_, _, .fields vs, _⟩ => (match (vs[2]? : Option Value) with
          | some (.str f _) => file == f
          | _ => false)
        | _ => false) && (match K.lookup cc with
        | some ⟨_, _, .cell (some (.ref D)), _⟩ => (PySem.W.clsIn K D).isSome && decide (PySem.W.mroIn K C (.ref D) = some true) && decide (PySem.W.ks_superIn K C D "__init__" = some (some (.builtin "ValueError.__init__")))
        | _ => false)
    | _, _ => false)
def initB (K : PySem.W.Frag) (file : Str) (C : Addr) : Bool := match PySem.W.findIn K (.ref C) "__init__" with
  | some (some (.ref fI)) => decide (PySem.W.typeIn K (.ref fI) = some (.type "function")) && (match K.lookup fI with
    | some ⟨_, _, .func fd, _⟩ => fnB K file C fd
    | _ => false)
  | _ => false
theorem initB_ok {prog : Program} {K : PySem.W.Frag} {mg : Str → Option Value} {C : Addr} (h : initB K prog.main.file C = true) (h1 : mg "super" = none) (h2 : PySem.W.subIn K (.ref C) (.type "ValueError") = some true) (h3 : PySem.W.nsIn K cStatics "thirdparty.any" = some none)
    (h4 : PySem.W.findIn K (.ref C) "value" = some none) (h5 : (prog.main.scope.names.lookup ("super" : Str)).isSome = false) : ∃ fI, InitK prog K mg C fI := by
  unfold initB at h
  split at h
  case h_2 => cases h
  rename_i fI e
  rw [Bool.and_eq_true] at h
  obtain ⟨hT, h⟩ := h
  split at h
  case h_2 => cases h
  rename_i oc od fd osl lk
  refine ⟨fI, ⟨e, of_decide_eq_true hT, h1, ?_, h2, h3, h4, h5⟩⟩
  obtain ⟨nm, q, pa, bd, sc, gl, cl, df, kd, doc, pm, an, cd, ct, bi⟩ := fd
  unfold fnB at h
  simp only [Bool.and_eq_true, decide_eq_true_eq, beq_iff_eq] at h
  obtain ⟨⟨⟨⟨⟨⟨⟨rfl, hb⟩, hp⟩, rfl⟩, rfl⟩, rfl⟩, rfl⟩, hc⟩ := h
  cases bd with
  | stmts bd =>
    obtain ⟨p1, p2, rfl⟩ := paB_ok hp
    split at hc
    case h_2 => cases hc
    rename_i x cc cda
    simp only [Bool.and_eq_true, beq_iff_eq] at hc
    obtain ⟨⟨⟨rfl, q1⟩, q2⟩, q3⟩ := hc
    split at q2
    case h_2 => cases q2
    rename_i ccl cdd vs ccs lkc
    split at q2
    case h_2 => cases q2
    rename_i f tf ef
    split at q3
    case h_2 => cases q3
    rename_i cl cld D csl lkD
    simp only [Bool.and_eq_true, decide_eq_true_eq] at q3
    obtain ⟨⟨r1, r2⟩, r3⟩ := q3
    obtain ⟨cdD, hD⟩ := Option.isSome_iff_exists.mp r1
    exact ⟨oc, cl, ccl, od, cld, cdd, an, osl, csl, ccs, cc, cda, D, _, bd, _, _, kd, doc, pm, ct, vs, f, tf, cdD, p1, p2, q, lk, q1, lkc, ef, by simpa using q2, lkD, hD, r2, r3, rfl, veB_ok hb, rfl, fun u v => rfl⟩
  | _ => cases hb
/-- a class -/
def oexB (K : PySem.W.Frag) (C : Addr) : Bool := (match K.lookup C with
  | some ⟨.type t, _, .cls cd, sl⟩ => decide (t = "type") && (match cd.mro, sl.toList with
    | .ref C' :: bm, [_, _, _, _, some (.builtin n), _] => decide (C' = C) && decide (n = "ValueError.__new__") && !cd.hasDel && cd.hasDict && PySem.HandSPX.refsVE bm
    | _, _ => false)
  | _ => false) && decide (PySem.W.findIn K (.ref C) "__setattr__" = some (some (.builtin "object.__setattr__"))) && decide (PySem.W.subIn K (.ref C) (.type "BaseException") = some true) && decide (PySem.W.typeIn K (.ref C) = some (.type "type")) && PySem.W.keepIn K (.ref C)
theorem oexB_ok {K : PySem.W.Frag} {C : Addr} (h : oexB K C = true) : OexC K C := by
  unfold oexB at h
  simp only [Bool.and_eq_true, decide_eq_true_eq] at h
  obtain ⟨⟨⟨⟨h1, h2⟩, h3⟩, h4⟩, h5⟩ := h
  refine ⟨?_, h2, h3, h4, h5⟩
  split at h1
  case h_2 => cases h1
  rename_i t dd cd sl lk
  rw [Bool.and_eq_true, decide_eq_true_eq] at h1
  obtain ⟨rfl, h1⟩ := h1
  split at h1
  case h_2 => cases h1
  rename_i C' bm k0 k1 k2 k3 n k5 hm hs
  simp only [Bool.and_eq_true, decide_eq_true_eq, Bool.not_eq_true'] at h1
  obtain ⟨⟨⟨⟨rfl, rfl⟩, hdel⟩, hd⟩, hr⟩ := h1
  obtain ⟨nm, bs, mro, ns, qn, hd', sn, sub, ab, col, del⟩ := cd
  dsimp only at hm hdel hd
  subst hm hdel hd
  have hsl : sl = #[k0, k1, k2, k3, some (.builtin "ValueError.__new__"), k5] := by
    obtain ⟨l⟩ := sl
    simp only at hs
    rw [hs]
  subst hsl
  exact ⟨nm, qn, ns, bs, bm, sn, sub, ab, col, dd, k0, k1, k2, k3, k5, lk, hr⟩
def clsB (K : PySem.W.Frag) (file : Str) (C : Addr) : Bool := oexB K C && initB K file C && xfB K C && decide (PySem.W.findIn K (.ref C) "__class__" = some (some (.builtin "object.__class__"))) && decide (PySem.W.specialIn K (.builtin "object.__class__") "__get__" = some (some (.builtin "getset_descriptor.__get__"))) &&
  decide (PySem.W.takesIn K (.builtin "object.__class__") = some true) && decide (PySem.W.mroIn K C (.type "object") = some true) && decide (PySem.W.findIn K (.ref C) "value" = some none) && decide (PySem.W.kitOne K (.ref C) (.type "ValueError") = some true) && decide (PySem.W.subIn K (.ref C) (.type "ValueError") = some true)
/-- the own classes xl -/
def xcB (file : Str) (xl : List Str) (K : PySem.W.Frag) : Bool := decide (PySem.W.nsIn K cStatics "thirdparty.any" = some none) && (xl.all fun x => clsB K file (gaK K x)) && (xl.all fun x => xl.all fun y => decide (PySem.W.kitOne K (.ref (gaK K x)) (.ref (gaK K y)) = some (excIs x y))) &&
  xl.all fun x => decide (PySem.W.exmOne K (.ref (gaK K x)) (.ref (gaK K "PassError")) = some true)
/-- the addresses of the classes xl -/
def xcOf (xl : List Str) (K : PySem.W.Frag) : Str → Option Addr := fun n => if n ∈ xl then some (gaK K n) else none
theorem xcB_ok {prog : Program} {K : PySem.W.Frag} {mg : Str → Option Value} {xl : List Str} {T : List (Addr × Str)} (h : xcB prog.main.file xl K = true) (hg : ∀ x ∈ xl, mg x = some (.ref (gaK K x))) (h1 : mg "super" = none) (h5 : (prog.main.scope.names.lookup ("super" : Str)).isSome = false) :
    (∀ n ∈ xl, ∃ a, (TabInfo.mk T (xcOf xl K)).exc n = some a) ∧ @ExcF ⟨T, xcOf xl K⟩ prog K mg ∧ ∀ C c, (TabInfo.mk T (xcOf xl K)).exc C = some c → PySem.W.exmOne K (.ref c) (.ref (gaK K "PassError")) = some true := by
  have at_ : ∀ {C c}, xcOf xl K C = some c → C ∈ xl ∧ c = gaK K C := fun {C c} e => by
    unfold xcOf at e
    split at e
    · rename_i hm
      cases e; exact ⟨hm, rfl⟩
    · cases e
  unfold xcB at h
  simp only [Bool.and_eq_true, decide_eq_true_eq, List.all_eq_true] at h
  obtain ⟨⟨⟨h3, hc⟩, hk⟩, hp⟩ := h
  refine ⟨fun n hn => ⟨_, if_pos hn⟩, @ExcF.mk ⟨T, xcOf xl K⟩ _ _ _ (fun C c e => ?_) fun C c D d e f => ?_, fun C c e => ?_⟩
  · obtain ⟨m, rfl⟩ := at_ e
    have z := hc C m
    unfold clsB at z
    simp only [Bool.and_eq_true, decide_eq_true_eq] at z
    obtain ⟨⟨⟨⟨⟨⟨⟨⟨⟨z1, z2⟩, z3⟩, z4⟩, z5⟩, z6⟩, z7⟩, z8⟩, z9⟩, z10⟩ := z
    have x := xfB_ok z3
    exact ⟨hg C m, oexB_ok z1, initB_ok z2 h1 z10 h3 z8 h5, x, ⟨x.ga, x.gg, x.exC, x.hdC, z4, z5, z6, z7⟩, z8, z9⟩
  · obtain ⟨m1, rfl⟩ := at_ e
    obtain ⟨m2, rfl⟩ := at_ f
    exact hk C m1 D m2
  · obtain ⟨m1, rfl⟩ := at_ e
    exact hp C m1
/-! ### the head's look, with the interpreter's own names -/
def asY (g : Addr → Option Obj) (n : Nat) : List Addr := He.asD g n ++ [cStatics]
def kY (g : Addr → Option Obj) (n : Nat) : PySem.W.Frag := He.frT g (asY g n)
def obsY (n : Nat) (fa : List He.Fa) (fn : List He.DefD) (tf : List He.Defn) (ex : PySem.W.Frag → Bool) (g : Addr → Option Obj) : He.AlX := (He.obsT fa fn [] (kY g n), ex (kY g n) && He.tabsB g tf (kY g n))
theorem saysY_of {n : Nat} {fa : List He.Fa} {fn : List He.DefD} {tf : List He.Defn} {ex : PySem.W.Frag → Bool} {w : World} {h : Heap} (e : obsY n fa fn tf ex h.get? = He.valX fn [] w) : He.SaysX fa fn [] tf ex w h (kY h.get? n) := by
  generalize hk : kY h.get? n = k
  unfold obsY at e
  rw [hk] at e
  have e1 : He.obsT fa fn [] k = He.valT fn [] w := congrArg (fun z : He.AlX => z.1) e
  have e2 : (ex k && He.tabsB h.get? tf k) = true := congrArg (fun z : He.AlX => z.2) e
  obtain ⟨h1, h2⟩ := Bool.and_eq_true_iff.mp e2
  have each : ∀ p ∈ tf, PySem.W.codeHdIn k (He.cT k p).1 (He.cT k p).2 = true ∧ ∃ o, h.get? (He.cT k p).2 = some o ∧ He.emptyTab o = true := fun p hp => by
    obtain ⟨h3, h4⟩ := Bool.and_eq_true_iff.mp (List.all_eq_true.mp h2 p hp)
    refine ⟨h3, ?_⟩
    cases q : h.get? (He.cT k p).2 with
    | none => rw [q] at h4; cases h4
    | some o => rw [q] at h4; exact ⟨o, rfl, h4⟩
  refine ⟨e1, h1, fun p hp => (each p hp).1, fun p hp => ?_, fun p hp => ?_⟩
  · obtain ⟨_, o, q, z⟩ := each p hp
    rw [← hk] at q ⊢
    exact He.frT_none q z
  · obtain ⟨_, o, q, z⟩ := each p hp
    rw [q, He.emptyTab_eq z]
def hookY (n : Nat) (fa : List He.Fa) (fn : List He.DefD) (tf : List He.Defn) (ex : PySem.W.Frag → Bool) : PySem.W.Hook where
  α := He.AlX
  obs := fun s => obsY n fa fn tf ex s.heap.get?
  val := fun w => He.valX fn [] w
  says := fun w h => ∃ K : PySem.W.Frag, K.In h ∧ He.SaysX fa fn [] tf ex w h K
  of := fun _ _ e => ⟨_, He.frT_in, saysY_of e⟩
  keeps := fun _ _ _ ⟨K, hK, c⟩ k => ⟨K, PySem.W.Frag.In.keeps hK k, ⟨c.t, c.more, c.hd, c.out, fun p hp => k _ _ (c.empty p hp)⟩⟩
theorem obsY_eq {n : Nat} {fa : List He.Fa} {fn : List He.DefD} {tf : List He.Defn} {ex : PySem.W.Frag → Bool} {g : Addr → Option Obj} {s : Shared} (h : ∀ a, g a = s.heap.get? a) : obsY n fa fn tf ex g = (hookY n fa fn tf ex).obs s := by
  have e : g = s.heap.get? := funext h
  rw [e] <;> rfl
end Lw
end

section
set_option Elab.async false
set_option linter.all false
set_option maxRecDepth 100000
set_option maxHeartbeats 4000000
/-! L23: the head of a law with lambdas and own exceptions -/
namespace Lw
open PySem PySem.Spec PyProof.Rows L2 LamX
def hdBodyB : List Stmt → Bool
  | [.Assign [.Tuple [.Name a _, .Name b _] _ _] (.Tuple [.Constant .none _ _, .Constant .none _ _] _ _) _,
     .Try [.Assign [.Name b' _] (.Call (.Name c _) [] [] _) _] [.ExceptHandler (some (.Name p _)) (some e) [.Assign [.Name a3 _] (.Name e' _) _] _] [] [] _,
     .Return (some (.Tuple [.Name a' _, .Name b'' _] _ _)) _] => a == ("caught" : Str) && b == ("back" : Str) && b' == ("back" : Str) && c == ("call" : Str) && a' == ("caught" : Str) && b'' == ("back" : Str) && p == ("PassError" : Str) && e == ("error" : Str) && a3 == ("caught" : Str) && e' == ("error" : Str)
  | _ => false
theorem hdBodyB_ok {bg : List Stmt} (h : hdBodyB bg = true) : HdBody bg := by
  unfold hdBodyB at h
  split at h
  · simp only [Bool.and_eq_true, beq_iff_eq] at h
    obtain ⟨⟨⟨⟨⟨⟨⟨⟨⟨rfl, rfl⟩, rfl⟩, rfl⟩, rfl⟩, rfl⟩, rfl⟩, rfl⟩, rfl⟩, rfl⟩ := h
    exact ⟨_, _, _, _, _, _, _, _, _, _, _, _, _, _, _, _, _, _, _, _, _, _, _, _, _, _, rfl⟩
  · cases h
theorem hdK_of {K : PySem.W.Frag} {mg : Str → Option Value} {CP g : Addr} {fd : FuncData} {pg : Arguments} {bg : List Stmt} {sg : Scope} {kws : List (Str × V)}
    (hm : mg hdN = some (.ref g)) (D : FunD K hdN hdN pg bg sg [] kws g fd) (hs : C8.scC hdNs ["call"] sg = true) (hl : ∀ x ∈ hdNs, sg.names.lookup x = some .local) (hp : sg.names.lookup ("PassError" : Str) = some .globalImplicit) (hb : hdBodyB bg = true)
    (hbind : ∀ (s : Shared) (u : Value), BindsTo s fd ⟨[u], []⟩ [("call", u)]) (hcp : mg "PassError" = some (.ref CP)) : HdK K mg CP := ⟨⟨g, fd, pg, bg, sg, kws, hm, D, hs, hl, hp, hdBodyB_ok hb, hbind⟩, hcp⟩
theorem arK_of {K : PySem.W.Frag} {mg : Str → Option Value} {bl xl : List Str} {g : Addr} {fd : FuncData} {pg : Arguments} {bg : List Stmt} {sg : Scope} {kws : List (Str × V)} (hm : mg arN = some (.ref g)) (D : FunD K arN arN pg bg sg [] kws g fd) (hs : C8.scC ARN ["looks", "is_it", "value"] sg = true)
    (hv : visB (arCk sg bl xl) 0 "looks" = true) (hb : arBodyB sg bl xl bg = true) (hbind : ∀ (s : Shared) (u v w : Value), BindsTo s fd ⟨[u, v, w], []⟩ [("looks", u), ("is_it", v), ("value", w)]) : ArK K mg bl xl := ⟨⟨g, fd, pg, bg, sg, kws, hm, D, hs, hv, hb, hbind⟩⟩
/-- the tables of the defs tf, and the names of the lambdas that each makes -/
def tlOf (K : PySem.W.Frag) (tf : List He.Defn) : List (Addr × Str) := tf.map fun p => ((He.cT K p).2, p.1 ++ ".<locals>." ++ "<lambda>")
def tabsB (K : PySem.W.Frag) (tf : List He.Defn) : Bool := decide (tf.map fun p => (He.cT K p).2).Nodup
theorem nodup_map {α β : Type} {f : α → β} : ∀ {l : List α} {a b : α}, (l.map f).Nodup → a ∈ l → b ∈ l → f a = f b → a = b
  | [], _, _, _, h, _, _ => nomatch h
  | x :: l, a, b, hn, ha, hb, e => by
    rw [List.map_cons, List.nodup_cons] at hn
    rcases List.mem_cons.mp ha with ea | ma
    · rcases List.mem_cons.mp hb with eb | mb
      · rw [ea, eb]
      · refine absurd ?_ hn.1
        rw [← ea, e]
        exact List.mem_map_of_mem mb
    · rcases List.mem_cons.mp hb with eb | mb
      · refine absurd ?_ hn.1
        rw [← eb, ← e]
        exact List.mem_map_of_mem ma
      · exact nodup_map hn.2 ma mb e
theorem hdF_of {K : PySem.W.Frag} {mg : Str → Option Value} {base : Heap} {q : Str} {CP : Addr} {tf : List He.Defn} {xc : Str → Option Addr} (hn : tabsB K tf = true) (hq : (q, none) ∈ tf) (k : HdK K mg CP) (hcp : ∀ C c, xc C = some c → PySem.W.exmOne K (.ref c) (.ref CP) = some true)
    {oc : Value} {od : Option Addr} {osl : Array (Option Value)} {fd' : FuncData} {cdv : Value} (lk : K.lookup (He.fAd K (q, none)) = some ⟨oc, od, .func fd', osl⟩) (hc : fd'.code = cdv) (hcd : PySem.W.codeIn K cdv q = true)
    (TB : TabB base mg (He.cT K (q, none)).1 (He.cT K (q, none)).2) : @HdF ⟨tlOf K tf, xc⟩ K mg base q cdv := by
  letI : TabInfo := ⟨tlOf K tf, xc⟩
  obtain ⟨c, rfl⟩ := He.codeIn_ref hcd
  have e : (He.cT K (q, none)).1 = c := He.codeOf_eq lk hc
  refine ⟨⟨CP, k, ⟨c, (He.cT K (q, none)).2, rfl, by rw [← e]; exact TB, List.mem_map.mpr ⟨_, hq, rfl⟩, fun p hp ep => ?_⟩, hcp⟩⟩
  obtain ⟨r, hr, rfl⟩ := List.mem_map.mp hp
  have := nodup_map (of_decide_eq_true hn) hr hq ep
  rw [this]
end Lw
end

section
set_option Elab.async false
set_option linter.all false
set_option maxRecDepth 100000
set_option maxHeartbeats 0
namespace Lw
open PySem L2 PySem.Spec PyProof.Rows
abbrev PR : Program := PySem.Challenge.pw_howeveritpasses_k94_whole_counters_of_fl
def top (i : Nat) : Stmt := PR.main.body.getD i (.Pass ⟨0, 0, 0, 0⟩)
def CS : List Str := ["MOST_COUNTERS", "MOST_FLOW", "MOST_FLOWS", "SURE", "LIGHT", "MOST_COUNTED"]
def CC : Nat → D := fun i => ([.int 20, .int 1000, .int 500, .str "sure", .str "light", .int 1000000] : List D).getD i .non
def BL : List Str := ["int", "len", "isinstance", "bool", "all", "tuple", "sorted", "zip", "dict", "repr", "range", "set", "list", "sum", "abs", "max", "min"]
def P0 : Nat → M Sl := fun _ => M.bad
/-! 0 _law_take -/
def N0 : List Str := ["pot", "upto", "prime", "blend", "digit"]
def B0 : List S := [.ite (.cmp .Gt (.idx (.var 0) (.int 0)) (.int 0)) [.set 4 (.bop .Mod (.ty .int [(.idx (.var 0) (.int 0))]) (.var 1)), .sidx 0 (.int 0) (.bop .FloorDiv (.idx (.var 0) (.int 0)) (.var 1)), .ret (.mv 4)] [], .sidx 0 (.int 2) (.bop .Add (.idx (.var 0) (.int 2)) (.int 1)), .set 2 (.idx (.lst [(.int 2147483647), (.int 2147483629), (.int 2147483587), (.int 2147483579), (.int 2147483563)]) (.bop .Mod (.ty .int [(.idx (.var 0) (.int 2))]) (.int 5))), .set 3 (.bop .Mod (.ty .int [(.bop .Pow (.ty .int [(.bop .Add (.bop .Add (.idx (.var 0) (.int 1)) (.bop .Mult (.bop .Mult (.int 96179) (.idx (.var 0) (.int 2))) (.idx (.var 0) (.int 2)))) (.int 2131))]) (.int 3))]) (.var 2)), .set 3 (.bop .Mod (.ty .int [(.bop .Mult (.var 3) (.bop .Add (.bop .Mod (.ty .int [(.var 3)]) (.int 11833)) (.bop .Mult (.int 367) (.idx (.var 0) (.int 2)))))]) (.int 2305843009213693907)), .ret (.bop .Mod (.ty .int [(.bop .FloorDiv (.var 3) (.int 191))]) (.var 1))]
def F0 : M Sl := fnS P0 CC 5 [] B0
def P1 : Nat → M Sl := nx P0 0 F0
/-! 1 _law_of -/
def N1 : List Str := ["pot", "some"]
def B1 : List S := [.ret (.idx (.var 1) (.call 0 [(.var 0), (.bi .len [(.var 1)])]))]
def F1 : M Sl := fnS P1 CC 2 [] B1
def P2 : Nat → M Sl := nx P1 1 F1
/-! 2 is_int -/
def N2 : List Str := ["value", "low", "high"]
def B2 : List S := [.ret (.andV (.bi .isinstance [(.var 0), (.tyc "int")]) (.andV (.notV (.bi .isinstance [(.var 0), (.tyc "bool")])) (.chn .LtE .LtE (.var 1) (.var 0) (.var 2))))]
def F2 : M Sl := fnS P2 CC 3 [] B2
def P3 : Nat → M Sl := nx P2 2 F2
/-! 3 look_at_many -/
def N3 : List Str := ["many"]
def B3 : List S := [.ite (.notV (.call 2 [(.var 0), (.int 1), (.cst 0)])) [.raise "BadNumber" (.fz 0)] []]
def F3 : M Sl := fnS P3 CC 1 [] B3
def P4 : Nat → M Sl := nx P3 3 F3
/-! 4 are_flows -/
def N4 : List Str := ["value", "one"]
def B4 : List S := [.ret (.andV (.bi .isinstance [(.var 0), (.tyc "tuple")]) (.andV (.cmp .LtE (.bi .len [(.var 0)]) (.cst 2)) (.bi .all [(.lc (.call 2 [(.var 1), (.int 0), (.cst 1)]) (.nm 1) (.fz 0) [] [1])])))]
def F4 : M Sl := fnS P4 CC 2 [] B4
def P5 : Nat → M Sl := nx P4 4 F4
/-! 5 look_at_flows -/
def N5 : List Str := ["flows"]
def B5 : List S := [.ite (.notV (.call 4 [(.var 0)])) [.raise "BadFlows" (.fz 0)] []]
def F5 : M Sl := fnS P5 CC 1 [] B5
def P6 : Nat → M Sl := nx P5 5 F5
/-! 6 told_counters -/
def N6 : List Str := ["many", "flows", "found", "lessened", "flow", "one"]
def B6 : List S := [.parT [2, 3] [.dict0, (.int 0)], .for_ (.nm 4) (.fz 1) [.ite (.orV (.cmp .In (.var 4) (.var 2)) (.cmp .Lt (.bi .len [(.var 2)]) (.var 0))) [.dset 2 (.fz 4) (.bop .Add (.dget 2 (.var 4) (.int 0)) (.int 1))] [.set 2 (.dc (.fz 5) (.bop .Sub (.idx (.var 2) (.var 5)) (.int 1)) (.nm 5) (.keys 2) [(.cmp .Gt (.idx (.var 2) (.var 5)) (.int 1))] [5]), .aug 3 .Add (.int 1)]], .ret (.tup [(.fz 2), (.fz 3)])]
def F6 : M Sl := fnS P6 CC 6 [] B6
def P7 : Nat → M Sl := nx P6 6 F6
/-! 7 counters -/
def N7 : List Str := ["many", "flows", "found", "lessened"]
def B7 : List S := [.ex (.call 3 [(.var 0)]), .ex (.call 5 [(.var 1)]), .setT (.tup [(.nm 2), (.nm 3)]) (.call 6 [(.var 0), (.var 1)]), .ret (.tup [(.ptup (.sitems (.var 2))), (.fz 3)])]
def F7 : M Sl := fnS P7 CC 4 [] B7
def P8 : Nat → M Sl := nx P7 7 F7
/-! 8 told_amounts -/
def N8 : List Str := ["flows", "found", "flow"]
def B8 : List S := [.set 1 .dict0, .for_ (.nm 2) (.fz 0) [.dset 1 (.fz 2) (.bop .Add (.dget 1 (.var 2) (.int 0)) (.int 1))], .ret (.mv 1)]
def F8 : M Sl := fnS P8 CC 3 [] B8
def P9 : Nat → M Sl := nx P8 8 F8
/-! 9 told_heavy -/
def N9 : List Str := ["flows", "parts", "counts", "flow"]
def B9 : List S := [.set 2 (.call 8 [(.var 0)]), .ret (.ty .tuple [(.bi .sorted [(.lc (.fz 3) (.nm 3) (.keys 2) [(.cmp .Gt (.bop .Mult (.idx (.var 2) (.var 3)) (.var 1)) (.bi .len [(.var 0)]))] [3])])])]
def F9 : M Sl := fnS P9 CC 4 [] B9
def P10 : Nat → M Sl := nx P9 9 F9
/-! 10 heavy -/
def N10 : List Str := ["flows", "parts"]
def B10 : List S := [.ex (.call 5 [(.var 0)]), .ite (.notV (.call 2 [(.var 1), (.int 1), (.bop .Add (.cst 0) (.int 1))])) [.raise "BadNumber" (.fz 1)] [], .ret (.call 9 [(.var 0), (.var 1)])]
def F10 : M Sl := fnS P10 CC 2 [] B10
def P11 : Nat → M Sl := nx P10 10 F10
/-! 11 sure_by -/
def N11 : List Str := ["many", "flows", "flow", "found", "lessened", "count"]
def B11 : List S := [.ex (.call 3 [(.var 0)]), .ex (.call 5 [(.var 1)]), .ite (.notV (.call 2 [(.var 2), (.int 0), (.cst 1)])) [.raise "BadNumber" (.fz 2)] [], .setT (.tup [(.nm 3), (.nm 4)]) (.call 6 [(.var 0), (.var 1)]), .set 5 (.dget 3 (.var 2) (.int 0)), .ite (.cmp .Gt (.bop .Mult (.var 5) (.bop .Add (.var 0) (.int 1))) (.bi .len [(.var 1)])) [.ret (.cst 3)] [], .ret (.ite (.cmp .LtE (.bop .Mult (.bop .Add (.var 5) (.var 4)) (.bop .Add (.var 0) (.int 1))) (.bi .len [(.var 1)])) (.cst 4) .non)]
def F11 : M Sl := fnS P11 CC 6 [] B11
def P12 : Nat → M Sl := nx P11 11 F11
/-! 12 most_lost -/
def N12 : List Str := ["many", "packets"]
def B12 : List S := [.ex (.call 3 [(.var 0)]), .ite (.notV (.call 2 [(.var 1), (.int 0), (.cst 5)])) [.raise "BadNumber" (.fz 1)] [], .ret (.bop .FloorDiv (.var 1) (.bop .Add (.var 0) (.int 1)))]
def F12 : M Sl := fnS P12 CC 2 [] B12
def P13 : Nat → M Sl := nx P12 12 F12
/-! 13 are_counters -/
def N13 : List Str := ["value", "row", "one", "other"]
def B13 : List S := [.ite (.orV (.notV (.bi .isinstance [(.var 0), (.tyc "tuple")])) (.cmp .Gt (.bi .len [(.var 0)]) (.cst 0))) [.ret (.bl false)] [], .for_ (.nm 1) (.fz 0) [.ite (.orV (.notV (.bi .isinstance [(.var 1), (.tyc "tuple")])) (.cmp .NotEq (.bi .len [(.var 1)]) (.int 2))) [.ret (.bl false)] [], .ite (.orV (.notV (.call 2 [(.idx (.var 1) (.int 0)), (.int 0), (.cst 1)])) (.notV (.call 2 [(.idx (.var 1) (.int 1)), (.int 1), (.cst 5)]))) [.ret (.bl false)] []], .ret (.bi .all [(.lc (.cmp .Lt (.idx (.var 2) (.int 0)) (.idx (.var 3) (.int 0))) (.tup [(.nm 2), (.nm 3)]) (.zip (.fz 0) (.slc (.var 0) (.int 1) .non)) [] [2, 3])])]
def F13 : M Sl := fnS P13 CC 4 [] B13
def P14 : Nat → M Sl := nx P13 13 F13
/-! 14 merged -/
def N14 : List Str := ["many", "one", "other", "some", "found", "flow", "count", "counts", "less"]
def B14 : List S := [.ex (.call 3 [(.var 0)]), .for_ (.nm 3) (.tup [(.weak (.fz 1)), (.weak (.fz 2))]) [.ite (.orV (.notV (.call 13 [(.var 3)])) (.cmp .Gt (.bi .len [(.var 3)]) (.var 0))) [.raise "BadCounters" (.fz 3)] []], .set 4 (.pdict 1), .for_ (.tup [(.nm 5), (.nm 6)]) (.fz 2) [.dset 4 (.fz 5) (.bop .Add (.dget 4 (.var 5) (.int 0)) (.var 6))], .set 7 (.rev (.svals (.var 4))), .set 8 (.ite (.cmp .Gt (.bi .len [(.var 7)]) (.var 0)) (.idx (.var 7) (.var 0)) (.int 0)), .ret (.tup [(.ty .tuple [(.bi .sorted [(.lc (.tup [(.fz 5), (.bop .Sub (.idx (.var 4) (.var 5)) (.var 8))]) (.nm 5) (.keys 4) [(.cmp .Gt (.idx (.var 4) (.var 5)) (.var 8))] [5])])]), (.fz 8)])]
def F14 : M Sl := fnS P14 CC 9 [] B14
def P15 : Nat → M Sl := nx P14 14 F14
/-! 15 _law_are_refused -/
def N15 : List Str := ["pot", "many", "flows", "odd", "looks", "caught", "look", "miss"]
def B15 : List S := [.set 3 (.call 1 [(.var 0), (.lst [.non, (.lst [(.int 1)]), (.tup [(.neg (.int 1))]), (.tup [(.int 1001)]), (.tup [(.bl true)]), (.tup [(.str "1")]), (.bop .Mult (.tup [(.int 0)]) (.int 501)), (.int 5)])]), .hears 4 5 [(.call 7 [(.var 1), (.var 3)]), (.call 10 [(.var 3), .non]), (.call 11 [(.var 1), (.var 3), .non])], .ite (.notV (.bi .all [(.lc (.andV (.isx (.var 7) "BadFlows") (.cmp .Eq (.bi .repr [(.xval (.var 7))]) (.bi .repr [(.var 3)]))) (.nm 7) (.fz 5) [] [7])])) [.ret (.bl false)] [], .set 3 (.call 1 [(.var 0), (.lst [.non, (.neg (.int 1)), (.int 0), (.bop .Pow (.int 10) (.int 7)), (.bl true), (.str "1")])]), .hears 4 5 [(.call 7 [(.var 3), .non]), (.call 12 [(.var 3), .non]), (.call 12 [(.var 1), (.ite (.cmp .NotEq (.var 3) (.int 0)) (.fz 3) (.neg (.int 1)))]), (.call 10 [(.var 2), (.var 3)]), (.call 11 [(.var 3), .non, .non]), (.call 11 [(.var 1), (.var 2), (.ite (.cmp .NotEq (.var 3) (.int 0)) (.fz 3) (.neg (.int 1)))]), (.call 14 [(.var 3), .non, .non])], .ite (.notV (.bi .all [(.lc (.andV (.isx (.var 7) "BadNumber") (.cmp .In (.bi .repr [(.xval (.var 7))]) (.tup [(.bi .repr [(.var 3)]), (.str "-1")]))) (.nm 7) (.fz 5) [] [7])])) [.ret (.bl false)] [], .set 3 (.call 1 [(.var 0), (.lst [.non, (.lst []), (.tup [(.tup [(.int 1)])]), (.tup [(.tup [(.int 1), (.int 0)])]), (.tup [(.tup [(.int 2), (.int 1)]), (.tup [(.int 1), (.int 1)])]), (.tup [(.tup [(.int 1), (.int 1)]), (.tup [(.int 1), (.int 2)])]), (.tup [(.tup [(.int 1), (.bl true)])]), (.tup [(.tup [(.int 1001), (.int 1)])])])]), .hears 4 5 [(.call 14 [(.var 1), (.var 3), .non]), (.call 14 [(.var 1), (.tup []), (.var 3)]), (.call 14 [(.int 1), (.tup [(.tup [(.int 1), (.int 1)])]), (.var 3)])], .ret (.bi .all [(.lc (.andV (.isx (.var 7) "BadCounters") (.cmp .Eq (.bi .repr [(.xval (.var 7))]) (.bi .repr [(.var 3)]))) (.nm 7) (.fz 5) [] [7])])]
def F15 : M Sl := fnS P15 CC 8 [] B15
def P16 : Nat → M Sl := nx P15 15 F15
/-! 16 _law_flows_drawn -/
def N16 : List Str := ["pot", "some", "lap"]
def B16 : List S := [.set 1 (.lc (.ty .int [(.call 0 [(.var 0), (.int 1001)])]) (.nm 2) (.rng1 (.bop .Add (.int 1) (.call 0 [(.var 0), (.int 7)]))) [] [2]), .ret (.ptup (.lc (.call 1 [(.var 0), (.slc (.var 1) .non (.bop .Add (.int 1) (.call 0 [(.var 0), (.bi .len [(.var 1)])])))]) (.nm 2) (.rng1 (.call 0 [(.var 0), (.int 41)])) [] [2]))]
def F16 : M Sl := fnS P16 CC 3 [] B16
def P17 : Nat → M Sl := nx P16 16 F16
/-! 17 _law_counted -/
def N17 : List Str := ["many", "flows", "found", "lessened", "flow", "one"]
def B17 : List S := [.parT [2, 3] [.dict0, (.int 0)], .for_ (.nm 4) (.fz 1) [.ite (.cmp .In (.var 4) (.var 2)) [.dset 2 (.fz 4) (.bop .Add (.idx (.var 2) (.var 4)) (.int 1))] [.ite (.cmp .Lt (.bi .len [(.var 2)]) (.var 0)) [.dset 2 (.fz 4) (.int 1)] [.set 2 (.dictl (.lc (.tup [(.fz 5), (.bop .Sub (.idx (.var 2) (.var 5)) (.int 1))]) (.nm 5) (.keys 2) [] [5])), .set 2 (.dictl (.lc (.tup [(.fz 5), (.idx (.var 2) (.var 5))]) (.nm 5) (.keys 2) [(.cmp .Gt (.idx (.var 2) (.var 5)) (.int 0))] [5])), .set 3 (.bop .Add (.var 3) (.int 1))]]], .ret (.tup [(.fz 2), (.fz 3)])]
def F17 : M Sl := fnS P17 CC 6 [] B17
def P18 : Nat → M Sl := nx P17 17 F17
/-! 18 _law_is_right -/
def N18 : List Str := ["pot", "many", "flows", "found", "lessened", "parts", "due", "flow", "came", "count", "told"]
def B18 : List S := [.setT (.tup [(.nm 3), (.nm 4)]) (.call 17 [(.var 1), (.var 2)]), .ite (.cmp .NotEq (.bi .repr [(.call 7 [(.var 1), (.var 2)])]) (.bi .repr [(.tup [(.ty .tuple [(.sitems (.var 3))]), (.fz 4)])])) [.ret (.bl false)] [], .ite (.orV (.cmp .Gt (.var 4) (.call 12 [(.var 1), (.bi .len [(.var 2)])])) (.cmp .NotEq (.call 12 [(.var 1), (.bi .len [(.var 2)])]) (.bop .FloorDiv (.bi .len [(.var 2)]) (.bop .Add (.var 1) (.int 1))))) [.ret (.bl false)] [], .set 5 (.bop .Add (.int 1) (.ty .int [(.call 0 [(.var 0), (.int 21)])])), .set 6 (.ty .tuple [(.lc (.fz 7) (.nm 7) (.isort (.var 2)) [(.cmp .Gt (.bop .Mult (.tcnt 2 (.var 7)) (.var 5)) (.bi .len [(.var 2)]))] [7])]), .ite (.cmp .NotEq (.bi .repr [(.call 10 [(.var 2), (.var 5)])]) (.bi .repr [(.var 6)])) [.ret (.bl false)] [], .ite (.notV (.bi .all [(.lc (.cmp .In (.var 7) (.var 3)) (.nm 7) (.call 10 [(.var 2), (.bop .Add (.var 1) (.int 1))]) [] [7])])) [.ret (.bl false)] [], .for_ (.nm 7) (.bop .Add (.isort (.var 2)) (.lst [(.ty .int [(.call 0 [(.var 0), (.int 1001)])])])) [.par [8, 9] [(.tcnt 2 (.var 7)), (.dget 3 (.var 7) (.int 0))], .ite (.notV (.chn .LtE .LtE (.bop .Sub (.var 8) (.var 4)) (.var 9) (.var 8))) [.ret (.bl false)] [], .set 10 (.call 11 [(.var 1), (.var 2), (.var 7)]), .set 6 (.ite (.cmp .LtE (.bop .Mult (.bop .Add (.var 9) (.var 4)) (.bop .Add (.var 1) (.int 1))) (.bi .len [(.var 2)])) (.str "light") .non), .ite (.cmp .NotEq (.var 10) (.ite (.cmp .Gt (.bop .Mult (.var 9) (.bop .Add (.var 1) (.int 1))) (.bi .len [(.var 2)])) (.str "sure") (.fz 6))) [.ret (.bl false)] [], .ite (.orV (.andV (.cmp .Eq (.var 10) (.str "sure")) (.cmp .LtE (.bop .Mult (.var 8) (.bop .Add (.var 1) (.int 1))) (.bi .len [(.var 2)]))) (.andV (.cmp .Eq (.var 10) (.str "light")) (.cmp .Gt (.bop .Mult (.var 8) (.bop .Add (.var 1) (.int 1))) (.bi .len [(.var 2)])))) [.ret (.bl false)] []], .ret (.bl true)]
def F18 : M Sl := fnS P18 CC 11 [] B18
def P19 : Nat → M Sl := nx P18 18 F18
/-! 19 _law_is_merged_right -/
def N19 : List Str := ["many", "flows", "others", "one", "other", "rows", "less", "added", "flow", "count", "counts", "due", "left", "lost", "both", "told"]
def B19 : List S := [.par [3, 4] [(.call 7 [(.var 0), (.var 1)]), (.call 7 [(.var 0), (.var 2)])], .setT (.tup [(.nm 5), (.nm 6)]) (.call 14 [(.var 0), (.idx (.var 3) (.int 0)), (.idx (.var 4) (.int 0))]), .set 7 (.dictl (.ty .list [(.idx (.var 3) (.int 0))])), .for_ (.tup [(.nm 8), (.nm 9)]) (.idx (.var 4) (.int 0)) [.dset 7 (.fz 8) (.bop .Add (.dget 7 (.var 8) (.int 0)) (.var 9))], .set 10 (.rev (.bi .sorted [(.lc (.idx (.var 7) (.var 8)) (.nm 8) (.keys 7) [] [8])])), .set 11 (.ite (.cmp .Gt (.bi .len [(.var 10)]) (.var 0)) (.idx (.var 10) (.var 0)) (.int 0)), .set 12 (.ty .tuple [(.bi .sorted [(.lc (.tup [(.fz 8), (.bop .Sub (.idx (.var 7) (.var 8)) (.var 11))]) (.nm 8) (.keys 7) [(.cmp .Gt (.idx (.var 7) (.var 8)) (.var 11))] [8])])]), .ite (.orV (.cmp .NotEq (.bi .repr [(.tup [(.fz 5), (.fz 6)])]) (.bi .repr [(.tup [(.fz 12), (.fz 11)])])) (.cmp .Gt (.bi .len [(.var 5)]) (.var 0))) [.ret (.bl false)] [], .setT (.tup [(.nm 13), (.nm 14)]) (.tup [(.bop .Add (.bop .Add (.idx (.var 3) (.int 1)) (.idx (.var 4) (.int 1))) (.var 6)), (.pcat 1 2)]), .ite (.cmp .Gt (.bop .Mult (.var 13) (.bop .Add (.var 0) (.int 1))) (.bi .len [(.var 14)])) [.ret (.bl false)] [], .set 15 (.dictl (.ty .list [(.var 5)])), .ret (.bi .all [(.lc (.chn .LtE .LtE (.bop .Sub (.tcnt 14 (.var 8)) (.var 13)) (.dget 15 (.var 8) (.int 0)) (.tcnt 14 (.var 8))) (.nm 8) (.isort (.var 14)) [] [8])])]
def F19 : M Sl := fnS P19 CC 16 [] B19
def P20 : Nat → M Sl := nx P19 19 F19
/-! 20 _law_right -/
def N20 : List Str := ["pot", "lap", "caught", "many", "flows"]
def B20 : List S := [.for_ (.nm 1) (.rng1 (.int 3)) [.par [3, 4] [(.bop .Add (.int 1) (.ty .int [(.call 0 [(.var 0), (.int 5)])])), (.call 16 [(.var 0)])], .ite (.orV (.notV (.call 18 [(.var 0), (.var 3), (.var 4)])) (.notV (.call 19 [(.var 3), (.var 4), (.call 16 [(.var 0)])]))) [.ret (.bl false)] []], .set 2 (.idx (.heard (.call 14 [(.int 1), (.tup [(.tup [(.int 1), (.int 1)]), (.tup [(.int 2), (.int 2)])]), (.tup [])])) (.int 0)), .ite (.orV (.notV (.isx (.var 2) "BadCounters")) (.cmp .NotEq (.bi .repr [(.xval (.var 2))]) (.str "((1, 1), (2, 2))"))) [.ret (.bl false)] [], .ret (.call 15 [(.var 0), (.var 3), (.var 4)])]
def F20 : M Sl := fnS P20 CC 5 [] B20
def P21 : Nat → M Sl := nx P20 20 F20
/-! 21 _law_pot -/
def N21 : List Str := ["script", "place", "cell", "own", "small"]
def B21 : List S := [.set 2 (.ite (.cmp .Lt (.var 1) (.bi .len [(.var 0)])) (.idx (.var 0) (.var 1)) (.bop .Add (.bop .Add (.bop .Mod (.ty .int [(.bi .sum [(.slc (.var 0) .non (.int 1))])]) (.int 999979)) (.bop .Mult (.int 3389) (.var 1))) (.int 2131))), .set 3 (.bop .Mult (.bop .Mod (.ty .int [(.bi .abs [(.var 2)])]) (.bop .Pow (.bop .Pow (.int 10) (.int 60)) (.int 5))) (.ty .int [(.cmp .GtE (.bi .abs [(.var 2)]) (.bop .Pow (.int 10) (.int 18)))])), .set 4 (.bop .Mod (.ty .int [(.var 2)]) (.int 2305843009213693951)), .ret (.lst [(.fz 3), (.bop .Mod (.ty .int [(.bop .Add (.bop .Add (.bop .Mult (.var 4) (.int 84313)) (.bop .Mult (.bop .Mult (.int 11257) (.var 1)) (.var 1))) (.int 1847))]) (.int 2305843009213693921)), (.int 0)])]
def F21 : M Sl := fnS P21 CC 5 [] B21
def P22 : Nat → M Sl := nx P21 21 F21
/-! 22 _law_cells -/
def N22 : List Str := ["script", "most"]
def B22 : List S := [.ret (.lr1 (.bi .max [(.int 1), (.bi .min [(.var 1), (.bi .len [(.var 0)])])]))]
def F22 : M Sl := fnS P22 CC 2 [] B22
def P23 : Nat → M Sl := nx P22 22 F22
/-! 23 law -/
def N23 : List Str := ["script", "place"]
def B23 : List S := [.ret (.bi .all [(.lc (.call 20 [(.call 21 [(.var 0), (.var 1)])]) (.nm 1) (.call 22 [(.var 0), (.int 3)]) [] [1])])]
def F23 : M Sl := fnS P23 CC 2 [] B23
def P24 : Nat → M Sl := nx P23 23 F23
def FS : List FnE := [⟨"_law_take", 2, []⟩, ⟨"_law_of", 2, []⟩, ⟨"is_int", 3, []⟩, ⟨"look_at_many", 1, []⟩, ⟨"are_flows", 1, []⟩, ⟨"look_at_flows", 1, []⟩, ⟨"told_counters", 2, []⟩, ⟨"counters", 2, [(1, ["flows"])]⟩, ⟨"told_amounts", 1, []⟩, ⟨"told_heavy", 2, []⟩, ⟨"heavy", 2, [(1, ["parts"])]⟩, ⟨"sure_by", 3, [(2, ["flow"])]⟩, ⟨"most_lost", 2, [(1, ["packets"])]⟩, ⟨"are_counters", 1, []⟩, ⟨"merged", 3, [(2, ["other"])]⟩, ⟨"_law_are_refused", 3, []⟩, ⟨"_law_flows_drawn", 1, []⟩, ⟨"_law_counted", 2, []⟩, ⟨"_law_is_right", 3, []⟩, ⟨"_law_is_merged_right", 3, []⟩, ⟨"_law_right", 1, []⟩, ⟨"_law_pot", 2, []⟩, ⟨"_law_cells", 2, []⟩, ⟨"law", 1, []⟩]
def XL : List Str := ["PassError", "BadNumber", "BadFlows", "BadCounters"]
theorem sc0 : C8.scC N0 ["pot", "upto"] (defScope (top 28)) = true := by decide +kernel
theorem ck0 : chkSs B0 ⟨N0, defScope (top 28), FS.take 0, CS, BL, [2, 3, 4], true, false, XL, false⟩ (defBody (top 28)) = true := by decide +kernel
theorem sc1 : C8.scC N1 ["pot", "some"] (defScope (top 29)) = true := by decide +kernel
theorem ck1 : chkSs B1 ⟨N1, defScope (top 29), FS.take 1, CS, BL, [], true, false, XL, false⟩ (defBody (top 29)) = true := by decide +kernel
theorem sc2 : C8.scC N2 ["value", "low", "high"] (defScope (top 6)) = true := by decide +kernel
theorem ck2 : chkSs B2 ⟨N2, defScope (top 6), FS.take 2, CS, BL, [], true, false, XL, false⟩ (defBody (top 6)) = true := by decide +kernel
theorem sc3 : C8.scC N3 ["many"] (defScope (top 16)) = true := by decide +kernel
theorem ck3 : chkSs B3 ⟨N3, defScope (top 16), FS.take 3, CS, BL, [], true, false, XL, false⟩ (defBody (top 16)) = true := by decide +kernel
theorem sc4 : C8.scC N4 ["value"] (defScope (top 14)) = true := by decide +kernel
theorem ck4 : chkSs B4 ⟨N4, defScope (top 14), FS.take 4, CS, BL, [], true, false, XL, false⟩ (defBody (top 14)) = true := by decide +kernel
theorem sc5 : C8.scC N5 ["flows"] (defScope (top 15)) = true := by decide +kernel
theorem ck5 : chkSs B5 ⟨N5, defScope (top 15), FS.take 5, CS, BL, [], true, false, XL, false⟩ (defBody (top 15)) = true := by decide +kernel
theorem sc6 : C8.scC N6 ["many", "flows"] (defScope (top 19)) = true := by decide +kernel
theorem ck6 : chkSs B6 ⟨N6, defScope (top 19), FS.take 6, CS, BL, [2, 3, 4], true, false, XL, false⟩ (defBody (top 19)) = true := by decide +kernel
theorem sc7 : C8.scC N7 ["many", "flows"] (defScope (top 20)) = true := by decide +kernel
theorem ck7 : chkSs B7 ⟨N7, defScope (top 20), FS.take 7, CS, BL, [2, 3], true, false, XL, false⟩ (defBody (top 20)) = true := by decide +kernel
theorem sc8 : C8.scC N8 ["flows"] (defScope (top 18)) = true := by decide +kernel
theorem ck8 : chkSs B8 ⟨N8, defScope (top 18), FS.take 8, CS, BL, [1, 2], true, false, XL, false⟩ (defBody (top 18)) = true := by decide +kernel
theorem sc9 : C8.scC N9 ["flows", "parts"] (defScope (top 22)) = true := by decide +kernel
theorem ck9 : chkSs B9 ⟨N9, defScope (top 22), FS.take 9, CS, BL, [2], true, false, XL, false⟩ (defBody (top 22)) = true := by decide +kernel
theorem sc10 : C8.scC N10 ["flows", "parts"] (defScope (top 23)) = true := by decide +kernel
theorem ck10 : chkSs B10 ⟨N10, defScope (top 23), FS.take 10, CS, BL, [], true, false, XL, false⟩ (defBody (top 23)) = true := by decide +kernel
theorem sc11 : C8.scC N11 ["many", "flows", "flow"] (defScope (top 24)) = true := by decide +kernel
theorem ck11 : chkSs B11 ⟨N11, defScope (top 24), FS.take 11, CS, BL, [3, 4, 5], true, false, XL, false⟩ (defBody (top 24)) = true := by decide +kernel
theorem sc12 : C8.scC N12 ["many", "packets"] (defScope (top 21)) = true := by decide +kernel
theorem ck12 : chkSs B12 ⟨N12, defScope (top 21), FS.take 12, CS, BL, [], true, false, XL, false⟩ (defBody (top 21)) = true := by decide +kernel
theorem sc13 : C8.scC N13 ["value"] (defScope (top 17)) = true := by decide +kernel
theorem ck13 : chkSs B13 ⟨N13, defScope (top 17), FS.take 13, CS, BL, [1], true, false, XL, false⟩ (defBody (top 17)) = true := by decide +kernel
theorem sc14 : C8.scC N14 ["many", "one", "other"] (defScope (top 25)) = true := by decide +kernel
theorem ck14 : chkSs B14 ⟨N14, defScope (top 25), FS.take 14, CS, BL, [3, 4, 5, 6, 7, 8], true, false, XL, false⟩ (defBody (top 25)) = true := by decide +kernel
theorem sc15 : C8.scC N15 ["pot", "many", "flows"] (defScope (top 36)) = true := by decide +kernel
theorem ck15 : chkSs B15 ⟨N15, defScope (top 36), FS.take 15, CS, BL, [3, 4, 5], true, true, XL, false⟩ (defBody (top 36)) = true := by decide +kernel
theorem sc16 : C8.scC N16 ["pot"] (defScope (top 33)) = true := by decide +kernel
theorem ck16 : chkSs B16 ⟨N16, defScope (top 33), FS.take 16, CS, BL, [1], true, false, XL, false⟩ (defBody (top 33)) = true := by decide +kernel
theorem sc17 : C8.scC N17 ["many", "flows"] (defScope (top 32)) = true := by decide +kernel
theorem ck17 : chkSs B17 ⟨N17, defScope (top 32), FS.take 17, CS, BL, [2, 3, 4], true, false, XL, false⟩ (defBody (top 32)) = true := by decide +kernel
theorem sc18 : C8.scC N18 ["pot", "many", "flows"] (defScope (top 34)) = true := by decide +kernel
theorem ck18 : chkSs B18 ⟨N18, defScope (top 34), FS.take 18, CS, BL, [3, 4, 5, 6, 7, 8, 9, 10], true, false, XL, false⟩ (defBody (top 34)) = true := by decide +kernel
theorem sc19 : C8.scC N19 ["many", "flows", "others"] (defScope (top 35)) = true := by decide +kernel
theorem ck19 : chkSs B19 ⟨N19, defScope (top 35), FS.take 19, CS, BL, [3, 4, 5, 6, 7, 8, 9, 10, 11, 12, 13, 14, 15], true, false, XL, false⟩ (defBody (top 35)) = true := by decide +kernel
theorem sc20 : C8.scC N20 ["pot"] (defScope (top 37)) = true := by decide +kernel
theorem ck20 : chkSs B20 ⟨N20, defScope (top 37), FS.take 20, CS, BL, [1, 2, 3, 4], true, true, XL, false⟩ (defBody (top 37)) = true := by decide +kernel
theorem sc21 : C8.scC N21 ["script", "place"] (defScope (top 27)) = true := by decide +kernel
theorem ck21 : chkSs B21 ⟨N21, defScope (top 27), FS.take 21, CS, BL, [2, 3, 4], true, false, XL, false⟩ (defBody (top 27)) = true := by decide +kernel
theorem sc22 : C8.scC N22 ["script", "most"] (defScope (top 30)) = true := by decide +kernel
theorem ck22 : chkSs B22 ⟨N22, defScope (top 30), FS.take 22, CS, BL, [], true, false, XL, false⟩ (defBody (top 30)) = true := by decide +kernel
theorem sc23 : C8.scC N23 ["script"] (defScope (top 38)) = true := by decide +kernel
theorem ck23 : chkSs B23 ⟨N23, defScope (top 38), FS.take 23, CS, BL, [], true, false, XL, false⟩ (defBody (top 38)) = true := by decide +kernel
def d__law_take : He.DefD := ⟨("_law_take", none), "_law_take", "_law_take", defArgs (top 28), defBody (top 28), defScope (top 28), [], []⟩
def d__law_of : He.DefD := ⟨("_law_of", none), "_law_of", "_law_of", defArgs (top 29), defBody (top 29), defScope (top 29), [], []⟩
def d_is_int : He.DefD := ⟨("is_int", none), "is_int", "is_int", defArgs (top 6), defBody (top 6), defScope (top 6), [], []⟩
def d_look_at_many : He.DefD := ⟨("look_at_many", none), "look_at_many", "look_at_many", defArgs (top 16), defBody (top 16), defScope (top 16), [], []⟩
def d_are_flows : He.DefD := ⟨("are_flows", none), "are_flows", "are_flows", defArgs (top 14), defBody (top 14), defScope (top 14), [], []⟩
def d_look_at_flows : He.DefD := ⟨("look_at_flows", none), "look_at_flows", "look_at_flows", defArgs (top 15), defBody (top 15), defScope (top 15), [], []⟩
def d_told_counters : He.DefD := ⟨("told_counters", none), "told_counters", "told_counters", defArgs (top 19), defBody (top 19), defScope (top 19), [], []⟩
def d_counters : He.DefD := ⟨("counters", none), "counters", "counters", defArgs (top 20), defBody (top 20), defScope (top 20), [], []⟩
def d_told_amounts : He.DefD := ⟨("told_amounts", none), "told_amounts", "told_amounts", defArgs (top 18), defBody (top 18), defScope (top 18), [], []⟩
def d_told_heavy : He.DefD := ⟨("told_heavy", none), "told_heavy", "told_heavy", defArgs (top 22), defBody (top 22), defScope (top 22), [], []⟩
def d_heavy : He.DefD := ⟨("heavy", none), "heavy", "heavy", defArgs (top 23), defBody (top 23), defScope (top 23), [], []⟩
def d_sure_by : He.DefD := ⟨("sure_by", none), "sure_by", "sure_by", defArgs (top 24), defBody (top 24), defScope (top 24), [], []⟩
def d_most_lost : He.DefD := ⟨("most_lost", none), "most_lost", "most_lost", defArgs (top 21), defBody (top 21), defScope (top 21), [], []⟩
def d_are_counters : He.DefD := ⟨("are_counters", none), "are_counters", "are_counters", defArgs (top 17), defBody (top 17), defScope (top 17), [], []⟩
def d_merged : He.DefD := ⟨("merged", none), "merged", "merged", defArgs (top 25), defBody (top 25), defScope (top 25), [], []⟩
def d__law_are_refused : He.DefD := ⟨("_law_are_refused", none), "_law_are_refused", "_law_are_refused", defArgs (top 36), defBody (top 36), defScope (top 36), [], []⟩
def d__law_flows_drawn : He.DefD := ⟨("_law_flows_drawn", none), "_law_flows_drawn", "_law_flows_drawn", defArgs (top 33), defBody (top 33), defScope (top 33), [], []⟩
def d__law_counted : He.DefD := ⟨("_law_counted", none), "_law_counted", "_law_counted", defArgs (top 32), defBody (top 32), defScope (top 32), [], []⟩
def d__law_is_right : He.DefD := ⟨("_law_is_right", none), "_law_is_right", "_law_is_right", defArgs (top 34), defBody (top 34), defScope (top 34), [], []⟩
def d__law_is_merged_right : He.DefD := ⟨("_law_is_merged_right", none), "_law_is_merged_right", "_law_is_merged_right", defArgs (top 35), defBody (top 35), defScope (top 35), [], []⟩
def d__law_right : He.DefD := ⟨("_law_right", none), "_law_right", "_law_right", defArgs (top 37), defBody (top 37), defScope (top 37), [], []⟩
def d__law_pot : He.DefD := ⟨("_law_pot", none), "_law_pot", "_law_pot", defArgs (top 27), defBody (top 27), defScope (top 27), [], []⟩
def d__law_cells : He.DefD := ⟨("_law_cells", none), "_law_cells", "_law_cells", defArgs (top 30), defBody (top 30), defScope (top 30), [], []⟩
def d_law : He.DefD := ⟨("law", none), "law", "law", defArgs (top 38), defBody (top 38), defScope (top 38), [], []⟩
def d__law_heard : He.DefD := ⟨("_law_heard", none), "_law_heard", "_law_heard", defArgs (top 31), defBody (top 31), defScope (top 31), [], []⟩
def fnL : List He.DefD := ([d__law_take, d__law_of, d_is_int, d_look_at_many, d_are_flows, d_look_at_flows, d_told_counters, d_counters, d_told_amounts, d_told_heavy, d_heavy, d_sure_by, d_most_lost, d_are_counters, d_merged, d__law_are_refused, d__law_flows_drawn, d__law_counted, d__law_is_right, d__law_is_merged_right, d__law_right, d__law_pot, d__law_cells, d_law, d__law_heard] : List He.DefD)
def faL : List He.Fa := ([.glo "_law_take", .glo "_law_of", .glo "is_int", .glo "look_at_many", .glo "are_flows", .glo "look_at_flows", .glo "told_counters", .glo "counters", .glo "told_amounts", .glo "told_heavy", .glo "heavy", .glo "sure_by", .glo "most_lost", .glo "are_counters", .glo "merged", .glo "_law_are_refused", .glo "_law_flows_drawn", .glo "_law_counted", .glo "_law_is_right", .glo "_law_is_merged_right", .glo "_law_right", .glo "_law_pot", .glo "_law_cells", .glo "law", .glo "_law_heard", .free "int", .free "len", .free "isinstance", .free "bool", .free "all"] : List He.Fa) ++ ([.free "tuple", .free "sorted", .free "zip", .free "dict", .free "repr", .free "range", .free "set", .free "list", .free "sum", .free "abs", .free "max", .free "min", .int "MOST_COUNTERS" 20, .int "MOST_FLOW" 1000, .int "MOST_FLOWS" 500, .str "SURE" "sure", .str "LIGHT" "light", .int "MOST_COUNTED" 1000000, .glo "PassError", .glo "BadNumber", .glo "BadFlows", .glo "BadCounters", .free "super"] : List He.Fa)
def loose : List Str := (["__name__", "PassError", "BadNumber", "BadFlows", "BadCounters", "is_int", "MOST_FLOWS", "MOST_FLOW", "MOST_COUNTERS", "MOST_COUNTED", "SURE", "LIGHT", "are_flows", "look_at_flows", "look_at_many", "are_counters", "told_amounts", "told_counters", "counters", "most_lost", "told_heavy", "heavy", "sure_by", "merged", "_law_pot", "_law_take", "_law_of", "_law_cells", "_law_heard", "_law_counted"] : List Str) ++ (["_law_flows_drawn", "_law_is_right", "_law_is_merged_right", "_law_are_refused", "_law_right"] : List Str)
abbrev RR : PySem.W.OpenRow := PySem.W.OpenLaw.row PySem.Challenge.rw_howeveritpasses_k94_whole_counters_of_fl
def tfL : List He.Defn := [("_law_are_refused", none), ("_law_right", none)]
def exB (K : PySem.W.Frag) : Bool := tabsB K tfL && xcB PR.main.file XL K
abbrev hk : PySem.W.Hook := hookY 5 faL fnL tfL exB
def ob (s : PySem.W.SharedT) : He.AlX := obsY 5 faL fnL tfL exB (HandSHeadRun.getT s)
theorem ob_eq (s : PySem.W.SharedT) : ob s = hk.obs s.abs := obsY_eq (HandSHeadRun.getT_eq s)
theorem run (w : World) : HandSHeadRun.RunEq RR (PySem.W.view RR.prog [38]) hk ob 3000 loose w := by
  intro os
  kernel_rfl
theorem facts {P : Program} {w : World} {K : PySem.W.Frag} {h : Heap} {mg : Str → Option Value} {f : Addr} (hP : P = PR) (X : K.In h) (G : h.Ns mainGlobals mg) (hfa : mg ("law" : Str) = some (.ref f)) (c : He.SaysD faL fnL K) (cm : exB K = true) :
    ∃ fd : FuncData, (∀ (s : Shared) (v : Value), BindsTo s fd ⟨[v], []⟩ [("script", v)]) ∧ ∀ base : Heap, K.In base → base.Ns mainGlobals mg → (∀ p ∈ tfL.map (He.cT K), LamX.TabB base mg p.1 p.2) → FOk P w K mg base 31 f fd ["script"] (@spF ⟨tlOf K tfL, xcOf XL K⟩ K mg 1 F23) := by
  letI : TabInfo := ⟨tlOf K tfL, xcOf XL K⟩
  obtain ⟨fd__law_take, D__law_take⟩ := c.def_ 0 (d := d__law_take) rfl
  obtain ⟨fd__law_of, D__law_of⟩ := c.def_ 1 (d := d__law_of) rfl
  obtain ⟨fd_is_int, D_is_int⟩ := c.def_ 2 (d := d_is_int) rfl
  obtain ⟨fd_look_at_many, D_look_at_many⟩ := c.def_ 3 (d := d_look_at_many) rfl
  obtain ⟨fd_are_flows, D_are_flows⟩ := c.def_ 4 (d := d_are_flows) rfl
  obtain ⟨fd_look_at_flows, D_look_at_flows⟩ := c.def_ 5 (d := d_look_at_flows) rfl
  obtain ⟨fd_told_counters, D_told_counters⟩ := c.def_ 6 (d := d_told_counters) rfl
  obtain ⟨fd_counters, D_counters⟩ := c.def_ 7 (d := d_counters) rfl
  obtain ⟨fd_told_amounts, D_told_amounts⟩ := c.def_ 8 (d := d_told_amounts) rfl
  obtain ⟨fd_told_heavy, D_told_heavy⟩ := c.def_ 9 (d := d_told_heavy) rfl
  obtain ⟨fd_heavy, D_heavy⟩ := c.def_ 10 (d := d_heavy) rfl
  obtain ⟨fd_sure_by, D_sure_by⟩ := c.def_ 11 (d := d_sure_by) rfl
  obtain ⟨fd_most_lost, D_most_lost⟩ := c.def_ 12 (d := d_most_lost) rfl
  obtain ⟨fd_are_counters, D_are_counters⟩ := c.def_ 13 (d := d_are_counters) rfl
  obtain ⟨fd_merged, D_merged⟩ := c.def_ 14 (d := d_merged) rfl
  obtain ⟨fd__law_are_refused, D__law_are_refused⟩ := c.def_ 15 (d := d__law_are_refused) rfl
  obtain ⟨fd__law_flows_drawn, D__law_flows_drawn⟩ := c.def_ 16 (d := d__law_flows_drawn) rfl
  obtain ⟨fd__law_counted, D__law_counted⟩ := c.def_ 17 (d := d__law_counted) rfl
  obtain ⟨fd__law_is_right, D__law_is_right⟩ := c.def_ 18 (d := d__law_is_right) rfl
  obtain ⟨fd__law_is_merged_right, D__law_is_merged_right⟩ := c.def_ 19 (d := d__law_is_merged_right) rfl
  obtain ⟨fd__law_right, D__law_right⟩ := c.def_ 20 (d := d__law_right) rfl
  obtain ⟨fd__law_pot, D__law_pot⟩ := c.def_ 21 (d := d__law_pot) rfl
  obtain ⟨fd__law_cells, D__law_cells⟩ := c.def_ 22 (d := d__law_cells) rfl
  obtain ⟨fd_law, D_law⟩ := c.def_ 23 (d := d_law) rfl
  obtain ⟨fd__law_heard, D__law_heard⟩ := c.def_ 24 (d := d__law_heard) rfl
  have g__law_take := He.glo_ok X G (c.fact 0 (f := .glo "_law_take") rfl)
  have g__law_of := He.glo_ok X G (c.fact 1 (f := .glo "_law_of") rfl)
  have g_is_int := He.glo_ok X G (c.fact 2 (f := .glo "is_int") rfl)
  have g_look_at_many := He.glo_ok X G (c.fact 3 (f := .glo "look_at_many") rfl)
  have g_are_flows := He.glo_ok X G (c.fact 4 (f := .glo "are_flows") rfl)
  have g_look_at_flows := He.glo_ok X G (c.fact 5 (f := .glo "look_at_flows") rfl)
  have g_told_counters := He.glo_ok X G (c.fact 6 (f := .glo "told_counters") rfl)
  have g_counters := He.glo_ok X G (c.fact 7 (f := .glo "counters") rfl)
  have g_told_amounts := He.glo_ok X G (c.fact 8 (f := .glo "told_amounts") rfl)
  have g_told_heavy := He.glo_ok X G (c.fact 9 (f := .glo "told_heavy") rfl)
  have g_heavy := He.glo_ok X G (c.fact 10 (f := .glo "heavy") rfl)
  have g_sure_by := He.glo_ok X G (c.fact 11 (f := .glo "sure_by") rfl)
  have g_most_lost := He.glo_ok X G (c.fact 12 (f := .glo "most_lost") rfl)
  have g_are_counters := He.glo_ok X G (c.fact 13 (f := .glo "are_counters") rfl)
  have g_merged := He.glo_ok X G (c.fact 14 (f := .glo "merged") rfl)
  have g__law_are_refused := He.glo_ok X G (c.fact 15 (f := .glo "_law_are_refused") rfl)
  have g__law_flows_drawn := He.glo_ok X G (c.fact 16 (f := .glo "_law_flows_drawn") rfl)
  have g__law_counted := He.glo_ok X G (c.fact 17 (f := .glo "_law_counted") rfl)
  have g__law_is_right := He.glo_ok X G (c.fact 18 (f := .glo "_law_is_right") rfl)
  have g__law_is_merged_right := He.glo_ok X G (c.fact 19 (f := .glo "_law_is_merged_right") rfl)
  have g__law_right := He.glo_ok X G (c.fact 20 (f := .glo "_law_right") rfl)
  have g__law_pot := He.glo_ok X G (c.fact 21 (f := .glo "_law_pot") rfl)
  have g__law_cells := He.glo_ok X G (c.fact 22 (f := .glo "_law_cells") rfl)
  have g_law := He.glo_ok X G (c.fact 23 (f := .glo "law") rfl)
  have g__law_heard := He.glo_ok X G (c.fact 24 (f := .glo "_law_heard") rfl)
  have u_int := He.free_ok X G (c.fact 25 (f := .free "int") rfl)
  have u_len := He.free_ok X G (c.fact 26 (f := .free "len") rfl)
  have u_isinstance := He.free_ok X G (c.fact 27 (f := .free "isinstance") rfl)
  have u_bool := He.free_ok X G (c.fact 28 (f := .free "bool") rfl)
  have u_all := He.free_ok X G (c.fact 29 (f := .free "all") rfl)
  have u_tuple := He.free_ok X G (c.fact 30 (f := .free "tuple") rfl)
  have u_sorted := He.free_ok X G (c.fact 31 (f := .free "sorted") rfl)
  have u_zip := He.free_ok X G (c.fact 32 (f := .free "zip") rfl)
  have u_dict := He.free_ok X G (c.fact 33 (f := .free "dict") rfl)
  have u_repr := He.free_ok X G (c.fact 34 (f := .free "repr") rfl)
  have u_range := He.free_ok X G (c.fact 35 (f := .free "range") rfl)
  have u_set := He.free_ok X G (c.fact 36 (f := .free "set") rfl)
  have u_list := He.free_ok X G (c.fact 37 (f := .free "list") rfl)
  have u_sum := He.free_ok X G (c.fact 38 (f := .free "sum") rfl)
  have u_abs := He.free_ok X G (c.fact 39 (f := .free "abs") rfl)
  have u_max := He.free_ok X G (c.fact 40 (f := .free "max") rfl)
  have u_min := He.free_ok X G (c.fact 41 (f := .free "min") rfl)
  have c_MOST_COUNTERS := He.int_ok X G (c.fact 42 (f := .int "MOST_COUNTERS" 20) rfl)
  have c_MOST_FLOW := He.int_ok X G (c.fact 43 (f := .int "MOST_FLOW" 1000) rfl)
  have c_MOST_FLOWS := He.int_ok X G (c.fact 44 (f := .int "MOST_FLOWS" 500) rfl)
  have c_SURE := He.str_ok X G (c.fact 45 (f := .str "SURE" "sure") rfl)
  have c_LIGHT := He.str_ok X G (c.fact 46 (f := .str "LIGHT" "light") rfl)
  have c_MOST_COUNTED := He.int_ok X G (c.fact 47 (f := .int "MOST_COUNTED" 1000000) rfl)
  have x_PassError := He.glo_ok X G (c.fact 48 (f := .glo "PassError") rfl)
  have x_BadNumber := He.glo_ok X G (c.fact 49 (f := .glo "BadNumber") rfl)
  have x_BadFlows := He.glo_ok X G (c.fact 50 (f := .glo "BadFlows") rfl)
  have x_BadCounters := He.glo_ok X G (c.fact 51 (f := .glo "BadCounters") rfl)
  have u_super := He.free_ok X G (c.fact 52 (f := .free "super") rfl)
  have e := hfa.symm.trans g_law
  cases e
  have b := FunD.bindsA (ps := ["script"]) D_law fun _ _ _ _ _ _ us hl => match us, hl with | [_], _ => rfl
  refine ⟨fd_law, fun s v => b s [v] rfl, fun base _ _ TBs => ?_⟩
  have TB__law_are_refused := TBs _ (List.mem_map.mpr ⟨("_law_are_refused", none), by simp [tfL], rfl⟩)
  have TB__law_right := TBs _ (List.mem_map.mpr ⟨("_law_right", none), by simp [tfL], rfl⟩)
  have cm2 := Bool.and_eq_true_iff.mp cm
  have xh : ∀ x ∈ XL, mg x = some (.ref (gaK K x)) := by
    simp only [XL, List.forall_mem_cons]
    exact ⟨x_PassError, x_BadNumber, x_BadFlows, x_BadCounters, fun _ z => nomatch z⟩
  obtain ⟨xc1, xc2, xc3⟩ := xcB_ok (prog := P) (T := tlOf K tfL) (xl := XL) (by rw [hP]; exact cm2.2) xh u_super (by rw [hP]; decide +kernel)
  have bh := FunD.bindsA (ps := ["call"]) D__law_heard fun _ _ _ _ _ _ us hl => match us, hl with | [_], _ => rfl
  have hk := hdK_of g__law_heard D__law_heard (by decide +kernel) (by decide +kernel) (by decide +kernel) (by decide +kernel) (fun s u => bh s [u] rfl) x_PassError
  have hc : ∀ i n, CS[i]? = some n → ∃ v u, mg n = some u ∧ RelV v u ∧ ∀ H, RepB K H (fun _ => False) v (CC i) := by
    intro i n hi
    match i, hi with
    | 0, hi => cases hi; obtain ⟨t, e⟩ := c_MOST_COUNTERS; exact ⟨.int 20, _, e, ⟨t, rfl⟩, fun H => .int _⟩
    | 1, hi => cases hi; obtain ⟨t, e⟩ := c_MOST_FLOW; exact ⟨.int 1000, _, e, ⟨t, rfl⟩, fun H => .int _⟩
    | 2, hi => cases hi; obtain ⟨t, e⟩ := c_MOST_FLOWS; exact ⟨.int 500, _, e, ⟨t, rfl⟩, fun H => .int _⟩
    | 3, hi => cases hi; obtain ⟨t, e⟩ := c_SURE; exact ⟨.str "sure", _, e, ⟨t, rfl⟩, fun H => .str _⟩
    | 4, hi => cases hi; obtain ⟨t, e⟩ := c_LIGHT; exact ⟨.str "light", _, e, ⟨t, rfl⟩, fun H => .str _⟩
    | 5, hi => cases hi; obtain ⟨t, e⟩ := c_MOST_COUNTED; exact ⟨.int 1000000, _, e, ⟨t, rfl⟩, fun H => .int _⟩
    | _ + 6, hi => cases hi
  have hb : ∀ n ∈ BL, mg n = none := by
    simp only [BL, List.forall_mem_cons]
    exact ⟨u_int, u_len, u_isinstance, u_bool, u_all, u_tuple, u_sorted, u_zip, u_dict, u_repr, u_range, u_set, u_list, u_sum, u_abs, u_max, u_min, fun _ z => nomatch z⟩
  have A0 : Facts P w K mg base 1 P0 CC (FS.take 0) CS BL XL := Facts.none hc hb xc1 xc2
  have A1 : Facts P w K mg base 2 P1 CC (FS.take 1) CS BL XL := A0.step (N := N0) (ps := ["pot", "upto"]) (st := [2, 3, 4]) (rb := []) (b := B0) D__law_take g__law_take [] (fun _ _ _ _ _ _ us hl => match us, hl with | [_, _], _ => rfl) (fun _ z => (List.not_mem_nil z).elim) sc0 rfl ck0
  have A2 : Facts P w K mg base 3 P2 CC (FS.take 2) CS BL XL := A1.step (N := N1) (ps := ["pot", "some"]) (st := []) (rb := []) (b := B1) D__law_of g__law_of [] (fun _ _ _ _ _ _ us hl => match us, hl with | [_, _], _ => rfl) (fun _ z => (List.not_mem_nil z).elim) sc1 rfl ck1
  have A3 : Facts P w K mg base 4 P3 CC (FS.take 3) CS BL XL := A2.step (N := N2) (ps := ["value", "low", "high"]) (st := []) (rb := []) (b := B2) D_is_int g_is_int [] (fun _ _ _ _ _ _ us hl => match us, hl with | [_, _, _], _ => rfl) (fun _ z => (List.not_mem_nil z).elim) sc2 rfl ck2
  have A4 : Facts P w K mg base 5 P4 CC (FS.take 4) CS BL XL := A3.step (N := N3) (ps := ["many"]) (st := []) (rb := []) (b := B3) D_look_at_many g_look_at_many [] (fun _ _ _ _ _ _ us hl => match us, hl with | [_], _ => rfl) (fun _ z => (List.not_mem_nil z).elim) sc3 rfl ck3
  have A5 : Facts P w K mg base 6 P5 CC (FS.take 5) CS BL XL := A4.step (N := N4) (ps := ["value"]) (st := []) (rb := []) (b := B4) D_are_flows g_are_flows [] (fun _ _ _ _ _ _ us hl => match us, hl with | [_], _ => rfl) (fun _ z => (List.not_mem_nil z).elim) sc4 rfl ck4
  have A6 : Facts P w K mg base 7 P6 CC (FS.take 6) CS BL XL := A5.step (N := N5) (ps := ["flows"]) (st := []) (rb := []) (b := B5) D_look_at_flows g_look_at_flows [] (fun _ _ _ _ _ _ us hl => match us, hl with | [_], _ => rfl) (fun _ z => (List.not_mem_nil z).elim) sc5 rfl ck5
  have A7 : Facts P w K mg base 8 P7 CC (FS.take 7) CS BL XL := A6.step (N := N6) (ps := ["many", "flows"]) (st := [2, 3, 4]) (rb := []) (b := B6) D_told_counters g_told_counters [] (fun _ _ _ _ _ _ us hl => match us, hl with | [_, _], _ => rfl) (fun _ z => (List.not_mem_nil z).elim) sc6 rfl ck6
  have A8 : Facts P w K mg base 9 P8 CC (FS.take 8) CS BL XL := A7.step (N := N7) (ps := ["many", "flows"]) (st := [2, 3]) (rb := []) (b := B7) D_counters g_counters [(1, ["flows"])] (fun _ _ _ _ _ _ us hl => match us, hl with | [_, _], _ => rfl) (fun q hq => by
    simp only [List.mem_cons, List.not_mem_nil, or_false] at hq
    subst hq
    exact ⟨rfl, fun _ _ _ _ _ _ us ws h1 h2 => match us, ws, h1, h2 with | [_], [_], _, _ => rfl⟩) sc7 rfl ck7
  have A9 : Facts P w K mg base 10 P9 CC (FS.take 9) CS BL XL := A8.step (N := N8) (ps := ["flows"]) (st := [1, 2]) (rb := []) (b := B8) D_told_amounts g_told_amounts [] (fun _ _ _ _ _ _ us hl => match us, hl with | [_], _ => rfl) (fun _ z => (List.not_mem_nil z).elim) sc8 rfl ck8
  have A10 : Facts P w K mg base 11 P10 CC (FS.take 10) CS BL XL := A9.step (N := N9) (ps := ["flows", "parts"]) (st := [2]) (rb := []) (b := B9) D_told_heavy g_told_heavy [] (fun _ _ _ _ _ _ us hl => match us, hl with | [_, _], _ => rfl) (fun _ z => (List.not_mem_nil z).elim) sc9 rfl ck9
  have A11 : Facts P w K mg base 12 P11 CC (FS.take 11) CS BL XL := A10.step (N := N10) (ps := ["flows", "parts"]) (st := []) (rb := []) (b := B10) D_heavy g_heavy [(1, ["parts"])] (fun _ _ _ _ _ _ us hl => match us, hl with | [_, _], _ => rfl) (fun q hq => by
    simp only [List.mem_cons, List.not_mem_nil, or_false] at hq
    subst hq
    exact ⟨rfl, fun _ _ _ _ _ _ us ws h1 h2 => match us, ws, h1, h2 with | [_], [_], _, _ => rfl⟩) sc10 rfl ck10
  have A12 : Facts P w K mg base 13 P12 CC (FS.take 12) CS BL XL := A11.step (N := N11) (ps := ["many", "flows", "flow"]) (st := [3, 4, 5]) (rb := []) (b := B11) D_sure_by g_sure_by [(2, ["flow"])] (fun _ _ _ _ _ _ us hl => match us, hl with | [_, _, _], _ => rfl) (fun q hq => by
    simp only [List.mem_cons, List.not_mem_nil, or_false] at hq
    subst hq
    exact ⟨rfl, fun _ _ _ _ _ _ us ws h1 h2 => match us, ws, h1, h2 with | [_, _], [_], _, _ => rfl⟩) sc11 rfl ck11
  have A13 : Facts P w K mg base 14 P13 CC (FS.take 13) CS BL XL := A12.step (N := N12) (ps := ["many", "packets"]) (st := []) (rb := []) (b := B12) D_most_lost g_most_lost [(1, ["packets"])] (fun _ _ _ _ _ _ us hl => match us, hl with | [_, _], _ => rfl) (fun q hq => by
    simp only [List.mem_cons, List.not_mem_nil, or_false] at hq
    subst hq
    exact ⟨rfl, fun _ _ _ _ _ _ us ws h1 h2 => match us, ws, h1, h2 with | [_], [_], _, _ => rfl⟩) sc12 rfl ck12
  have A14 : Facts P w K mg base 15 P14 CC (FS.take 14) CS BL XL := A13.step (N := N13) (ps := ["value"]) (st := [1]) (rb := []) (b := B13) D_are_counters g_are_counters [] (fun _ _ _ _ _ _ us hl => match us, hl with | [_], _ => rfl) (fun _ z => (List.not_mem_nil z).elim) sc13 rfl ck13
  have A15 : Facts P w K mg base 16 P15 CC (FS.take 15) CS BL XL := A14.step (N := N14) (ps := ["many", "one", "other"]) (st := [3, 4, 5, 6, 7, 8]) (rb := []) (b := B14) D_merged g_merged [(2, ["other"])] (fun _ _ _ _ _ _ us hl => match us, hl with | [_, _, _], _ => rfl) (fun q hq => by
    simp only [List.mem_cons, List.not_mem_nil, or_false] at hq
    subst hq
    exact ⟨rfl, fun _ _ _ _ _ _ us ws h1 h2 => match us, ws, h1, h2 with | [_, _], [_], _, _ => rfl⟩) sc14 rfl ck14
  have A16 : Facts P w K mg base 20 P16 CC (FS.take 16) CS BL XL := A15.stepH (N := N15) (ps := ["pot", "many", "flows"]) (st := [3, 4, 5]) (rb := []) (b := B15) D__law_are_refused g__law_are_refused (fun _ _ _ _ _ _ us hl => match us, hl with | [_, _, _], _ => rfl) sc15 rfl (fun z => by cases z) ck15 fun oc dV kV doc pm cdv ct od an osl lk hcd => hdF_of cm2.1 (by simp [tfL]) hk xc3 lk rfl hcd TB__law_are_refused
  have A17 : Facts P w K mg base 21 P17 CC (FS.take 17) CS BL XL := A16.step (N := N16) (ps := ["pot"]) (st := [1]) (rb := []) (b := B16) D__law_flows_drawn g__law_flows_drawn [] (fun _ _ _ _ _ _ us hl => match us, hl with | [_], _ => rfl) (fun _ z => (List.not_mem_nil z).elim) sc16 rfl ck16
  have A18 : Facts P w K mg base 22 P18 CC (FS.take 18) CS BL XL := A17.step (N := N17) (ps := ["many", "flows"]) (st := [2, 3, 4]) (rb := []) (b := B17) D__law_counted g__law_counted [] (fun _ _ _ _ _ _ us hl => match us, hl with | [_, _], _ => rfl) (fun _ z => (List.not_mem_nil z).elim) sc17 rfl ck17
  have A19 : Facts P w K mg base 23 P19 CC (FS.take 19) CS BL XL := A18.step (N := N18) (ps := ["pot", "many", "flows"]) (st := [3, 4, 5, 6, 7, 8, 9, 10]) (rb := []) (b := B18) D__law_is_right g__law_is_right [] (fun _ _ _ _ _ _ us hl => match us, hl with | [_, _, _], _ => rfl) (fun _ z => (List.not_mem_nil z).elim) sc18 rfl ck18
  have A20 : Facts P w K mg base 24 P20 CC (FS.take 20) CS BL XL := A19.step (N := N19) (ps := ["many", "flows", "others"]) (st := [3, 4, 5, 6, 7, 8, 9, 10, 11, 12, 13, 14, 15]) (rb := []) (b := B19) D__law_is_merged_right g__law_is_merged_right [] (fun _ _ _ _ _ _ us hl => match us, hl with | [_, _, _], _ => rfl) (fun _ z => (List.not_mem_nil z).elim) sc19 rfl ck19
  have A21 : Facts P w K mg base 28 P21 CC (FS.take 21) CS BL XL := A20.stepH (N := N20) (ps := ["pot"]) (st := [1, 2, 3, 4]) (rb := []) (b := B20) D__law_right g__law_right (fun _ _ _ _ _ _ us hl => match us, hl with | [_], _ => rfl) sc20 rfl (fun z => by cases z) ck20 fun oc dV kV doc pm cdv ct od an osl lk hcd => hdF_of cm2.1 (by simp [tfL]) hk xc3 lk rfl hcd TB__law_right
  have A22 : Facts P w K mg base 29 P22 CC (FS.take 22) CS BL XL := A21.step (N := N21) (ps := ["script", "place"]) (st := [2, 3, 4]) (rb := []) (b := B21) D__law_pot g__law_pot [] (fun _ _ _ _ _ _ us hl => match us, hl with | [_, _], _ => rfl) (fun _ z => (List.not_mem_nil z).elim) sc21 rfl ck21
  have A23 : Facts P w K mg base 30 P23 CC (FS.take 23) CS BL XL := A22.step (N := N22) (ps := ["script", "most"]) (st := []) (rb := []) (b := B22) D__law_cells g__law_cells [] (fun _ _ _ _ _ _ us hl => match us, hl with | [_, _], _ => rfl) (fun _ z => (List.not_mem_nil z).elim) sc22 rfl ck22
  exact A23.def_ (N := N23) (ps := ["script"]) (st := []) (rb := []) (b := B23) D_law sc23 rfl ck23
end Lw
end

section
set_option Elab.async false
set_option linter.all false
set_option maxRecDepth 100000
set_option maxHeartbeats 2000000
/-! G1: for all laws: evaluation, the helpers of the laws -/
namespace Lw
open PySem L2
instance noTabs : TabInfo := ⟨[], fun _ => none⟩
@[simp] theorem s_bind {α β} (m : M α) (f : α → M β) (E : SE) : M.bind m f E = (m E).bind f := rfl
@[simp] theorem s_bind2 {α β} (m : M α) (f : α → M β) (E : SE) : (m >>= f) E = (m E).bind f := rfl
@[simp] theorem s_ok {α β} (a : α) (E : SE) (f : α → M β) : (R.ok a E).bind f = f a E := rfl
@[simp] theorem s_exc {α β} (C : Str) (x : D) (E : SE) (f : α → M β) : (R.exc C x E).bind f = .exc C x E := rfl
@[simp] theorem s_pure {α} (a : α) (E : SE) : M.pure a E = .ok a E := rfl
@[simp] theorem s_pure2 {α} (a : α) (E : SE) : (pure a : M α) E = .ok a E := rfl
@[simp] theorem s_some {α} (a : α) : M.opt (some a) = M.pure a := rfl
@[simp] theorem s_of {α} (a : α) (E : SE) (f : α → SE → SR) : SR.of (.ok a E) f = f a E := rfl
@[simp] theorem s_ofx {α} (C : Str) (x : D) (E : SE) (f : α → SE → SR) : SR.of (.exc C x E) f = .exc C x E := rfl
@[simp] theorem s_nx (E : SE) (f : SE → SR) : SR.then (.nx E) f = f E := rfl
@[simp] theorem s_rt (s : Sl) (E : SE) (f : SE → SR) : SR.then (.rt s E) f = .rt s E := rfl
@[simp] theorem s_ct (E : SE) (f : SE → SR) : SR.then (.ct E) f = .ct E := rfl
@[simp] theorem s_bk (E : SE) (f : SE → SR) : SR.then (.bk E) f = .bk E := rfl
@[simp] theorem s_xc (C : Str) (x : D) (E : SE) (f : SE → SR) : SR.then (.exc C x E) f = .exc C x E := rfl
@[simp] theorem s_slot (i : Nat) (E : SE) : slotAt i E = match E[i]? with | some (.val d) => .ok d E | some (.own d) => .ok d E | _ => .bad := rfl
@[simp] theorem s_evA0 (E : SE) : evA [] E = .ok [] E := rfl
@[simp] theorem s_evA1 (i : Nat) (r : List Opd) (E : SE) : evA (.slot i :: r) E = (slotAt i E).bind fun _ => fun E1 => (evA r E1).bind fun ds => fun E2 => (slotAt i E2).bind fun d => fun E3 => .ok (weakD d :: ds) E3 := rfl
@[simp] theorem s_evA2 (f : M Sl) (r : List Opd) (E : SE) : evA (.ex f :: r) E = (f E).bind fun s => fun E1 => (evA r E1).bind fun ds => fun E2 => .ok (weakD s.d :: ds) E2 := rfl
theorem blsOf_true : ∀ (ds : List D), (∀ d ∈ ds, d = .bl true) → blsOf ds = some (ds.map fun _ => true)
  | [], _ => rfl
  | d :: ds, h => by
    have := h d List.mem_cons_self
    subst this
    simp [blsOf, blsOf_true ds fun x hx => h x (List.mem_cons_of_mem _ hx)]
theorem putBack_ex (f : M Sl) (ss ps : List Sl) (E : SE) : putBack [.ex f] ss ps E = E := by
  rcases ss with _ | ⟨s, ss⟩
  · rfl
  · rcases ps with _ | ⟨p, ps⟩
    · cases s <;> rfl
    · cases s <;> simp [putBack]
theorem putBack_0 (ss ps : List Sl) (E : SE) : putBack [] ss ps E = E := by
  unfold putBack; rfl
theorem putBack_x1 (f : M Sl) (r : List Arg) (s p : Sl) (ss ps : List Sl) (E : SE) : putBack (.ex f :: r) (s :: ss) (p :: ps) E = putBack r ss ps E := by
  cases s <;> rfl
theorem bind_nm (i : Nat) (d : D) (E : SE) : bindT (.nm i) d E = if i < E.length then some (E.set i (.val d)) else none := by rw [bindT]
theorem bind_tup (ts : List Tgt) (ds : List D) (E : SE) : bindT (.tup ts) (.tup ds) E = bindTs ts ds E := by rw [bindT]
theorem bind_0 (E : SE) : bindTs [] [] E = some E := by rw [bindTs]
theorem bind_1 (t : Tgt) (ts : List Tgt) (d : D) (ds : List D) (E : SE) : bindTs (t :: ts) (d :: ds) E = (bindT t d E).bind (bindTs ts ds) := by rw [bindTs]
theorem log_lt {n k : Nat} (hk : 0 < k) (h : n < 2 ^ k) : n.log2 < k := by
  by_cases e : n = 0
  · subst e; simpa using hk
  · exact (Nat.log2_lt e).mpr h
theorem mulOk_of {i j : Int} {a b : Nat} (ha : 0 < a) (hb : 0 < b) (h1 : i.natAbs < 2 ^ a) (h2 : j.natAbs < 2 ^ b) (h : a + b ≤ 1000000) : mulOk i j = true := by
  have q1 := log_lt ha h1
  have q2 := log_lt hb h2
  unfold mulOk
  exact decide_eq_true (by omega)
/-- of moderate numbers -/
theorem mulM {i j : Int} (h1 : i.natAbs < 2 ^ 100) (h2 : j.natAbs < 2 ^ 100) : mulOk i j = true := mulOk_of (a := 100) (b := 100) (by decide) (by decide) h1 h2 (by decide)
theorem logM {i : Int} (h1 : i.natAbs < 2 ^ 100) : i.natAbs.log2 < 9000 := Nat.lt_trans (log_lt (k := 100) (by decide) h1) (by decide)
/-! ### draws -/
def PotOk (n : Int) (l : List D) : Prop := ∃ a b c : Int, l = [.int a, .int b, .int c] ∧ 0 ≤ a ∧ (0 ≤ b ∧ b < 2 ^ 61) ∧ 0 ≤ c ∧ c ≤ n
theorem PotOk.mono {n m : Int} {l : List D} (h : PotOk n l) (hm : n ≤ m) : PotOk m l := by
  obtain ⟨a, b, c, h1, h2, h3, h4, h5⟩ := h
  exact ⟨a, b, c, h1, h2, h3, h4, by omega⟩
def TAKEB : List S := [.ite (.cmp .Gt (.idx (.var 0) (.int 0)) (.int 0)) [.set 4 (.bop .Mod (.ty .int [(.idx (.var 0) (.int 0))]) (.var 1)), .sidx 0 (.int 0) (.bop .FloorDiv (.idx (.var 0) (.int 0)) (.var 1)), .ret (.mv 4)] [], .sidx 0 (.int 2) (.bop .Add (.idx (.var 0) (.int 2)) (.int 1)), .set 2 (.idx (.lst [(.int 2147483647), (.int 2147483629), (.int 2147483587), (.int 2147483579), (.int 2147483563)]) (.bop .Mod (.ty .int [(.idx (.var 0) (.int 2))]) (.int 5))), .set 3 (.bop .Mod (.ty .int [(.bop .Pow (.ty .int [(.bop .Add (.bop .Add (.idx (.var 0) (.int 1)) (.bop .Mult (.bop .Mult (.int 96179) (.idx (.var 0) (.int 2))) (.idx (.var 0) (.int 2)))) (.int 2131))]) (.int 3))]) (.var 2)), .set 3 (.bop .Mod (.ty .int [(.bop .Mult (.var 3) (.bop .Add (.bop .Mod (.ty .int [(.var 3)]) (.int 11833)) (.bop .Mult (.int 367) (.idx (.var 0) (.int 2)))))]) (.int 2305843009213693907)), .ret (.bop .Mod (.ty .int [(.bop .FloorDiv (.var 3) (.int 191))]) (.var 1))]
def TakeOk (F : M Sl) : Prop := ∀ {n u : Int} {l : List D}, n < 2 ^ 20 → PotOk n l → 0 < u ∧ u < 2 ^ 31 →
  ∃ d l', (0 ≤ d ∧ d < u) ∧ PotOk (n + 1) l' ∧ F [.own (.lst l), .val (.int u)] = .ok (.val (.int d)) [.own (.lst l'), .val (.int u)]
theorem take_gen (Φ : Nat → M Sl) (C : Nat → D) : TakeOk (fnS Φ C 5 [] TAKEB) := by
  intro n u l hn h hu
  obtain ⟨a, b, c, rfl, ha, hb, hc, hcn⟩ := h
  have hlog : u.natAbs.log2 < 9000 := log_lt (by decide) (Nat.lt_of_lt_of_le (show u.natAbs < 2 ^ 31 by omega) (Nat.pow_le_pow_right (by decide) (by decide)))
  by_cases h0 : 0 < a
  · refine ⟨a % u, [.int (a / u), .int b, .int c], ⟨Int.emod_nonneg _ (by omega), Int.emod_lt_of_pos _ hu.1⟩, ⟨_, _, _, rfl, Int.ediv_nonneg ha (by omega), hb, hc, by omega⟩, ?_⟩
    unfold TAKEB
    simp [fnS, exs, ex, ev, evT, opd, opds, biS, tyS, vB, vI, Sl.d, weakD, cmpS, bopS, ixS, wipeE, truthD, putS, updS, setD, isOwnL, popS, evC, atI, ixN, h0, hu.1, hlog]
  · obtain ⟨C, hC⟩ : ∃ C, C = c + 1 := ⟨_, rfl⟩
    have hC0 : 0 < C := by omega
    have hC1 : C < 2 ^ 21 := by omega
    have m1 : mulOk 96179 C = true := mulM (by decide) (by omega)
    have m2 : mulOk (96179 * C) C = true := mulM (by omega) (by omega)
    have m3 : mulOk 367 C = true := mulM (by decide) (by omega)
    obtain ⟨X, hX⟩ : ∃ X, X = b + 96179 * C * C + 2131 := ⟨_, rfl⟩
    have hCC : 96179 * C * C < 2 ^ 60 := by
      have : C * C ≤ 2 ^ 21 * 2 ^ 21 := Int.mul_le_mul (by omega) (by omega) (by omega) (by omega)
      have e : 96179 * C * C = 96179 * (C * C) := Int.mul_assoc _ _ _
      omega
    have hCC0 : 0 ≤ 96179 * C * C := Int.mul_nonneg (by omega) (by omega)
    have b1 : (Builtin.Int.intBits X : Int) * 3 ≤ 134217728 := by
      have : X.natAbs.log2 < 62 := log_lt (by decide) (by omega)
      unfold Builtin.Int.intBits
      split <;> omega
    obtain ⟨p, hp, hpi⟩ : ∃ p : Int, (0 < p ∧ p < 2 ^ 31) ∧ atI [D.int 2147483647, .int 2147483629, .int 2147483587, .int 2147483579, .int 2147483563] (C % 5) = some (.int p) := by
      have : C % 5 = 0 ∨ C % 5 = 1 ∨ C % 5 = 2 ∨ C % 5 = 3 ∨ C % 5 = 4 := by omega
      rcases this with e | e | e | e | e <;> rw [e] <;> exact ⟨_, by constructor <;> decide, rfl⟩
    obtain ⟨Y, hY⟩ : ∃ Y, Y = X ^ 3 % p := ⟨_, rfl⟩
    have hY0 : 0 ≤ Y := by rw [hY]; exact Int.emod_nonneg _ (by omega)
    have hY1 : Y < 2 ^ 31 := by rw [hY]; have := Int.emod_lt_of_pos (X ^ 3) hp.1; omega
    have m4 : mulOk Y (Y % 11833 + 367 * C) = true := mulM (by omega) (by omega)
    refine ⟨(Y * (Y % 11833 + 367 * C)) % 2305843009213693907 / 191 % u, [.int a, .int b, .int C], ⟨Int.emod_nonneg _ (by omega), Int.emod_lt_of_pos _ hu.1⟩, ⟨_, _, _, rfl, ha, hb, by omega, by omega⟩, ?_⟩
    have a0 : ∀ x y z : D, atI [x, y, z] 0 = some x := fun _ _ _ => rfl
    have a1 : ∀ x y z : D, atI [x, y, z] 1 = some y := fun _ _ _ => rfl
    have a2 : ∀ x y z : D, atI [x, y, z] 2 = some z := fun _ _ _ => rfl
    unfold TAKEB
    have l191 : Nat.log2 191 < 9000 := by decide +kernel
    simp [a0, a1, a2, l191, sizeLine_eq, fnS, exs, ex, ev, evT, evD, opd, opds, biS, tyS, vB, vI, Sl.d, weakD, cmpS, bopS, ixS, wipeE, truthD, putS, updS, setD, isOwnL, popS, evC, h0, hu.1, hlog, ixN, ← hC, m1, m2, m3, ← hX, hpi, b1, ← hY, m4, hp.1]
theorem atI_mem {α : Type} {xs : List α} {i : Int} (h0 : 0 ≤ i) (h1 : i < xs.length) : ∃ x, x ∈ xs ∧ atI xs i = some x ∧ xs[i.toNat]? = some x := by
  have hl : i.toNat < xs.length := by omega
  refine ⟨xs[i.toNat], List.getElem_mem hl, ?_, by simp [hl]⟩
  unfold atI ixN
  simp [h0, h1, hl]
def OFB (t : Nat) : List S := [.ret (.idx (.var 1) (.call t [(.var 0), (.bi .len [(.var 1)])]))]
/-- a list or tuple in a slot -/
def SeqSl (s : Sl) (xs : List D) : Prop := s = .own (.lst xs) ∨ s = .val (.lst xs) ∨ s = .val (.tup xs)
def OfOk (F : M Sl) : Prop := ∀ {n : Int} {l xs : List D} {s : Sl}, n < 2 ^ 20 → PotOk n l → SeqSl s xs → xs ≠ [] → xs.length < 2 ^ 24 →
  ∃ d l', d ∈ xs ∧ PotOk (n + 1) l' ∧ F [.own (.lst l), s] = .ok (.val d) [.own (.lst l'), s]
theorem of_gen {Φ : Nat → M Sl} (C : Nat → D) {t : Nat} (ht : TakeOk (Φ t)) : OfOk (fnS Φ C 2 [] (OFB t)) := by
  intro n l xs s hn h hs hx hz
  have hlen : 0 < xs.length := List.length_pos_iff.mpr hx
  obtain ⟨i, l', hi, hp, e⟩ := ht (u := (xs.length : Int)) hn h ⟨by omega, by omega⟩
  obtain ⟨d, hd, ed, _⟩ := atI_mem (xs := xs) hi.1 hi.2
  refine ⟨d, l', hd, hp, ?_⟩
  have sz : xs.length ≤ sizeLine := by rw [sizeLine_eq]; omega
  unfold OFB
  rcases hs with rfl | rfl | rfl <;> simp [fnS, exs, ex, ev, opd, opds, args, biS, lenD, vI, Sl.d, weakD, ixS, wipeE, callS, evC, popS, e, ed, putBack, sz]
theorem idx_scr {ns : List Int} {i : Nat} (h : i < ns.length) : atI ns (i : Int) = some ns[i] := by
  obtain ⟨x, _, e, e2⟩ := atI_mem (xs := ns) (i := (i : Int)) (by omega) (by omega)
  rw [e, ← e2]
  simp [h]
def POTB : List S := [.set 2 (.ite (.cmp .Lt (.var 1) (.bi .len [(.var 0)])) (.idx (.var 0) (.var 1)) (.bop .Add (.bop .Add (.bop .Mod (.ty .int [(.bi .sum [(.slc (.var 0) .non (.int 1))])]) (.int 999979)) (.bop .Mult (.int 3389) (.var 1))) (.int 2131))), .set 3 (.bop .Mult (.bop .Mod (.ty .int [(.bi .abs [(.var 2)])]) (.bop .Pow (.bop .Pow (.int 10) (.int 60)) (.int 5))) (.ty .int [(.cmp .GtE (.bi .abs [(.var 2)]) (.bop .Pow (.int 10) (.int 18)))])), .set 4 (.bop .Mod (.ty .int [(.var 2)]) (.int 2305843009213693951)), .ret (.lst [(.fz 3), (.bop .Mod (.ty .int [(.bop .Add (.bop .Add (.bop .Mult (.var 4) (.int 84313)) (.bop .Mult (.bop .Mult (.int 11257) (.var 1)) (.var 1))) (.int 1847))]) (.int 2305843009213693921)), (.int 0)])]
def PotF (F : M Sl) : Prop := ∀ {ns : List Int} {i : Nat}, i < 3 → ns.length ≤ 63 → (i < ns.length ∨ (ns = [] ∧ i = 0)) →
  ∃ l, PotOk 0 l ∧ F [.val (.scr ns), .val (.int i)] = .ok (.own (.lst l)) [.val (.scr ns), .val (.int i)]
/-- the pot of a cell -/
theorem pot_gen (Φ : Nat → M Sl) (C : Nat → D) : PotF (fnS Φ C 5 [] POTB) := by
  intro ns i hi hz hl
  obtain ⟨cell, hc⟩ : ∃ c : Int, ev Φ C (.ite (.cmp .Lt (.var 1) (.bi .len [(.var 0)])) (.idx (.var 0) (.var 1)) (.bop .Add (.bop .Add (.bop .Mod (.ty .int [(.bi .sum [(.slc (.var 0) .non (.int 1))])]) (.int 999979)) (.bop .Mult (.int 3389) (.var 1))) (.int 2131))) [.val (.scr ns), .val (.int i), .no, .no, .no] = .ok (vI c) [.val (.scr ns), .val (.int i), .no, .no, .no] := by
    rcases hl with hl | ⟨rfl, rfl⟩
    · refine ⟨ns[i], ?_⟩
      have := idx_scr hl
      simp [ev, evT, opd, opds, biS, lenD, vI, vB, Sl.d, weakD, cmpS, truthD, ixS, hl, this]
    · refine ⟨2131, ?_⟩
      have m0 : mulOk 3389 0 = true := by decide +kernel
      simp [ev, evT, opd, opds, biS, tyS, lenD, vI, vB, Sl.d, weakD, cmpS, truthD, bopS, slS, slP, partO, isNonE, partD, cutD, intsOf, m0]
  have iB : (i : Int) = 0 ∨ (i : Int) = 1 ∨ (i : Int) = 2 := by omega
  obtain ⟨own, ho, eo⟩ : ∃ own : Int, 0 ≤ own ∧ ev Φ C (.bop .Mult (.bop .Mod (.ty .int [(.bi .abs [(.var 2)])]) (.bop .Pow (.bop .Pow (.int 10) (.int 60)) (.int 5))) (.ty .int [(.cmp .GtE (.bi .abs [(.var 2)]) (.bop .Pow (.int 10) (.int 18)))])) [.val (.scr ns), .val (.int i), vI cell, .no, .no] = .ok (vI own) [.val (.scr ns), .val (.int i), vI cell, .no, .no] := by
    have p5 : (0 : Int) < (10 ^ 60) ^ 5 := Int.pow_pos (Int.pow_pos (by decide))
    obtain ⟨Z, hZ⟩ : ∃ Z : Int, Z = if cell < 0 then -cell else cell := ⟨_, rfl⟩
    obtain ⟨A, hA⟩ : ∃ A : Int, A = Z % (10 ^ 60) ^ 5 := ⟨_, rfl⟩
    have q10 : (0 : Int) ≤ 60 ∧ (Builtin.Int.intBits 10 : Int) * 60 ≤ 2 ^ 27 := ⟨by decide, by decide +kernel⟩
    have q60 : (0 : Int) ≤ 5 ∧ (Builtin.Int.intBits (10 ^ 60) : Int) * 5 ≤ 2 ^ 27 := ⟨by decide, by decide +kernel⟩
    have q18 : (0 : Int) ≤ 18 ∧ (Builtin.Int.intBits 10 : Int) * 18 ≤ 2 ^ 27 := ⟨by decide, by decide +kernel⟩
    have A0 : 0 ≤ A := by rw [hA]; exact Int.emod_nonneg _ (by omega)
    have A1 : A < (10 ^ 60) ^ 5 := by rw [hA]; exact Int.emod_lt_of_pos _ p5
    have A2 : A.natAbs < 2 ^ 1000 := by
      have : ((10 : Int) ^ 60) ^ 5 < 2 ^ 1000 := by decide +kernel
      have h2 : (A.natAbs : Int) = A := Int.natAbs_of_nonneg A0
      have : ((A.natAbs : Nat) : Int) < ((2 ^ 1000 : Nat) : Int) := by rw [h2]; push_cast; exact Int.lt_trans A1 this
      exact Int.ofNat_lt.mp this
    by_cases hb : (10 : Int) ^ 18 ≤ Z
    · have m : mulOk A 1 = true := mulOk_of (a := 1000) (b := 1) (by decide) (by decide) A2 (by decide) (by decide)
      refine ⟨A * 1, by omega, ?_⟩
      simp [-Int.reducePow, -Nat.reducePow, ev, opd, opds, biS, tyS, vI, vB, Sl.d, weakD, cmpS, bopS, q10, q60, q18, ← hZ, hb, p5, ← hA, m]
    · have m : mulOk A 0 = true := mulOk_of (a := 1000) (b := 1) (by decide) (by decide) A2 (by decide) (by decide)
      refine ⟨A * 0, by omega, ?_⟩
      simp [-Int.reducePow, -Nat.reducePow, ev, opd, opds, biS, tyS, vI, vB, Sl.d, weakD, cmpS, bopS, q10, q60, q18, ← hZ, hb, p5, ← hA, m]
  have s0 : 0 ≤ cell % 2305843009213693951 := Int.emod_nonneg _ (by decide)
  have s1 : cell % 2305843009213693951 < 2305843009213693951 := Int.emod_lt_of_pos _ (by decide)
  obtain ⟨sm, hsm⟩ : ∃ x, x = cell % 2305843009213693951 := ⟨_, rfl⟩
  have m1 : mulOk sm 84313 = true := mulM (by omega) (by decide)
  have m2 : mulOk 11257 (i : Int) = true := mulM (by decide) (by omega)
  have m3 : mulOk (11257 * (i : Int)) (i : Int) = true := mulM (by omega) (by omega)
  refine ⟨[.int own, .int ((sm * 84313 + 11257 * i * i + 1847) % 2305843009213693921), .int 0], ⟨_, _, _, rfl, ho, ⟨Int.emod_nonneg _ (by decide), Int.lt_trans (Int.emod_lt_of_pos _ (by decide)) (by decide)⟩, by decide, by decide⟩, ?_⟩
  unfold POTB
  simp only [fnS, exs, ex]
  simp only [vI] at hc eo
  simp [hc, eo, putS]
  simp [ev, evD, opd, opds, biS, tyS, vI, vB, Sl.d, weakD, bopS, wipeE, putS, fzS, ← hsm, m1, m2, m3, sizeLine_eq]
/-! ### comprehensions -/
theorem lcI_map {bt : D → SE → Option SE} {tests : List (M Bool)} {elt : M Sl} {own : List Nat} {W : SE} {f : D → D} (hW : wipeE W own = W) : ∀ (ds acc : List D), acc.length + ds.length ≤ sizeLine →
    (∀ d ∈ ds, ∃ E1 E2 E3 s, bt d W = some E1 ∧ lcI.allT tests E1 = .ok true E2 ∧ elt E2 = .ok s E3 ∧ s.d = f d ∧ wipeE E3 own = W) → lcI bt tests elt own ds acc W = .ok (acc ++ ds.map f) W
  | [], acc, _, _ => by rw [lcI]; simp
  | d :: ds, acc, hz, h => by
    obtain ⟨E1, E2, E3, s, h1, h2, h3, h4, h5⟩ := h d List.mem_cons_self
    simp only [List.length_cons] at hz
    rw [lcI]
    simp only [hW, h1, h2, s_ok, if_true, h3, h4, h5]
    rw [if_pos (by omega), lcI_map hW ds (acc ++ [f d]) (by simp; omega) fun x hx => h x (List.mem_cons_of_mem _ hx)]
    simp
/-- turns that leave the slots alone; some are left out -/
theorem lcI_flt {α : Type} {bt : D → SE → Option SE} {tests : List (M Bool)} {elt : M Sl} {own : List Nat} {W : SE} {g f : α → D} {p : α → Bool} (hW : wipeE W own = W) : ∀ (xs : List α) (acc : List D), acc.length + xs.length ≤ sizeLine →
    (∀ x ∈ xs, ∃ E1, bt (g x) W = some E1 ∧ lcI.allT tests E1 = .ok (p x) E1 ∧ (p x = true → ∃ s, elt E1 = .ok s E1 ∧ s.d = f x) ∧ wipeE E1 own = W) → lcI bt tests elt own (xs.map g) acc W = .ok (acc ++ (xs.filter p).map f) W
  | [], acc, _, _ => by simp [lcI]
  | d :: ds, acc, hz, h => by
    obtain ⟨E1, h1, h2, h3, h5⟩ := h d List.mem_cons_self
    simp only [List.length_cons] at hz
    rw [List.map_cons, lcI]
    simp only [hW, h1, h2, s_ok]
    cases hp : p d with
    | true =>
      obtain ⟨s, h3, h4⟩ := h3 hp
      simp only [if_true, h3, s_ok, h4, h5]
      rw [if_pos (by omega), lcI_flt hW ds (acc ++ [f d]) (by simp; omega) fun x hx => h x (List.mem_cons_of_mem _ hx)]
      simp [hp]
    | false =>
      simp only [Bool.false_eq_true, if_false, h5]
      rw [lcI_flt hW ds acc (by omega) fun x hx => h x (List.mem_cons_of_mem _ hx)]
      simp [hp]
theorem ev_lc (Φ : Nat → M Sl) (C : Nat → D) (elt : E) (tg : Tgt) (it : E) (ifs : List E) (own : List Nat) : ev Φ C (.lc elt tg it ifs own) = M.bind (evI Φ C it) fun ds => fun E => if notOwn E own then
      (match lcI (bindT tg) (evTs Φ C ifs) (ev Φ C elt) own ds [] (wipeE E own) with
      | .ok acc E1 => .ok (.own (.lst acc)) (backE E E1 own)
      | _ => .bad) else .bad := by rw [ev] <;> rfl
theorem wipe_len (E : SE) : ∀ own : List Nat, (wipeE E own).length = E.length
  | [] => rfl
  | i :: r => by rw [wipeE, List.length_set, wipe_len E r]
theorem wipe_get (E : SE) : ∀ (own : List Nat) (j : Nat), (wipeE E own)[j]? = if j ∈ own ∧ j < E.length then some .no else E[j]?
  | [], j => by simp [wipeE]
  | i :: r, j => by
    rw [wipeE, getE_set, wipe_len, wipe_get E r]
    by_cases h : i = j
    · subst h
      by_cases h2 : i < E.length
      · simp [h2]
      · simp [h2]
    · rw [if_neg h]
      have : (j ∈ i :: r) = (j ∈ r) := by simp [Ne.symm h]
      simp only [this]
theorem wipe_wipe (E : SE) (own : List Nat) : wipeE (wipeE E own) own = wipeE E own := by
  apply List.ext_getElem?
  intro j
  rw [wipe_get, wipe_get, wipe_len]
  split <;> rfl
theorem back_len (E0 E : SE) : ∀ own : List Nat, (backE E0 E own).length = E.length
  | [] => rfl
  | i :: r => by rw [backE, List.length_set, back_len E0 E r]
theorem back_get (E0 E : SE) : ∀ (own : List Nat) (j : Nat), (backE E0 E own)[j]? = if j ∈ own ∧ j < E.length then some (E0.getD j .no) else E[j]?
  | [], j => by simp [backE]
  | i :: r, j => by
    rw [backE, getE_set, back_len, back_get E0 E r]
    by_cases h : i = j
    · subst h
      by_cases h2 : i < E.length
      · simp [h2]
      · simp [h2]
    · rw [if_neg h]
      have : (j ∈ i :: r) = (j ∈ r) := by simp [Ne.symm h]
      simp only [this]
theorem back_wipe (E : SE) (own : List Nat) : backE E (wipeE E own) own = E := by
  apply List.ext_getElem?
  intro j
  rw [back_get, wipe_get, wipe_len]
  by_cases h : j ∈ own ∧ j < E.length
  · rw [if_pos h]; simp [h.2]
  · rw [if_neg h, if_neg h]
/-- a comprehension that leaves the slots alone -/
theorem lc_flt {α : Type} {Φ : Nat → M Sl} {C : Nat → D} {elt : E} {tg : Tgt} {it : E} {ifs : List E} {own : List Nat} {E0 E : SE} {xs : List α} {g f : α → D} {p : α → Bool} (hi : evI Φ C it E0 = .ok (xs.map g) E) (hn : notOwn E own = true) (hz : xs.length ≤ 16777216)
    (hb : ∀ x ∈ xs, ∃ E1, bindT tg (g x) (wipeE E own) = some E1 ∧ lcI.allT (evTs Φ C ifs) E1 = .ok (p x) E1 ∧ (p x = true → ∃ s, ev Φ C elt E1 = .ok s E1 ∧ s.d = f x) ∧ wipeE E1 own = wipeE E own) : ev Φ C (.lc elt tg it ifs own) E0 = .ok (.own (.lst ((xs.filter p).map f))) E := by
  rw [ev_lc, s_bind, hi, s_ok, if_pos hn, lcI_flt (wipe_wipe E own) xs [] (by rw [sizeLine_eq]; simpa using hz) hb]
  simp [back_wipe]
theorem lc_map {α : Type} {Φ : Nat → M Sl} {C : Nat → D} {elt : E} {tg : Tgt} {it : E} {own : List Nat} {E0 E : SE} {xs : List α} {g f : α → D} (hi : evI Φ C it E0 = .ok (xs.map g) E) (hn : notOwn E own = true) (hz : xs.length ≤ 16777216)
    (hb : ∀ x ∈ xs, ∃ E1, bindT tg (g x) (wipeE E own) = some E1 ∧ (∃ s, ev Φ C elt E1 = .ok s E1 ∧ s.d = f x) ∧ wipeE E1 own = wipeE E own) : ev Φ C (.lc elt tg it [] own) E0 = .ok (.own (.lst (xs.map f))) E := by
  have := lc_flt (ifs := []) (p := fun _ => true) hi hn hz (fun x hx => by
    obtain ⟨E1, h1, h2, h3⟩ := hb x hx
    exact ⟨E1, h1, by simp [evTs, lcI.allT], fun _ => h2, h3⟩)
  rw [List.filter_eq_self.mpr (fun _ _ => rfl)] at this
  exact this
/-- .. of all -/
theorem all_true {Φ : Nat → M Sl} {C : Nat → D} {e : E} {E0 E : SE} {ds : List D} (h : ev Φ C e E0 = .ok (.own (.lst ds)) E) (ht : ∀ d ∈ ds, d = .bl true) (hv : opd Φ C e = .ex (ev Φ C e)) : ev Φ C (.bi .all [e]) E0 = .ok (.val (.bl true)) E := by
  have e1 : ev Φ C (.bi .all [e]) = M.bind (evA [opd Φ C e]) fun ds => M.opt (biS .all ds) := by rw [ev]; simp [opds]
  rw [e1, hv, s_bind, s_evA2, h]
  have hb := blsOf_true ds ht
  simp [Sl.d, weakD, biS, hb, vB]
theorem opd_lc (Φ : Nat → M Sl) (C : Nat → D) (elt : E) (tg : Tgt) (it : E) (ifs : List E) (own : List Nat) : opd Φ C (.lc elt tg it ifs own) = .ex (ev Φ C (.lc elt tg it ifs own)) := by simp only [opd]
theorem rng_len (n : Int) : (rngD 0 n).length = n.toNat := by simp [rngD]
theorem rng_mem {n : Int} {d : D} (h : d ∈ rngD 0 n) : ∃ i : Nat, (i : Int) < n ∧ d = .int i := by
  unfold rngD at h
  obtain ⟨i, hi, rfl⟩ := List.mem_map.mp h
  refine ⟨i, ?_, by simp⟩
  have := List.mem_range.mp hi
  omega
theorem rng_map (n : Int) : rngD 0 n = (List.range n.toNat).map fun (i : Nat) => D.int i := by simp [rngD]
/-! ### the law from its cells -/
def CELLSB : List S := [.ret (.lr1 (.bi .max [(.int 1), (.bi .min [(.var 1), (.bi .len [(.var 0)])])]))]
def CellsF (F : M Sl) (k : Int) : Prop := ∀ {ns : List Int}, ns.length ≤ 63 → ∃ m : Int, 1 ≤ m ∧ m ≤ k ∧ (m ≤ ns.length ∨ (ns = [] ∧ m = 1)) ∧ F [.val (.scr ns), .val (.int k)] = .ok (.own (.lst (rngD 0 m))) [.val (.scr ns), .val (.int k)]
theorem cells_gen (Φ : Nat → M Sl) (C : Nat → D) {k : Int} (hk : 1 ≤ k ∧ k ≤ 3) : CellsF (fnS Φ C 2 [] CELLSB) k := by
  intro ns hz
  obtain ⟨n, hn⟩ : ∃ n : Int, n = if (ns.length : Int) < k then (ns.length : Int) else k := ⟨_, rfl⟩
  obtain ⟨m, hm⟩ : ∃ m : Int, m = if 1 < n then n else 1 := ⟨_, rfl⟩
  have b : 1 ≤ m ∧ m ≤ k := by rw [hm, hn]; split <;> split <;> omega
  refine ⟨m, b.1, b.2, ?_, ?_⟩
  · rcases ns with _ | ⟨x, ns⟩
    · right; refine ⟨rfl, ?_⟩; rw [hm, hn]; simp; omega
    · left; rw [hm, hn]; simp only [List.length_cons]; split <;> split <;> omega
  · have lr : lrS 0 m = some (.own (.lst (rngD 0 m))) := by
      unfold lrS; rw [if_pos]; omega
    unfold CELLSB
    simp [fnS, exs, ex, ev, opd, opds, biS, lenD, vI, Sl.d, weakD, wipeE, ← hn, ← hm, lr1S, lr]
def RightF (F : M Sl) : Prop := ∀ l, PotOk 0 l → ∃ E, F [.own (.lst l)] = .ok (vB true) E
/-- all([right(pot(script, place)) for place in cells(script, k)]) -/
theorem cells_all {Φ : Nat → M Sl} {C : Nat → D} {r p c : Nat} {k : Int} (hk : k ≤ 3) (hr : RightF (Φ r)) (hp : PotF (Φ p)) (hc : CellsF (Φ c) k) {ns : List Int} (hz : ns.length ≤ 63) :
    ev Φ C (.bi .all [(.lc (.call r [(.call p [(.var 0), (.var 1)])]) (.nm 1) (.call c [(.var 0), (.int k)]) [] [1])]) [.val (.scr ns), .no] = .ok (.val (.bl true)) [.val (.scr ns), .no] := by
  obtain ⟨m, m1, m2, m3, ec⟩ := hc hz
  refine all_true (ds := (rngD 0 m).map fun _ => .bl true) ?_ (fun d hd => by obtain ⟨_, _, e⟩ := List.mem_map.mp hd; exact e.symm) (opd_lc ..)
  refine lc_map (xs := rngD 0 m) (g := fun d => d) (f := fun _ => .bl true) ?_ (by simp [notOwn]) (by rw [rng_len]; omega) fun d hd => ?_
  · simp [evI, ev, args, callS, evC, popS, vI, ec, itemsD, Sl.d, putBack]
  · obtain ⟨i, hi, rfl⟩ := rng_mem hd
    obtain ⟨l, hl, ep⟩ := hp (ns := ns) (i := i) (by omega) hz (by rcases m3 with h | ⟨h, h2⟩; exact .inl (by omega); exact .inr ⟨h, by omega⟩)
    obtain ⟨E, er⟩ := hr l hl
    refine ⟨[.val (.scr ns), .val (.int i)], by simp [bindT, wipeE], ⟨vB true, ?_, rfl⟩, by simp [wipeE]⟩
    simp [ev, args, callS, evC, ep, popS, putBack, putBack_ex, er]
def LAWB (r p c : Nat) (k : Int) : List S := [.ret (.bi .all [(.lc (.call r [(.call p [(.var 0), (.var 1)])]) (.nm 1) (.call c [(.var 0), (.int k)]) [] [1])])]
theorem law_gen {Φ : Nat → M Sl} {C : Nat → D} {r p c : Nat} {k : Int} (hk : k ≤ 3) (hr : RightF (Φ r)) (hp : PotF (Φ p)) (hc : CellsF (Φ c) k) (ns : List Int) (hz : ns.length ≤ 63) : ∃ E, fnS Φ C 2 [] (LAWB r p c k) [.val (.scr ns)] = .ok (.val (.bl true)) E := by
  refine ⟨[.val (.scr ns)], ?_⟩
  unfold LAWB
  have := cells_all (C := C) hk hr hp hc hz
  rw [fnS]
  simp only [exs, ex, List.length_cons, List.length_nil, List.replicate, List.append, List.cons_append, List.nil_append]
  simp [this, wipeE]
end Lw
end

section
set_option Elab.async false
set_option linter.all false
set_option maxRecDepth 100000
set_option maxHeartbeats 2000000
/-! G2: for all laws: loops, what is shown, equality, exceptions heard -/
namespace Lw
open PySem L2 PyProof.Rows
/-! ### loops -/
theorem forI_fold {α β : Type} {bt : D → SE → Option SE} {b : SE → SR} {g : α → D} {f : β → α → β} (I : β → SE → Prop) : ∀ (xs : List α)
    (step : ∀ x ∈ xs, ∀ a E, I a E → ∃ E1 E2, bt (g x) E = some E1 ∧ (b E1 = .nx E2 ∨ b E1 = .ct E2) ∧ I (f a x) E2) (a : β) (E : SE), I a E → ∃ E', forI bt b (xs.map g) E = .nx E' ∧ I (xs.foldl f a) E'
  | [], _, a, E, h => ⟨E, rfl, h⟩
  | x :: xs, step, a, E, h => by
    obtain ⟨E1, E2, h1, h2, h3⟩ := step x List.mem_cons_self a E h
    obtain ⟨E', e, i⟩ := forI_fold I xs (fun y hy => step y (List.mem_cons_of_mem _ hy)) (f a x) E2 h3
    refine ⟨E', ?_, i⟩
    rw [List.map_cons, forI, h1]
    rcases h2 with h2 | h2 <;> simp [h2, e]
theorem forI_foldI {α β : Type} {bt : D → SE → Option SE} {b : SE → SR} {g : α → D} {f : β → α → β} (I : Nat → β → SE → Prop) : ∀ (xs : List α) (n : Nat)
    (step : ∀ i x, xs[i]? = some x → ∀ a E, I (n + i) a E → ∃ E1 E2, bt (g x) E = some E1 ∧ (b E1 = .nx E2 ∨ b E1 = .ct E2) ∧ I (n + i + 1) (f a x) E2) (a : β) (E : SE), I n a E → ∃ E', forI bt b (xs.map g) E = .nx E' ∧ I (n + xs.length) (xs.foldl f a) E'
  | [], n, _, a, E, h => ⟨E, rfl, h⟩
  | x :: xs, n, step, a, E, h => by
    obtain ⟨E1, E2, h1, h2, h3⟩ := step 0 x rfl a E h
    obtain ⟨E', e, i⟩ := forI_foldI I xs (n + 1) (fun i y hy a E q => by
      have := step (i + 1) y (by simpa using hy) a E (by rw [show n + (i + 1) = n + 1 + i by omega]; exact q)
      rw [show n + 1 + i + 1 = n + (i + 1) + 1 by omega]; exact this) (f a x) E2 h3
    refine ⟨E', ?_, by rw [List.length_cons, show n + (xs.length + 1) = n + 1 + xs.length by omega]; exact i⟩
    rw [List.map_cons, forI, h1]
    rcases h2 with h2 | h2 <;> simp [h2, e]
def TurnOk (I : SE → Prop) (Post : SR → Prop) : SR → Prop
  | .nx E => I E
  | .ct E => I E
  | .bk E => Post (.nx E)
  | .rt s E => Post (.rt s E)
  | _ => False
theorem forI_ind {bt : D → SE → Option SE} {b : SE → SR} (I : Nat → SE → Prop) (Post : SR → Prop) (ds : List D) (step : ∀ i E d, ds[i]? = some d → I i E → ∃ E1, bt d E = some E1 ∧ TurnOk (I (i + 1)) Post (b E1)) (stop : ∀ E, I ds.length E → Post (.nx E)) :
    ∀ E, I 0 E → Post (forI bt b ds E) := by
  have go : ∀ k (r : List D), k ≤ ds.length → ds.drop k = r → ∀ E, I k E → Post (forI bt b r E) := by
    intro k r
    induction r generalizing k with
    | nil =>
      intro hk2 h E i
      have hk : ds.length ≤ k := by
        have := congrArg List.length h; simp at this; omega
      have : k = ds.length := by omega
      subst this
      rw [forI]; exact stop E i
    | cons d r ih =>
      intro hk2 h E i
      have hd : ds[k]? = some d := by
        have := congrArg (·[0]?) h
        simpa using this
      have hk3 : k + 1 ≤ ds.length := by
        rcases Nat.lt_or_ge k ds.length with q | q
        · exact q
        · rw [List.getElem?_eq_none q] at hd; cases hd
      have hr : ds.drop (k + 1) = r := by
        rw [← List.drop_drop, h]; rfl
      obtain ⟨E1, e1, t⟩ := step k E d hd i
      rw [forI, e1]
      dsimp only
      cases eb : b E1 with
      | nx E2 => rw [eb] at t; exact ih (k + 1) hk3 hr E2 t
      | ct E2 => rw [eb] at t; exact ih (k + 1) hk3 hr E2 t
      | bk E2 => rw [eb] at t; exact t
      | rt s E2 => rw [eb] at t; exact t
      | exc C x E2 => rw [eb] at t; exact t.elim
      | bad => rw [eb] at t; exact t.elim
  exact fun E i => go 0 ds (Nat.zero_le _) rfl E i
/-- turns that draw: some invariant of what is kept and the slots -/
theorem lcI_ind {bt : D → SE → Option SE} {tests : List (M Bool)} {elt : M Sl} {own : List Nat} (I : Nat → List D → SE → Prop) (ds : List D)
    (step : ∀ i acc E d, ds[i]? = some d → I i acc E → ∃ E1 E2 b, bt d (wipeE E own) = some E1 ∧ lcI.allT tests E1 = .ok b E2 ∧
      (b = true → ∃ s E3, elt E2 = .ok s E3 ∧ acc.length < sizeLine ∧ I (i + 1) (acc ++ [s.d]) (wipeE E3 own)) ∧ (b = false → I (i + 1) acc (wipeE E2 own))) :
    ∀ acc E, I 0 acc E → ∃ acc' E', lcI bt tests elt own ds acc E = .ok acc' E' ∧ I ds.length acc' E' := by
  have go : ∀ k (r : List D), k ≤ ds.length → ds.drop k = r → ∀ acc E, I k acc E → ∃ acc' E', lcI bt tests elt own r acc E = .ok acc' E' ∧ I ds.length acc' E' := by
    intro k r
    induction r generalizing k with
    | nil =>
      intro hk2 h acc E i
      have hk : ds.length ≤ k := by
        have := congrArg List.length h; simp at this; omega
      have : k = ds.length := by omega
      subst this
      exact ⟨acc, E, by rw [lcI]; rfl, i⟩
    | cons d r ih =>
      intro hk2 h acc E i
      have hd : ds[k]? = some d := by
        have := congrArg (·[0]?) h
        simpa using this
      have hk3 : k + 1 ≤ ds.length := by
        rcases Nat.lt_or_ge k ds.length with q | q
        · exact q
        · rw [List.getElem?_eq_none q] at hd; cases hd
      have hr : ds.drop (k + 1) = r := by
        rw [← List.drop_drop, h]; rfl
      obtain ⟨E1, E2, b, e1, e2, h1, h2⟩ := step k acc E d hd i
      rw [lcI]
      simp only [e1, e2, s_ok]
      cases b with
      | true =>
        obtain ⟨s, E3, e3, hz, i2⟩ := h1 rfl
        simp only [if_true, e3, s_ok]
        rw [if_pos hz]
        exact ih (k + 1) hk3 hr _ _ i2
      | false =>
        simp only [Bool.false_eq_true, if_false]
        exact ih (k + 1) hk3 hr _ _ (h2 rfl)
  exact fun acc E i => go 0 ds (Nat.zero_le _) rfl acc E i
/-- [e for _ in range(m)], e draws: its values have P -/
theorem lc_draw {Φ : Nat → M Sl} {C : Nat → D} {elt : E} {it : E} {j : Nat} {E0 : SE} {m : Nat} {P : D → Prop} {st : List D → SE} {n : Int} {k : Nat}
    (hi : evI Φ C it E0 = .ok ((List.range m).map fun (i : Nat) => D.int i) (st L0)) (hp : PotOk n L0) (hm : m ≤ 1000) (hn : notOwn (st L0) [j] = true)
    (hb : ∀ (i : Nat) (l : List D), i < m → PotOk (n + k * i) l → ∃ (s : Sl) (l' : List D), P s.d ∧ PotOk (n + k * (i + 1 : Nat)) l' ∧ ev Φ C elt ((wipeE (st l) [j]).set j (.val (.int i))) = .ok s ((wipeE (st l') [j]).set j (.val (.int i))))
    (hj : ∀ l, j < (st l).length ∧ backE (st L0) (wipeE (st l) [j]) [j] = st l) :
    ∃ (ds : List D) (l' : List D), ds.length = m ∧ (∀ d ∈ ds, P d) ∧ PotOk (n + k * m) l' ∧ ev Φ C (.lc elt (.nm j) it [] [j]) E0 = .ok (.own (.lst ds)) (st l') := by
  obtain ⟨acc, E', el, l2, h1, h2, h3, h4⟩ := lcI_ind (bt := bindT (.nm j)) (tests := evTs Φ C []) (elt := ev Φ C elt) (own := [j])
    (fun i acc E => ∃ l2 : List D, acc.length = i ∧ (∀ d ∈ acc, P d) ∧ PotOk (n + k * i) l2 ∧ E = wipeE (st l2) [j]) ((List.range m).map fun (i : Nat) => D.int i)
    (fun i acc E d hd ⟨l2, h1, h2, h3, h4⟩ => by
      have hil : i < m := by
        rcases Nat.lt_or_ge i m with q | q
        · exact q
        · rw [List.getElem?_eq_none (by simpa using q)] at hd; cases hd
      have hd' : d = .int i := by
        rw [List.getElem?_map, List.getElem?_range hil] at hd; simpa using hd.symm
      subst hd' h4
      obtain ⟨s, l', q1, q2, q3⟩ := hb i l2 hil h3
      refine ⟨(wipeE (st l2) [j]).set j (.val (.int i)), (wipeE (st l2) [j]).set j (.val (.int i)), true, ?_, by simp [evTs, lcI.allT], fun _ => ⟨s, _, q3, by rw [sizeLine_eq]; omega, l', by simp [h1], ?_, q2, ?_⟩, fun z => by cases z⟩
      · rw [wipe_wipe, bind_nm, wipe_len, if_pos (hj l2).1]
      · intro d hd
        rcases List.mem_append.mp hd with hd | hd
        · exact h2 d hd
        · simp at hd; subst hd; exact q1
      · simp [wipeE]) [] (wipeE (st L0) [j]) ⟨L0, rfl, fun d hd => (List.not_mem_nil hd).elim, by simpa using hp, rfl⟩
  have e0 : (([] : List D) ++ acc) = acc := rfl
  refine ⟨acc, l2, by simpa using h1, h2, by simpa using h3, ?_⟩
  rw [ev_lc, s_bind, hi, s_ok, if_pos hn, el, h4]
  dsimp only
  rw [(hj l2).2]
/-! ### texts -/
theorem strOk_app (a b : Str) (ha : PyData.strOk a = true) (hb : PyData.strOk b = true) : PyData.strOk (a ++ b) = true := by
  unfold PyData.strOk at *
  have e : (a ++ b).cps = a.cps ++ b.cps := rfl
  rw [e, Array.all_append, ha, hb]; rfl
theorem strOk_join (sep : Str) (hs : PyData.strOk sep = true) : ∀ ts : List Str, (∀ x ∈ ts, PyData.strOk x = true) → PyData.strOk (Str.join sep ts) = true
  | [], _ => by simp only [Str.join]; decide +kernel
  | [x], h => by simp only [Str.join]; exact h x List.mem_cons_self
  | x :: y :: r, h => by
    rw [Str.join]
    · exact strOk_app _ _ (strOk_app _ _ (h x List.mem_cons_self) hs) (strOk_join sep hs (y :: r) fun z hz => h z (List.mem_cons_of_mem _ hz))
    · intro z; cases z
theorem strOk_tupT {ts : List Str} (h : ∀ x ∈ ts, PyData.strOk x = true) : PyData.strOk (tupleText ts) = true := by
  unfold tupleText
  refine strOk_app _ _ (strOk_app _ _ (by decide +kernel) (strOk_join _ (by decide +kernel) ts h)) ?_
  split <;> decide +kernel
theorem strOk_int (i : Int) : PyData.strOk (Str.ofString (toString i)) = true := by
  unfold PyData.strOk
  rw [Array.all_eq_true_iff_forall_mem]
  intro c hc
  have hc' : c ∈ (Str.ofString (toString i)).cps.toList := by simpa using hc
  by_cases h : c < 0x110000
  · simpa using h
  · exact absurd hc' (int_text_free' c ⟨by omega, by omega⟩ i)
/-- data that are shown: how deep, of what weight -/
def Sh (k n : Nat) (d : D) : Prop := ∃ p, d.pd = some p ∧ p.showable = true ∧ p.hasDict = false ∧ p.depth ≤ k ∧ p.leavesShort 13 = true ∧ p.weight ≤ n ∧ PyData.strOk p.shown = true
theorem Sh.mono {k n k' n' : Nat} {d : D} (h : Sh k n d) (hk : k ≤ k') (hn : n ≤ n') : Sh k' n' d := by
  obtain ⟨p, h1, h2, h3, h4, h5, h6, h7⟩ := h
  exact ⟨p, h1, h2, h3, by omega, h5, by omega, h7⟩
theorem Sh.int {i : Int} (h : i.natAbs < 10 ^ 12) : Sh 0 40 (.int i) := by
  have h1 : i.natAbs.log2 < 1920 := Nat.lt_of_lt_of_le (log_lt (k := 40) (by decide) (Nat.lt_trans h (by decide))) (by decide)
  have h2 := PyData.shown_int_le h
  have h40 : i.natAbs.log2 < 40 := log_lt (k := 40) (by decide) (Nat.lt_trans h (by decide))
  exact ⟨.int i, by simp [D.pd], by simp [PyData.showable, h1], by simp [PyData.hasDict], by simp [PyData.depth], by simp only [PyData.leavesShort]; exact decide_eq_true h2, by simp only [PyData.weight]; split <;> omega, by simp only [PyData.shown]; exact strOk_int i⟩
theorem Sh.non : Sh 0 40 .non := ⟨.none, by simp [D.pd], by decide +kernel, by decide +kernel, by decide +kernel, by decide +kernel, by decide +kernel, by decide +kernel⟩
theorem Sh.bl (b : Bool) : Sh 0 40 (.bl b) := ⟨.bool b, by simp [D.pd], by cases b <;> decide +kernel, by cases b <;> decide +kernel, by cases b <;> decide +kernel, by cases b <;> decide +kernel, by cases b <;> decide +kernel, by cases b <;> decide +kernel⟩
theorem sh_all {k n : Nat} : ∀ ds : List D, (∀ d ∈ ds, Sh k n d) → ∃ ps, D.pds ds = some ps ∧ PyData.showableAll ps = true ∧ PyData.hasDictAll ps = false ∧ PyData.depthAll ps ≤ k ∧ PyData.leavesShortAll 13 ps = true ∧ PyData.weightAll ps ≤ (n + 1) * ds.length ∧ ∀ x ∈ PyData.shownAll ps, PyData.strOk x = true
  | [], _ => ⟨[], by simp [D.pds], by simp [PyData.showableAll, PyData.hasDictAll, PyData.depthAll, PyData.leavesShortAll, PyData.weightAll, PyData.shownAll]⟩
  | d :: ds, h => by
    obtain ⟨p, h1, h2, h3, h4, h5, h6, h7⟩ := h d List.mem_cons_self
    obtain ⟨ps, a0, a1, a2, a3, a4, a5, a6⟩ := sh_all ds fun q hq => h q (List.mem_cons_of_mem _ hq)
    refine ⟨p :: ps, by simp [D.pds, h1, a0], by simp [PyData.showableAll, h2, a1], by simp [PyData.hasDictAll, h3, a2], by simp [PyData.depthAll]; omega, by simp [PyData.leavesShortAll, h5, a4], ?_, ?_⟩
    · simp only [PyData.weightAll, List.length_cons, Nat.mul_add, Nat.mul_one]; omega
    · intro x hx
      simp only [PyData.shownAll, List.mem_cons] at hx
      rcases hx with rfl | hx
      · exact h7
      · exact a6 x hx
theorem Sh.tup {k n m : Nat} {ds : List D} (h : ∀ d ∈ ds, Sh k n d) (hm : (n + 1) * ds.length ≤ m) : Sh (k + 1) m (.tup ds) := by
  obtain ⟨ps, a0, a1, a2, a3, a4, a5, a6⟩ := sh_all ds h
  exact ⟨.tuple ps, by simp [D.pd, a0], by simp only [PyData.showable]; exact a1, by simp only [PyData.hasDict]; exact a2, by simp only [PyData.depth]; omega, by simp only [PyData.leavesShort]; exact a4, by simp only [PyData.weight]; omega, by simp only [PyData.shown]; exact strOk_tupT a6⟩
theorem Sh.ptup {k n m : Nat} {ds : List D} (h : ∀ d ∈ ds, Sh k n d) (hm : (n + 1) * ds.length ≤ m) : Sh (k + 1) m (.ptup ds) := by
  obtain ⟨p, h1, h2⟩ := Sh.tup h hm
  exact ⟨p, by simpa [D.pd] using h1, h2⟩
theorem Sh.repr {k n : Nat} {d : D} (h : Sh k n d) (hk : k ≤ 60) (hn : n ≤ 2 ^ 20) : ∃ x, reprD d = some x ∧ PyData.strOk x = true := by
  obtain ⟨p, h1, h2, h3, h4, h5, h6, h7⟩ := h
  have len := PyData.shown_fits (B := 13) (by omega) (by omega) h5 (by omega)
  refine ⟨p.shown, ?_, h7⟩
  have h8 : p.depth ≤ 60 := by omega
  simp [reprD, h1, h2, h3, h8, len]
/-- what is told of a value -/
def told (x : D) : Bool := match reprD x with
  | some r => PyData.strOk r
  | none => false
theorem told_iff {x : D} (h : told x = true) : ∃ r, reprD x = some r ∧ PyData.strOk r = true := by
  unfold told at h
  cases e : reprD x with
  | none => rw [e] at h; cases h
  | some r => rw [e] at h; exact ⟨r, rfl, h⟩
theorem Sh.told {k n : Nat} {d : D} (h : Sh k n d) (hk : k ≤ 60) (hn : n ≤ 2 ^ 20) : told d = true := by
  obtain ⟨x, h1, h2⟩ := h.repr hk hn
  simp [Lw.told, h1, h2]
/-! ### equality -/
theorem shaped_int (i : Int) : SeqAt.shaped (.int i) = true := by simp [SeqAt.shaped, PyData.canLay0, PyData.depth]
theorem shaped_str {x : Str} (h : PyData.strOk x = true) : SeqAt.shaped (.str x) = true := by simp [SeqAt.shaped, PyData.canLay0, PyData.depth, h]
theorem eqD_int (a b : Int) : eqD (.int a) (.int b) = some (a == b) := by simp [eqD, okD, D.py, shaped_int, PyData.eqv]
theorem eqD_str {a b : Str} (ha : PyData.strOk a = true) (hb : PyData.strOk b = true) : eqD (.str a) (.str b) = some (a == b) := by simp [eqD, okD, D.py, shaped_str ha, shaped_str hb, PyData.eqv]
theorem eqD_self {a : Str} (ha : PyData.strOk a = true) : eqD (.str a) (.str a) = some true := by rw [eqD_str ha ha]; simp
/-! ### exceptions heard -/
def ExcAll (C : Str) (E : SE) : List (M Sl) → List D → Prop
  | [], [] => True
  | m :: ms, x :: xs => m E = .exc C x E ∧ ExcAll C E ms xs
  | _, _ => False
theorem el_exc {m : M Sl} {C : Str} {x : D} {E : SE} (h : m E = .exc C x E) : elM m E = .ok (.val (.exc C x)) E := by
  unfold elM
  simp [heardS, h, ixS, atI, ixN, vI, Sl.d, weakD]
theorem seq_all {C : Str} {E : SE} : ∀ {ms : List (M Sl)} {xs : List D}, ExcAll C E ms xs → seqM (ms.map elM) E = .ok (xs.map (.exc C)) E
  | [], [], _ => rfl
  | m :: ms, x :: xs, h => by
    have e1 := el_exc h.1
    have e2 := seq_all h.2
    show seqM (elM m :: ms.map elM) E = _
    rw [seqM]
    simp [e1, e2, Sl.d]
  | [], _ :: _, h => h.elim
  | _ :: _, [], h => h.elim
theorem exc_len {C : Str} {E : SE} : ∀ {ms : List (M Sl)} {xs : List D}, ExcAll C E ms xs → ms.length = xs.length
  | [], [], _ => rfl
  | m :: ms, x :: xs, h => by simp [exc_len h.2]
  | [], _ :: _, h => h.elim
  | _ :: _, [], h => h.elim
theorem x_hears (Φ : Nat → M Sl) (C : Nat → D) (l c : Nat) (es : List E) (E : SE) : ex Φ C (.hears l c es) E = hearsS l c (evs Φ C es) E := by rw [ex]
theorem x_refuse (Φ : Nat → M Sl) (C : Nat → D) (l : Nat) (es : List E) (n : Str) (v : E) (fin : Bool) (E : SE) : ex Φ C (.refuse l es n v fin) E = refuseS l (evs Φ C es) n (ev Φ C v) fin E := by rw [ex]
theorem evs0 (Φ : Nat → M Sl) (C : Nat → D) : evs Φ C [] = [] := by rw [evs]
theorem evs1 (Φ : Nat → M Sl) (C : Nat → D) (e : E) (r : List E) : evs Φ C (e :: r) = ev Φ C e :: evs Φ C r := by rw [evs]
theorem hears_is {Φ : Nat → M Sl} {Cc : Nat → D} {l c : Nat} {es : List E} {C : Str} {xs : List D} {E E0 : SE} (hE : E.set l .no = E0) (hl : l < E.length) (hc : c < E.length) (hz : xs.length ≤ 1000) (h : ExcAll C E0 (evs Φ Cc es) xs) :
    ex Φ Cc (.hears l c es) E = .nx (E0.set c (.own (.lst (xs.map (.exc C))))) := by
  have hlen : (evs Φ Cc es).length ≤ 1000 := by rw [exc_len h]; exact hz
  rw [x_hears]
  unfold hearsS preS
  rw [if_pos ⟨hl, by rw [sizeLine_eq]; omega⟩, hE]
  dsimp only
  rw [seq_all h]
  have : c < E0.length := by rw [← hE, List.length_set]; exact hc
  simp [putS, this]
/-- all([isinstance(miss, C) and repr(miss.value) == repr(odd) ..]): l the slot of the list, j miss, o odd -/
def ALLX (C : Str) (l j o : Nat) : E := .bi .all [.lc (.andV (.isx (.var j) C) (.cmp .Eq (.bi .repr [.xval (.var j)]) (.bi .repr [.var o]))) (.nm j) (.fz l) [] [j]]
theorem fz_list {Φ : Nat → M Sl} {C : Nat → D} {l : Nat} {E : SE} {ds : List D} (h : E[l]? = some (.own (.lst ds)) ∨ E[l]? = some (.val (.lst ds)) ∨ E[l]? = some (.val (.tup ds)) ∨ E[l]? = some (.val (.ptup ds))) :
    evI Φ C (.fz l) E = .ok ds (match E[l]? with | some (.own d) => E.set l (.val d) | _ => E) := by
  rcases h with h | h | h | h <;> simp [evI, ev, fzS, h, Sl.d, itemsD]
theorem x_setv {Φ : Nat → M Sl} {C : Nat → D} {i : Nat} {e : E} {E E1 : SE} {s : Sl} (h : ev Φ C e E = .ok s E1) (hs : s ≠ .no) (hl : i < E1.length) : ex Φ C (.set i e) E = .nx (E1.set i s) := by
  rw [ex]
  dsimp only
  rw [h]
  cases s with
  | no => exact absurd rfl hs
  | val d => simp [SR.of, putS, hl]
  | own d => simp [SR.of, putS, hl]
theorem exs_0 (Φ : Nat → M Sl) (C : Nat → D) (E : SE) : exs Φ C [] E = .nx E := by rw [exs]
theorem exs_1 (Φ : Nat → M Sl) (C : Nat → D) (a : S) (r : List S) (E : SE) : exs Φ C (a :: r) E = (ex Φ C a E).then (exs Φ C r) := by rw [exs]
theorem exs_step {Φ : Nat → M Sl} {C : Nat → D} {a : S} {r : List S} {E E' : SE} {R : SR} (h : ex Φ C a E = .nx E') (h2 : exs Φ C r E' = R) : exs Φ C (a :: r) E = R := by
  rw [exs_1, h]; exact h2
theorem exs_rt {Φ : Nat → M Sl} {C : Nat → D} {a : S} {r : List S} {E E' : SE} {s : Sl} (h : ex Φ C a E = .rt s E') : exs Φ C (a :: r) E = .rt s E' := by
  rw [exs_1, h]; rfl
theorem exs_xc {Φ : Nat → M Sl} {C : Nat → D} {a : S} {r : List S} {E E' : SE} {n : Str} {x : D} (h : ex Φ C a E = .exc n x E') : exs Φ C (a :: r) E = .exc n x E' := by
  rw [exs_1, h]; rfl
theorem fn_rt {Φ : Nat → M Sl} {C : Nat → D} {n : Nat} {body : List S} {ss ps : List Sl} {s : Sl} {E : SE} (h : exs Φ C body (ss ++ List.replicate (n - ss.length) .no) = .rt s E) (h2 : E.take ss.length = ps) : fnS Φ C n [] body ss = .ok s ps := by
  unfold fnS
  rw [h]
  simp [wipeE, h2]
theorem fn_nx {Φ : Nat → M Sl} {C : Nat → D} {n : Nat} {body : List S} {ss ps : List Sl} {E : SE} (h : exs Φ C body (ss ++ List.replicate (n - ss.length) .no) = .nx E) (h2 : E.take ss.length = ps) : fnS Φ C n [] body ss = .ok (.val .non) ps := by
  unfold fnS
  rw [h]
  simp [wipeE, h2]
theorem x_for {Φ : Nat → M Sl} {C : Nat → D} {tg : Tgt} {it : E} {a : List S} {E E1 : SE} {ds : List D} (h : evI Φ C it E = .ok ds E1) : ex Φ C (.for_ tg it a) E = forI (bindT tg) (exs Φ C a) ds E1 := by
  rw [ex]; dsimp only; rw [h]; rfl
theorem x_ite {Φ : Nat → M Sl} {C : Nat → D} {c : E} {a b : List S} {E E1 : SE} {k : Bool} (h : evT Φ C c E = .ok k E1) : ex Φ C (.ite c a b) E = if k then exs Φ C a E1 else exs Φ C b E1 := by
  rw [ex]; dsimp only; rw [h]; cases k <;> rfl
theorem x_ret {Φ : Nat → M Sl} {C : Nat → D} {e : E} {E E1 : SE} {s : Sl} (h : ev Φ C e E = .ok s E1) : ex Φ C (.ret e) E = .rt s E1 := by
  rw [ex]; dsimp only; rw [h]; rfl
/-- if repr(a) != repr(b): .. -/
theorem repr_ne {Φ : Nat → M Sl} {C : Nat → D} {a b : E} {E E1 E2 : SE} {d : D} {s t : Sl} (h : told d = true) (ha : ev Φ C a E = .ok s E1) (hs : weakD s.d = d) (hb : ev Φ C b E1 = .ok t E2) (ht : weakD t.d = d)
    (oa : opd Φ C a = .ex (ev Φ C a)) (ob : opd Φ C b = .ex (ev Φ C b)) : evT Φ C (.cmp .NotEq (.bi .repr [a]) (.bi .repr [b])) E = .ok false E2 := by
  obtain ⟨x, hx, hx2⟩ := told_iff h
  have q := eqD_self hx2
  have e1 : ∀ k, ev Φ C (.bi .repr [k]) = M.bind (evA [opd Φ C k]) fun ds => M.opt (biS .repr ds) := fun k => by rw [ev]; simp [opds]
  have e2 : ∀ k, opd Φ C (.bi .repr [k]) = .ex (ev Φ C (.bi .repr [k])) := fun k => by simp only [opd]
  have e3 : opd Φ C (.cmp .NotEq (.bi .repr [a]) (.bi .repr [b])) = .ex (ev Φ C (.cmp .NotEq (.bi .repr [a]) (.bi .repr [b]))) := by simp only [opd]
  have e4 : ev Φ C (.cmp .NotEq (.bi .repr [a]) (.bi .repr [b])) = M.bind (evA [opd Φ C (.bi .repr [a]), opd Φ C (.bi .repr [b])]) fun ds => M.opt (match ds with | [x, y] => cmpS .NotEq x y | _ => none) := by rw [ev] <;> rfl
  have hr : ev Φ C (.cmp .NotEq (.bi .repr [a]) (.bi .repr [b])) E = .ok (vB false) E2 := by
    rw [e4, s_bind, e2, e2, s_evA2, e1, s_bind, oa, s_evA2, ha]
    simp only [s_ok, s_evA0, hs, biS, hx, Option.map_some, s_some, s_pure]
    rw [s_evA2, e1, s_bind, ob, s_evA2, hb]
    simp only [s_ok, s_evA0, ht, biS, hx, Option.map_some, s_some, s_pure]
    simp [cmpS, Sl.d, weakD, q, vB]
  rw [evT_cmp, s_bind, e3, s_evA2, hr]
  simp [Sl.d, weakD, vB, truthD]
end Lw
end

section
set_option Elab.async false
set_option linter.all false
set_option maxRecDepth 100000
set_option maxHeartbeats 2000000
/-! G3: for all laws: dicts, sorted -/
namespace Lw
open PySem L2 PyProof.Rows
section
variable {κ β : Type} [DecidableEq κ]
/-- in its place, or at the end -/
def putL (kvs : List (κ × β)) (k : κ) (v : β) : List (κ × β) := if k ∈ kvs.map (·.1) then kvs.map (fun kv => if kv.1 = k then (kv.1, v) else kv) else kvs ++ [(k, v)]
def getL (kvs : List (κ × β)) (k : κ) : Option β := (kvs.find? fun kv => decide (kv.1 = k)).map (·.2)
theorem getL_none {kvs : List (κ × β)} {k : κ} : getL kvs k = none ↔ k ∉ kvs.map (·.1) := by
  unfold getL
  rw [Option.map_eq_none_iff, List.find?_eq_none]
  simp only [decide_eq_true_eq, List.mem_map, not_exists, not_and]
theorem getL_some {kvs : List (κ × β)} {k : κ} (h : k ∈ kvs.map (·.1)) : ∃ v, getL kvs k = some v := by
  cases e : getL kvs k with
  | none => exact absurd h (getL_none.mp e)
  | some v => exact ⟨v, rfl⟩
theorem getL_mem {kvs : List (κ × β)} {k : κ} {v : β} (h : getL kvs k = some v) : (k, v) ∈ kvs := by
  unfold getL at h
  rw [Option.map_eq_some_iff] at h
  obtain ⟨p, h1, h2⟩ := h
  have h3 := List.find?_some h1
  have h4 := List.mem_of_find?_eq_some h1
  simp only [decide_eq_true_eq] at h3
  subst h3 h2
  exact h4
theorem getL_of {kvs : List (κ × β)} (hn : (kvs.map (·.1)).Nodup) {k : κ} {v : β} (h : (k, v) ∈ kvs) : getL kvs k = some v := by
  obtain ⟨w, hw⟩ := getL_some (List.mem_map.mpr ⟨_, h, rfl⟩)
  have h2 := getL_mem hw
  rw [hw]
  induction kvs with
  | nil => cases h
  | cons p kvs ih =>
    rw [List.map_cons, List.nodup_cons] at hn
    have nk : ∀ x, (k, x) ∈ kvs → p.1 ≠ k := fun x hx e => hn.1 (by rw [e]; exact List.mem_map.mpr ⟨(k, x), hx, rfl⟩)
    rcases List.mem_cons.mp h with e | h'
    · rcases List.mem_cons.mp h2 with e2 | h3
      · rw [← e] at e2; cases e2; rfl
      · exact absurd (by rw [← e]) (nk w h3)
    · have hk := nk v h'
      rcases List.mem_cons.mp h2 with e2 | h3
      · exact absurd (by rw [← e2]) hk
      · refine ih hn.2 h' ?_ h3
        unfold getL at hw ⊢
        rw [List.find?_cons] at hw
        simpa [hk] using hw
theorem putL_keys (kvs : List (κ × β)) (k : κ) (v : β) : (putL kvs k v).map (·.1) = if k ∈ kvs.map (·.1) then kvs.map (·.1) else kvs.map (·.1) ++ [k] := by
  unfold putL
  split
  · rw [List.map_map]; congr 1; funext p; simp only [Function.comp]; split <;> simp_all
  · simp
theorem putL_nodup {kvs : List (κ × β)} {k : κ} {v : β} (h : (kvs.map (·.1)).Nodup) : ((putL kvs k v).map (·.1)).Nodup := by
  rw [putL_keys]
  split
  · exact h
  · rename_i q
    rw [List.nodup_append]
    refine ⟨h, by simp, fun a ha b hb e => ?_⟩
    simp at hb; subst hb; subst e; exact q ha
theorem find_map_other {kvs : List (κ × β)} {k j : κ} {v : β} (h : j ≠ k) : getL (kvs.map fun kv => if kv.1 = k then (kv.1, v) else kv) j = getL kvs j := by
  induction kvs with
  | nil => rfl
  | cons p kvs ih =>
    unfold getL at *
    rw [List.map_cons, List.find?_cons, List.find?_cons]
    by_cases hp : p.1 = k
    · have : ¬ p.1 = j := fun e => h (e.symm.trans hp)
      simp only [hp, if_true, h.symm, decide_false]
      exact ih
    · simp only [hp, if_false]
      by_cases hj : p.1 = j
      · simp [hj]
      · simp only [hj, decide_false]; exact ih
theorem find_map_same {kvs : List (κ × β)} {k : κ} {v : β} (h : k ∈ kvs.map (·.1)) : getL (kvs.map fun kv => if kv.1 = k then (kv.1, v) else kv) k = some v := by
  induction kvs with
  | nil => cases h
  | cons p kvs ih =>
    unfold getL at *
    rw [List.map_cons, List.find?_cons]
    by_cases hp : p.1 = k
    · simp [hp]
    · simp only [hp, if_false, decide_false]
      rw [List.map_cons, List.mem_cons] at h
      exact ih (h.resolve_left fun e => hp e.symm)
theorem getL_app (xs ys : List (κ × β)) (k : κ) : getL (xs ++ ys) k = (getL xs k).or (getL ys k) := by
  unfold getL
  rw [List.find?_append]
  cases xs.find? fun kv => decide (kv.1 = k) <;> simp
theorem getL_put {kvs : List (κ × β)} {k j : κ} {v : β} : getL (putL kvs k v) j = if j = k then some v else getL kvs j := by
  unfold putL
  split
  · rename_i q
    by_cases h : j = k
    · rw [if_pos h, h, find_map_same q]
    · rw [if_neg h, find_map_other h]
  · rename_i q
    rw [getL_app]
    by_cases h : j = k
    · rw [if_pos h, h, getL_none.mpr q]; simp [getL]
    · rw [if_neg h]
      have : getL [(k, v)] j = none := by simp [getL, Ne.symm h]
      rw [this, Option.or_none]
theorem putL_len (kvs : List (κ × β)) (k : κ) (v : β) : (putL kvs k v).length = if k ∈ kvs.map (·.1) then kvs.length else kvs.length + 1 := by
  unfold putL
  split <;> simp
theorem putL_new {kvs : List (κ × β)} {k : κ} {v : β} (h : k ∉ kvs.map (·.1)) : putL kvs k v = kvs ++ [(k, v)] := by
  unfold putL; rw [if_neg h]
end
theorem putZ_eq {β : Type} (kvs : List (Key × β)) (k : Key) (v : β) : putZ kvs k v = putL kvs k v := by
  unfold putZ putL
  by_cases h : k ∈ kvs.map (·.1)
  · rw [if_pos h, if_pos]
    obtain ⟨p, h1, h2⟩ := List.mem_map.mp h
    rw [List.any_eq_true]
    exact ⟨p, h1, decide_eq_true h2⟩
  · rw [if_neg h, if_neg]
    intro z
    rw [List.any_eq_true] at z
    obtain ⟨p, h1, h2⟩ := z
    exact h (List.mem_map.mpr ⟨p, h1, of_decide_eq_true h2⟩)
theorem putL_map {κ κ' β β' : Type} [DecidableEq κ] [DecidableEq κ'] {f : κ → κ'} (hf : ∀ a b, f a = f b → a = b) (g : β → β') (kvs : List (κ × β)) (k : κ) (v : β) :
    putL (kvs.map fun p => (f p.1, g p.2)) (f k) (g v) = (putL kvs k v).map fun p => (f p.1, g p.2) := by
  unfold putL
  have e : (f k ∈ (kvs.map fun p => (f p.1, g p.2)).map (·.1)) ↔ k ∈ kvs.map (·.1) := by
    simp only [List.mem_map]
    constructor
    · rintro ⟨_, ⟨p, h1, rfl⟩, h2⟩; exact ⟨p, h1, hf _ _ h2⟩
    · rintro ⟨p, h1, rfl⟩; exact ⟨_, ⟨p, h1, rfl⟩, rfl⟩
  by_cases h : k ∈ kvs.map (·.1)
  · rw [if_pos h, if_pos (e.mpr h), List.map_map, List.map_map]
    congr 1; funext p; simp only [Function.comp]
    by_cases q : p.1 = k
    · simp [q]
    · have : ¬ f p.1 = f k := fun z => q (hf _ _ z)
      simp [q, this]
  · rw [if_neg h, if_neg (fun z => h (e.mp z))]; simp
theorem getL_map {κ κ' β β' : Type} [DecidableEq κ] [DecidableEq κ'] {f : κ → κ'} (hf : ∀ a b, f a = f b → a = b) (g : β → β') (kvs : List (κ × β)) (k : κ) :
    getL (kvs.map fun p => (f p.1, g p.2)) (f k) = (getL kvs k).map g := by
  induction kvs with
  | nil => rfl
  | cons p kvs ih =>
    unfold getL at *
    rw [List.map_cons, List.find?_cons, List.find?_cons]
    by_cases q : p.1 = k
    · simp [q]
    · have : ¬ f p.1 = f k := fun z => q (hf _ _ z)
      simp only [q, this, decide_false]; exact ih
/-- a dict's data, of its rows -/
structure KD (κ β : Type) [DecidableEq κ] where
  kf : κ → Key
  inj : ∀ a b, kf a = kf b → a = b
  kd : κ → D
  key : ∀ k, keyD (kd k) = some (kf k)
  back : ∀ k, keyOf (kf k) = kd k
  vf : β → D
section
variable {κ β : Type} [DecidableEq κ] (T : KD κ β)
/-- own or not; walked -/
def dkE (kvs : List (κ × β)) : D := .dk (kvs.map fun p => T.kf p.1) (kvs.map fun p => T.vf p.2)
def dzE (kvs : List (κ × β)) : D := .dz (kvs.map fun p => T.kf p.1) (kvs.map fun p => T.vf p.2)
def IsD (d : D) (kvs : List (κ × β)) : Prop := d = dkE T kvs ∨ d = dzE T kvs
variable {T}
theorem IsD.dict {d : D} {kvs : List (κ × β)} (h : IsD T d kvs) : dictD d = some (kvs.map fun p => T.kf p.1, kvs.map fun p => T.vf p.2) := by
  rcases h with rfl | rfl <;> rfl
theorem IsD.weak {d : D} {kvs : List (κ × β)} (h : IsD T d kvs) : weakD d = d := by
  rcases h with rfl | rfl <;> rfl
theorem isD_dk (kvs : List (κ × β)) : IsD T (dkE T kvs) kvs := .inl rfl
theorem isD_dz (kvs : List (κ × β)) : IsD T (dzE T kvs) kvs := .inr rfl
theorem zip_enc (kvs : List (κ × β)) : (kvs.map fun p => T.kf p.1).zip (kvs.map fun p => T.vf p.2) = kvs.map fun p => (T.kf p.1, T.vf p.2) := List.zip_map'
theorem val_enc (kvs : List (κ × β)) (k : κ) : valZ (kvs.map fun p => T.kf p.1) (kvs.map fun p => T.vf p.2) (T.kf k) = (getL kvs k).map T.vf := by
  unfold valZ
  rw [zip_enc, ← getL_map T.inj T.vf]; rfl
theorem in_enc {d : D} {kvs : List (κ × β)} (h : IsD T d kvs) (k : κ) : cmpS .In (T.kd k) d = some (vB (decide (k ∈ kvs.map (·.1)))) := by
  have e : ∀ j : κ, (kvs.map fun p => T.kf p.1).any (fun i => decide (i = T.kf j)) = decide (j ∈ kvs.map (·.1)) := fun j => by
    rw [Bool.eq_iff_iff, List.any_eq_true, decide_eq_true_iff]
    simp only [List.mem_map, decide_eq_true_eq]
    constructor
    · rintro ⟨_, ⟨p, h1, rfl⟩, h2⟩; exact ⟨p, h1, T.inj _ _ h2⟩
    · rintro ⟨p, h1, rfl⟩; exact ⟨_, ⟨p, h1, rfl⟩, rfl⟩
  rcases h with rfl | rfl <;> simp [cmpS, dkE, dzE, inK, dictD, T.key, e]
theorem ix_enc {d : D} {kvs : List (κ × β)} (h : IsD T d kvs) (k : κ) : ixS d (T.kd k) = (getL kvs k).map fun v => .val (T.vf v) := by
  have e : keyD (T.kd k) = some (T.kf k) := T.key k
  have q := val_enc (T := T) kvs k
  rcases h with rfl | rfl <;> simp only [ixS, dkE, dzE, dictD, e, q, Option.map_map, Function.comp_def]
theorem get_enc {d : D} {kvs : List (κ × β)} (h : IsD T d kvs) (k : κ) {x : D} (hx : flatD x = true) : getS [d, T.kd k, x] = some (.val (((getL kvs k).map T.vf).getD x)) := by
  simp only [getS, h.dict, T.key, hx, if_true, val_enc]
theorem set_enc (kvs : List (κ × β)) (k : κ) (v : β) (hz : kvs.length < 16777216) : setK (dkE T kvs) (T.kd k) (T.vf v) = some (dkE T (putL kvs k v)) := by
  have hz2 : (kvs.map fun p => T.kf p.1).length < sizeLine ∧ (kvs.map fun p => T.kf p.1).length = (kvs.map fun p => T.vf p.2).length := by rw [sizeLine_eq]; simp; omega
  have e := putL_map T.inj T.vf kvs k v
  simp only [setK, dkE, T.key]
  rw [if_pos hz2, zip_enc, putZ_eq, e]
  simp [List.map_map, Function.comp_def]
theorem dk_nil : D.dk [] [] = dkE T [] := rfl
theorem keys_own {i : Nat} {E : SE} {kvs : List (κ × β)} (h : E[i]? = some (.own (dkE T kvs))) : keysM i E = .ok (kvs.map fun p => T.kd p.1) (E.set i (.val (dzE T kvs))) := by
  unfold keysM
  rw [h]
  simp only [dkE, dzE, List.map_map, Function.comp_def, T.back]
theorem keys_val {i : Nat} {E : SE} {kvs : List (κ × β)} (h : E[i]? = some (.val (dzE T kvs))) : keysM i E = .ok (kvs.map fun p => T.kd p.1) E := by
  unfold keysM
  rw [h]
  simp only [dzE, List.map_map, Function.comp_def, T.back]
theorem isDictAt_of {i : Nat} {E : SE} {d : D} {kvs : List (κ × β)} (hd : IsD T d kvs) (h : E[i]? = some (.own d) ∨ E[i]? = some (.val d)) : isDictAt E i = true := by
  unfold isDictAt
  rcases h with h | h <;> rw [h] <;> simp [hd.dict]
end
/-- whole numbers -/
def TII : KD Int Int := ⟨.inl, fun _ _ e => Sum.inl.inj e, .int, fun _ => rfl, fun _ => rfl, .int⟩
/-! ### dict comprehensions -/
theorem dcI_flt {κ β α : Type} [DecidableEq κ] {T : KD κ β} {bt : D → SE → Option SE} {tests : List (M Bool)} {kx vx : M Sl} {own : List Nat} {W : SE} {g : α → D} {p : α → Bool} {kk : α → κ} {vv : α → β} (hW : wipeE W own = W) : ∀ (xs : List α) (acc : List (κ × β)), acc.length + xs.length ≤ 16777216 →
    (acc.map (·.1) ++ (xs.filter p).map kk).Nodup →
    (∀ x ∈ xs, ∃ E1, bt (g x) W = some E1 ∧ lcI.allT tests E1 = .ok (p x) E1 ∧ (p x = true → kx E1 = .ok (.val (T.kd (kk x))) E1 ∧ ∃ s, vx E1 = .ok s E1 ∧ s.d = T.vf (vv x)) ∧ wipeE E1 own = W) →
    dcI bt tests kx vx own (xs.map g) (acc.map fun q => (T.kf q.1, T.vf q.2)) W = .ok ((acc ++ (xs.filter p).map fun x => (kk x, vv x)).map fun q => (T.kf q.1, T.vf q.2)) W
  | [], acc, _, _, _ => by simp [dcI]
  | d :: ds, acc, hz, hn, h => by
    obtain ⟨E1, h1, h2, h3, h5⟩ := h d List.mem_cons_self
    simp only [List.length_cons] at hz
    rw [List.map_cons, dcI]
    simp only [hW, h1, h2, s_ok]
    cases hp : p d with
    | true =>
      obtain ⟨h3, s, h4, h6⟩ := h3 hp
      have sz : (acc.map fun q => (T.kf q.1, T.vf q.2)).length < sizeLine := by rw [sizeLine_eq, List.length_map]; omega
      simp only [if_true, h3, s_ok, h4, T.key, h6, h5]
      rw [if_pos sz]
      have nw : kk d ∉ acc.map (·.1) := by
        intro z
        rw [List.nodup_append] at hn
        exact hn.2.2 _ z (kk d) (by simp [hp]) rfl
      have ep : putZ (acc.map fun q => (T.kf q.1, T.vf q.2)) (T.kf (kk d)) (T.vf (vv d)) = (acc ++ [(kk d, vv d)]).map fun q => (T.kf q.1, T.vf q.2) := by
        rw [putZ_eq, putL_map T.inj T.vf, putL_new nw]
      rw [ep, dcI_flt hW ds (acc ++ [(kk d, vv d)]) (by simp; omega) (by simpa [hp] using hn) fun x hx => h x (List.mem_cons_of_mem _ hx)]
      simp [hp]
    | false =>
      simp only [Bool.false_eq_true, if_false, h5]
      rw [dcI_flt hW ds acc (by omega) (by simpa [hp] using hn) fun x hx => h x (List.mem_cons_of_mem _ hx)]
      simp [hp]
theorem ev_dc (Φ : Nat → M Sl) (C : Nat → D) (kx vx : E) (tg : Tgt) (it : E) (ifs : List E) (own : List Nat) : ev Φ C (.dc kx vx tg it ifs own) = M.bind (evI Φ C it) fun ds => fun E => if notOwn E own then
      (match dcI (bindT tg) (evTs Φ C ifs) (ev Φ C kx) (ev Φ C vx) own ds [] (wipeE E own) with
      | .ok acc E1 => .ok (.own (.dk (acc.map (·.1)) (acc.map (·.2)))) (backE E E1 own)
      | _ => .bad) else .bad := by rw [ev] <;> rfl
theorem dc_flt {κ β α : Type} [DecidableEq κ] (T : KD κ β) {Φ : Nat → M Sl} {C : Nat → D} {kx vx : E} {tg : Tgt} {it : E} {ifs : List E} {own : List Nat} {E0 E : SE} {xs : List α} {g : α → D} {p : α → Bool} {kk : α → κ} {vv : α → β} (hi : evI Φ C it E0 = .ok (xs.map g) E) (hn : notOwn E own = true) (hz : xs.length ≤ 16777216)
    (hd : ((xs.filter p).map kk).Nodup)
    (hb : ∀ x ∈ xs, ∃ E1, bindT tg (g x) (wipeE E own) = some E1 ∧ lcI.allT (evTs Φ C ifs) E1 = .ok (p x) E1 ∧ (p x = true → ev Φ C kx E1 = .ok (.val (T.kd (kk x))) E1 ∧ ∃ s, ev Φ C vx E1 = .ok s E1 ∧ s.d = T.vf (vv x)) ∧ wipeE E1 own = wipeE E own) :
    ev Φ C (.dc kx vx tg it ifs own) E0 = .ok (.own (dkE T ((xs.filter p).map fun x => (kk x, vv x)))) E := by
  have := dcI_flt (T := T) (wipe_wipe E own) xs [] (by simpa using hz) (by simpa using hd) hb
  simp only [List.map_nil, List.nil_append] at this
  rw [ev_dc, s_bind, hi, s_ok, if_pos hn, this]
  simp [back_wipe, dkE, List.map_map, Function.comp_def]
theorem fold_put {κ β : Type} [DecidableEq κ] (T : KD κ β) : ∀ (ps acc : List (κ × β)), (acc.map (·.1) ++ ps.map (·.1)).Nodup →
    (ps.map fun q => (T.kf q.1, T.vf q.2)).foldl (fun acc kv => putZ acc kv.1 kv.2) (acc.map fun q => (T.kf q.1, T.vf q.2)) = (acc ++ ps).map fun q => (T.kf q.1, T.vf q.2)
  | [], acc, _ => by simp
  | q :: ps, acc, h => by
    have nw : q.1 ∉ acc.map (·.1) := by
      intro z
      rw [List.nodup_append] at h
      exact h.2.2 _ z q.1 (by simp) rfl
    rw [List.map_cons, List.foldl_cons, putZ_eq, putL_map T.inj T.vf, putL_new nw]
    rw [fold_put T ps (acc ++ [(q.1, q.2)]) (by simpa using h)]
    simp
/-- dict(rows) -/
theorem dict_of {κ β : Type} [DecidableEq κ] (T : KD κ β) {ps : List (κ × β)} (h : (ps.map (·.1)).Nodup) : (pairsK (ps.map fun q => D.tup [T.kd q.1, T.vf q.2])).map dkOf = some (.own (dkE T ps)) := by
  have e : ∀ ps : List (κ × β), pairsK (ps.map fun q => D.tup [T.kd q.1, T.vf q.2]) = some (ps.map fun q => (T.kf q.1, T.vf q.2)) := fun ps => by
    induction ps with
    | nil => rfl
    | cons q ps ih => rw [List.map_cons, pairsK, ih]; simp [pairK, T.key]
  have f := fold_put T ps [] (by simpa using h)
  simp only [List.map_nil, List.nil_append] at f
  rw [e, Option.map_some, dkOf, f]
  simp [dkE, List.map_map, Function.comp_def]
/-! ### sorted -/
theorem pys_map {α : Type} {f : α → D} {g : α → PyData} (h : ∀ x, (f x).py = some (g x)) : ∀ xs : List α, D.pys (xs.map f) = some (xs.map g)
  | [] => by simp [D.pys]
  | x :: xs => by simp [D.pys, h x, pys_map h xs]
theorem leD_int (a b : Int) : leD (.int a, .int a) (.int b, .int b) = leI a b := by
  have e := congrFun (congrFun (PySem.W.dataLe_int (fun b : D × PyData => match b.2 with | .int i => i | _ => 0)) (.int a, .int a)) (.int b, .int b)
  exact e
theorem sort_ints (ns : List Int) : sortD (ns.map D.int) = some ((ns.mergeSort leI).map .int) := by
  have e1 : D.pys (ns.map D.int) = some (ns.map PyData.int) := pys_map (fun x => by simp [D.py]) ns
  have e2 : sortableB (ns.map PyData.int) = true := by
    unfold sortableB
    rw [Bool.or_eq_true]; right
    rw [List.all_eq_true]
    intro p hp
    obtain ⟨x, hx, rfl⟩ := List.mem_map.mp hp
    rfl
  have e3 : alikeB (ns.map PyData.int) = true := by
    unfold alikeB
    rw [List.all_eq_true]
    intro p hp
    rw [List.all_eq_true]
    intro q hq
    obtain ⟨x, hx, rfl⟩ := List.mem_map.mp hp
    obtain ⟨y, hy, rfl⟩ := List.mem_map.mp hq
    simp [PySem.W.alike]
  have e4 : (ns.map PyData.int).all (fun p => decide (p.depth ≤ 60)) = true := by
    rw [List.all_eq_true]
    intro p hp
    obtain ⟨x, hx, rfl⟩ := List.mem_map.mp hp
    simp [PyData.depth]
  unfold sortD
  rw [e1]
  simp only [e2, e3, e4, Bool.and_self, if_true]
  congr 1
  rw [List.zip_map', ← List.map_mergeSort (r := leI) (fun a _ b _ => (leD_int a b).symm), List.map_map]
  rfl
theorem leI_iff {a b : Int} : leI a b = true ↔ a ≤ b := by simp [leI]
theorem sortI_pw (ns : List Int) : (ns.mergeSort leI).Pairwise (· ≤ ·) := by
  have := List.pairwise_mergeSort (le := leI) (fun a b c h1 h2 => by rw [leI_iff] at *; omega) (fun a b => by rw [Bool.or_eq_true, leI_iff, leI_iff]; omega) ns
  exact this.imp fun h => leI_iff.mp h
theorem sortI_eq {ns ys : List Int} (hp : ys.Perm ns) (hs : ys.Pairwise (· ≤ ·)) : ns.mergeSort leI = ys :=
  ((List.mergeSort_perm ns leI).trans hp.symm).eq_of_pairwise (fun a b _ _ h1 h2 => Int.le_antisymm h1 h2) (sortI_pw ns) hs
def prP (p : Int × Int) : PyData := .tuple [.int p.1, .int p.2]
theorem pr_py (p : Int × Int) : (prD p).py = some (prP p) := by simp [prD, D.py, D.pys, prP]
theorem leD_pr (p q : Int × Int) : leD (prD p, prP p) (prD q, prP q) = leII p q := by
  have e := congrFun (congrFun (PySem.W.dataLe_ii (fun b : Int × Int => b.1) (fun b => b.2)) p) q
  exact e
theorem sort_prs (c : List (Int × Int)) : sortD (c.map prD) = some ((c.mergeSort leII).map prD) := by
  have e1 := pys_map pr_py c
  have e2 : sortableB (c.map prP) = true := by
    unfold sortableB
    rw [Bool.or_eq_true]; left
    rw [List.all_eq_true]
    intro p hp
    obtain ⟨x, hx, rfl⟩ := List.mem_map.mp hp
    rfl
  have e3 : alikeB (c.map prP) = true := by
    unfold alikeB
    rw [List.all_eq_true]
    intro p hp
    rw [List.all_eq_true]
    intro q hq
    obtain ⟨x, hx, rfl⟩ := List.mem_map.mp hp
    obtain ⟨y, hy, rfl⟩ := List.mem_map.mp hq
    simp [prP, PySem.W.alike, PySem.W.alikeAll]
  have e4 : (c.map prP).all (fun p => decide (p.depth ≤ 60)) = true := by
    rw [List.all_eq_true]
    intro p hp
    obtain ⟨x, hx, rfl⟩ := List.mem_map.mp hp
    simp [prP, PyData.depth, PyData.depthAll]
  unfold sortD
  rw [e1]
  simp only [e2, e3, e4, Bool.and_self, if_true]
  congr 1
  rw [List.zip_map', ← List.map_mergeSort (r := leII) (fun a _ b _ => (leD_pr a b).symm), List.map_map]
  rfl
theorem leII_iff {a b : Int × Int} : leII a b = true ↔ a.1 < b.1 ∨ (a.1 = b.1 ∧ a.2 ≤ b.2) := by simp [leII]
theorem sortII_pw (c : List (Int × Int)) : (c.mergeSort leII).Pairwise fun a b => leII a b = true :=
  List.pairwise_mergeSort (fun a b c h1 h2 => by rw [leII_iff] at *; omega) (fun a b => by rw [Bool.or_eq_true, leII_iff, leII_iff]; omega) c
theorem setI_le : ∀ ns : List Int, (setI ns).length ≤ ns.length
  | [] => by simp [setI]
  | i :: r => by
    have ins : ∀ xs : List Int, (insI i xs).length ≤ xs.length + 1 := fun xs => by
      induction xs with
      | nil => simp [insI]
      | cons k xs ih => unfold insI; split; simp; split <;> simp; exact ih
    have := setI_le r
    have := ins (setI r)
    rw [setI, List.length_cons]; omega
end Lw
end

section
set_option Elab.async false
set_option linter.all false
set_option maxRecDepth 100000
set_option maxHeartbeats 2000000
/-! GE: for all laws: how a text is gone through, one node at a time -/
namespace Lw
open PySem L2
@[simp] theorem s_ofB {α : Type} (f : α → SE → SR) : SR.of (.bad : R α) f = .bad := rfl
@[simp] theorem s_badB {α β : Type} (f : α → M β) : (R.bad : R α).bind f = .bad := rfl
/-- a value goes on as a truth -/
def tru {α : Type} (s : Sl) (E : SE) (f : Bool → M α) : R α := match s with
  | .val (.bl b) => f b E
  | _ => .bad
@[simp] theorem tru_bl {α : Type} (b : Bool) (E : SE) (f : Bool → M α) : tru (.val (.bl b)) E f = f b E := rfl
@[simp] theorem tru_vB {α : Type} (b : Bool) (E : SE) (f : Bool → M α) : tru (vB b) E f = f b E := rfl
/-- what is there, or nothing -/
def opt {α : Type} (o : Option α) (E : SE) : R α := match o with
  | some a => .ok a E
  | none => .bad
@[simp] theorem opt_some {α : Type} (a : α) (E : SE) : opt (some a) E = .ok a E := rfl
@[simp] theorem mopt {α : Type} (o : Option α) (E : SE) : M.opt o E = opt o E := by cases o <;> rfl
theorem moptF {α : Type} : (M.opt : Option α → M α) = fun o E => opt o E := funext fun o => funext fun E => mopt o E
def ptupO : Option Sl → Option (List D)
  | some (.val (.ptup xs)) => some xs
  | _ => none
@[simp] theorem ptupO_p (xs : List D) : ptupO (some (.val (.ptup xs))) = some xs := rfl
/-! what goes on behind a value, each by a name (so that nothing is looked at ahead of its time) -/
def op1 (f : D → Option Sl) : List D → Option Sl
  | [x] => f x
  | _ => none
def op2 (f : D → D → Option Sl) : List D → Option Sl
  | [x, y] => f x y
  | _ => none
def kOp (p : List D → Option Sl) (ds : List D) : M Sl := fun E => opt (p ds) E
@[simp] theorem kOp_1 (f : D → Option Sl) (x : D) (E : SE) : kOp (op1 f) [x] E = opt (f x) E := rfl
@[simp] theorem kOp_2 (f : D → D → Option Sl) (x y : D) (E : SE) : kOp (op2 f) [x, y] E = opt (f x y) E := rfl
@[simp 50] theorem kOp_n (p : List D → Option Sl) (ds : List D) (E : SE) : kOp p ds E = opt (p ds) E := rfl
theorem kOp_f (p : List D → Option Sl) : (fun ds => M.opt (p ds)) = kOp p := by rw [moptF]; rfl
def kA2 (s : Sl) (ds : List D) : M (List D) := fun E => .ok (weakD s.d :: ds) E
def kA1 (r : List Opd) (s : Sl) : M (List D) := fun E => (evA r E).bind (kA2 s)
def kA5 (ds : List D) (d : D) : M (List D) := fun E => .ok (weakD d :: ds) E
def kA4 (i : Nat) (ds : List D) : M (List D) := fun E => (slotAt i E).bind (kA5 ds)
def kA3 (i : Nat) (r : List Opd) (_ : D) : M (List D) := fun E => (evA r E).bind (kA4 i)
@[simp] theorem kA2_ (s : Sl) (ds : List D) (E : SE) : kA2 s ds E = .ok (weakD s.d :: ds) E := rfl
@[simp] theorem kA1_ (r : List Opd) (s : Sl) (E : SE) : kA1 r s E = (evA r E).bind (kA2 s) := rfl
@[simp] theorem kA5_ (ds : List D) (d : D) (E : SE) : kA5 ds d E = .ok (weakD d :: ds) E := rfl
@[simp] theorem kA4_ (i : Nat) (ds : List D) (E : SE) : kA4 i ds E = (slotAt i E).bind (kA5 ds) := rfl
@[simp] theorem kA3_ (i : Nat) (r : List Opd) (d : D) (E : SE) : kA3 i r d E = (evA r E).bind (kA4 i) := rfl
@[simp] theorem evA_0 (E : SE) : evA [] E = .ok [] E := rfl
@[simp] theorem evA_1 (i : Nat) (r : List Opd) (E : SE) : evA (.slot i :: r) E = (slotAt i E).bind (kA3 i r) := rfl
@[simp] theorem evA_2 (f : M Sl) (r : List Opd) (E : SE) : evA (.ex f :: r) E = (f E).bind (kA1 r) := rfl
def slotR (E : SE) : Option Sl → R D
  | some (.val d) => .ok d E
  | some (.own d) => .ok d E
  | _ => .bad
@[simp] theorem slot_is (i : Nat) (E : SE) : slotAt i E = slotR E E[i]? := by
  rw [s_slot]; generalize E[i]? = o; rcases o with _ | (_ | d | d) <;> rfl
@[simp] theorem slotR_v (E : SE) (d : D) : slotR E (some (.val d)) = .ok d E := rfl
@[simp] theorem slotR_o (E : SE) (d : D) : slotR E (some (.own d)) = .ok d E := rfl
section
variable (Φ : Nat → M Sl) (C : Nat → D)
def kAnd2 (b : E) (k : Bool) : M Sl := fun F => if k then ev Φ C b F else .ok (.val (.bl false)) F
def kOr2 (b : E) (k : Bool) : M Sl := fun F => if k then .ok (.val (.bl true)) F else ev Φ C b F
def kNot2 (k : Bool) : M Sl := fun F => .ok (.val (.bl (!k))) F
def kTru {α : Type} (f : Bool → M α) (s : Sl) : M α := fun F => tru s F f
def kIteE (a b : E) (k : Bool) : M Sl := fun F => if k then ev Φ C a F else ev Φ C b F
def kTup (ds : List D) : M Sl := fun F => if ds.length ≤ 16777216 then .ok (.val (.tup ds)) F else .bad
def kLst (ds : List D) : M Sl := fun F => if ds.length ≤ 16777216 then .ok (.own (.lst ds)) F else .bad
def kWeak (s : Sl) : M Sl := fun F => .ok (weakS s) F
def kD2 (s : Sl) (ds : List D) : M (List D) := fun F => .ok (s.d :: ds) F
def kD1 (r : List E) (s : Sl) : M (List D) := fun F => (evD Φ C r F).bind (kD2 s)
def kS2 (xs ds : List D) : M (List D) := fun F => .ok (xs ++ ds) F
def starL : Sl → Option (List D)
  | .val (.tup xs) => some xs
  | .val (.lst xs) => some xs
  | .own (.lst xs) => some xs
  | _ => none
def kS1 (r : List E) (xs : List D) : M (List D) := fun F => (evD Φ C r F).bind (kS2 xs)
def kS0 (r : List E) (s : Sl) : M (List D) := fun F => (opt (starL s) F).bind (kS1 Φ C r)
def kTNot (k : Bool) : M Bool := fun F => .ok (!k) F
def kTAnd (b : E) (k : Bool) : M Bool := fun F => if k then evT Φ C b F else .ok false F
def kTOr (b : E) (k : Bool) : M Bool := fun F => if k then .ok true F else evT Φ C b F
def kTIte (a b : E) (k : Bool) : M Bool := fun F => if k then evT Φ C a F else evT Φ C b F
def kTr (ds : List D) : M Bool := fun F => opt (match ds with | [d] => truthD d | _ => none) F
def kAllT (r : List (M Bool)) (k : Bool) : M Bool := fun F => if k then lcI.allT r F else .ok false F
def kCnt (b : E) (xs : List D) : M Sl := fun F => (evA [opd Φ C b] F).bind (kOp (op1 (tcntS xs)))
def kGet (ds : List D) : M Sl := fun F => opt (getS ds) F
def kChn3 (o' : CmpOp) (y : Int) (es : List D) : M Sl := fun F => opt (match es with | [.int z] => cmpS o' (.int y) (.int z) | _ => none) F
def kChn2 (o' : CmpOp) (c : E) (y : Int) (k : Bool) : M Sl := fun F => if k then (evA [opd Φ C c] F).bind (kChn3 o' y) else .ok (.val (.bl false)) F
def kChn1 (o o' : CmpOp) (c : E) (ds : List D) : M Sl := fun F => match ds with
    | [.int x, .int y] => (opt (cmpS o (.int x) (.int y)) F).bind (kTru (kChn2 Φ C o' c y))
    | _ => .bad
def kRng (s : Sl) : M (List D) := fun F => match s with
    | .val (.int n) => if -(4611686018427387904) ≤ n ∧ n < 4611686018427387904 then .ok (rngD 0 n) F else .bad
    | _ => .bad
def kRng2 (ds : List D) : M (List D) := fun F => match ds with
    | [.int m, .int n] => if (-(4611686018427387904) ≤ m ∧ m < 4611686018427387904) ∧ (-(4611686018427387904) ≤ n ∧ n < 4611686018427387904) then .ok (rngD m n) F else .bad
    | _ => .bad
def kEnum (ss : List Sl) : M (List D) := fun F => opt (match ss with
    | [s] => (itemsD s.d).map enumD
    | _ => none) F
def zipDD (a b : D) : Option (List D) := match a, b with
      | .lst xs, .lst ys => some (zipD xs ys)
      | .tup xs, .tup ys => some (zipD xs ys)
      | _, _ => none
def kZip (ss : List Sl) : M (List D) := fun F => opt (match ss with
    | [s, t] => zipDD s.d t.d
    | _ => none) F
def kItems (s : Sl) : M (List D) := fun F => opt (itemsD s.d) F
def kSetT (tg : Tgt) (s : Sl) : SE → SR := fun F => match s with
    | .val (.tup ds) => (match bindT tg (.tup ds) F with
      | some E2 => .nx E2
      | none => .bad)
    | _ => .bad
def kAug (i : Nat) (o : Operator) (ds : List D) : SE → SR := fun F => match ds with
    | [a, b] => (match augO o a b with
      | some s => putS i s F
      | none => .bad)
    | _ => .bad
def kSidx (i : Nat) (ss : List Sl) : SE → SR := fun F => match ss with
    | [v, .val k] => updS i (fun d => setD d k v.d) F
    | _ => .bad
def kDset (i : Nat) (ss : List Sl) : SE → SR := fun F => match ss with
    | [v, .val k] => updS i (fun d => setK d k v.d) F
    | _ => .bad
def kApp (i : Nat) (s : Sl) : SE → SR := fun F => updS i (appD s) F
def kExt (i : Nat) (s : Sl) : SE → SR := fun F => updS i (extD s) F
def kNx {α : Type} (_ : α) : SE → SR := fun F => .nx F
def kExc (n : Str) (s : Sl) : SE → SR := fun F => .exc n s.d F
def kIte (a b : List S) (k : Bool) : SE → SR := fun F => if k then exs Φ C a F else exs Φ C b F
def kFor (tg : Tgt) (a : List S) (ds : List D) : SE → SR := fun F => forI (bindT tg) (exs Φ C a) ds F
@[simp] theorem kAnd2_ (b : E) (k : Bool) (F : SE) : kAnd2 Φ C b k F = if k then ev Φ C b F else .ok (.val (.bl false)) F := rfl
@[simp] theorem kOr2_ (b : E) (k : Bool) (F : SE) : kOr2 Φ C b k F = if k then .ok (.val (.bl true)) F else ev Φ C b F := rfl
@[simp] theorem kNot2_ (k : Bool) (F : SE) : kNot2 k F = .ok (.val (.bl (!k))) F := rfl
@[simp] theorem kTru_ {α : Type} (f : Bool → M α) (s : Sl) (F : SE) : kTru f s F = tru s F f := rfl
@[simp] theorem kIteE_ (a b : E) (k : Bool) (F : SE) : kIteE Φ C a b k F = if k then ev Φ C a F else ev Φ C b F := rfl
@[simp] theorem kTup_ (ds : List D) (F : SE) : kTup ds F = if ds.length ≤ 16777216 then .ok (.val (.tup ds)) F else .bad := rfl
@[simp] theorem kLst_ (ds : List D) (F : SE) : kLst ds F = if ds.length ≤ 16777216 then .ok (.own (.lst ds)) F else .bad := rfl
@[simp] theorem kWeak_ (s : Sl) (F : SE) : kWeak s F = .ok (weakS s) F := rfl
@[simp] theorem kD2_ (s : Sl) (ds : List D) (F : SE) : kD2 s ds F = .ok (s.d :: ds) F := rfl
@[simp] theorem kD1_ (r : List E) (s : Sl) (F : SE) : kD1 Φ C r s F = (evD Φ C r F).bind (kD2 s) := rfl
@[simp] theorem kS2_ (xs ds : List D) (F : SE) : kS2 xs ds F = .ok (xs ++ ds) F := rfl
@[simp] theorem kS1_ (r : List E) (xs : List D) (F : SE) : kS1 Φ C r xs F = (evD Φ C r F).bind (kS2 xs) := rfl
@[simp] theorem kS0_ (r : List E) (s : Sl) (F : SE) : kS0 Φ C r s F = (opt (starL s) F).bind (kS1 Φ C r) := rfl
@[simp] theorem starL_1 (xs : List D) : starL (.val (.tup xs)) = some xs := rfl
@[simp] theorem starL_2 (xs : List D) : starL (.val (.lst xs)) = some xs := rfl
@[simp] theorem starL_3 (xs : List D) : starL (.own (.lst xs)) = some xs := rfl
@[simp] theorem kTNot_ (k : Bool) (F : SE) : kTNot k F = .ok (!k) F := rfl
@[simp] theorem kTAnd_ (b : E) (k : Bool) (F : SE) : kTAnd Φ C b k F = if k then evT Φ C b F else .ok false F := rfl
@[simp] theorem kTOr_ (b : E) (k : Bool) (F : SE) : kTOr Φ C b k F = if k then .ok true F else evT Φ C b F := rfl
@[simp] theorem kTIte_ (a b : E) (k : Bool) (F : SE) : kTIte Φ C a b k F = if k then evT Φ C a F else evT Φ C b F := rfl
@[simp] theorem kTr_ (d : D) (F : SE) : kTr [d] F = opt (truthD d) F := rfl
@[simp] theorem kAllT_ (r : List (M Bool)) (k : Bool) (F : SE) : kAllT r k F = if k then lcI.allT r F else .ok false F := rfl
@[simp] theorem kCnt_ (b : E) (xs : List D) (F : SE) : kCnt Φ C b xs F = (evA [opd Φ C b] F).bind (kOp (op1 (tcntS xs))) := rfl
@[simp] theorem kGet_ (ds : List D) (F : SE) : kGet ds F = opt (getS ds) F := rfl
@[simp] theorem kChn3_ (o' : CmpOp) (y z : Int) (F : SE) : kChn3 o' y [.int z] F = opt (cmpS o' (.int y) (.int z)) F := rfl
@[simp] theorem kChn2_ (o' : CmpOp) (c : E) (y : Int) (k : Bool) (F : SE) : kChn2 Φ C o' c y k F = if k then (evA [opd Φ C c] F).bind (kChn3 o' y) else .ok (.val (.bl false)) F := rfl
@[simp] theorem kChn1_ (o o' : CmpOp) (c : E) (x y : Int) (F : SE) : kChn1 Φ C o o' c [.int x, .int y] F = (opt (cmpS o (.int x) (.int y)) F).bind (kTru (kChn2 Φ C o' c y)) := rfl
@[simp] theorem kRng_ (n : Int) (F : SE) : kRng (.val (.int n)) F = if -(4611686018427387904) ≤ n ∧ n < 4611686018427387904 then .ok (rngD 0 n) F else .bad := rfl
@[simp] theorem kRng2_ (m n : Int) (F : SE) : kRng2 [.int m, .int n] F = if (-(4611686018427387904) ≤ m ∧ m < 4611686018427387904) ∧ (-(4611686018427387904) ≤ n ∧ n < 4611686018427387904) then .ok (rngD m n) F else .bad := rfl
@[simp] theorem kEnum_ (s : Sl) (F : SE) : kEnum [s] F = opt ((itemsD s.d).map enumD) F := rfl
@[simp] theorem zipDD_1 (xs ys : List D) : zipDD (.lst xs) (.lst ys) = some (zipD xs ys) := rfl
@[simp] theorem zipDD_2 (xs ys : List D) : zipDD (.tup xs) (.tup ys) = some (zipD xs ys) := rfl
@[simp] theorem kZip_ (s t : Sl) (F : SE) : kZip [s, t] F = opt (zipDD s.d t.d) F := rfl
@[simp] theorem kItems_ (s : Sl) (F : SE) : kItems s F = opt (itemsD s.d) F := rfl
def nxO : Option SE → SR
  | some E => .nx E
  | none => .bad
@[simp] theorem nxO_s (E : SE) : nxO (some E) = .nx E := rfl
@[simp] theorem kSetT_ (tg : Tgt) (ds : List D) (F : SE) : kSetT tg (.val (.tup ds)) F = nxO (bindT tg (.tup ds) F) := by
  unfold kSetT; dsimp only; cases bindT tg (.tup ds) F <;> rfl
def putO (i : Nat) (F : SE) : Option Sl → SR
  | some s => putS i s F
  | none => .bad
@[simp] theorem putO_s (i : Nat) (F : SE) (s : Sl) : putO i F (some s) = putS i s F := rfl
@[simp] theorem kAug_ (i : Nat) (o : Operator) (a b : D) (F : SE) : kAug i o [a, b] F = putO i F (augO o a b) := by
  unfold kAug; dsimp only; cases augO o a b <;> rfl
def updR (i : Nat) (F : SE) : Option D → SR
  | some d => .nx (F.set i (.own d))
  | none => .bad
@[simp] theorem updR_s (i : Nat) (F : SE) (d : D) : updR i F (some d) = .nx (F.set i (.own d)) := rfl
def updG (i : Nat) (F : SE) (f : D → Option D) : Option Sl → SR
  | some (.own d) => updR i F (f d)
  | _ => .bad
theorem updS_is (i : Nat) (f : D → Option D) (F : SE) : updS i f F = updG i F f F[i]? := by
  unfold updS; generalize F[i]? = o
  rcases o with _ | (_ | d | d) <;> rfl
def sidxD (k v : D) (d : D) : Option D := setD d k v
def dsetD (k v : D) (d : D) : Option D := setK d k v
@[simp] theorem updG_s (i : Nat) (F : SE) (k v d : D) : updG i F (sidxD k v) (some (.own d)) = updR i F (setD d k v) := rfl
@[simp] theorem updG_d (i : Nat) (F : SE) (k v d : D) : updG i F (dsetD k v) (some (.own d)) = updR i F (setK d k v) := rfl
@[simp] theorem updG_a (i : Nat) (F : SE) (s : Sl) (d : D) : updG i F (appD s) (some (.own d)) = updR i F (appD s d) := rfl
@[simp] theorem updG_e (i : Nat) (F : SE) (s : Sl) (d : D) : updG i F (extD s) (some (.own d)) = updR i F (extD s d) := rfl
@[simp] theorem kSidx_ (i : Nat) (v : Sl) (k : D) (F : SE) : kSidx i [v, .val k] F = updG i F (sidxD k v.d) F[i]? := updS_is i _ F
@[simp] theorem kDset_ (i : Nat) (v : Sl) (k : D) (F : SE) : kDset i [v, .val k] F = updG i F (dsetD k v.d) F[i]? := updS_is i _ F
@[simp] theorem kApp_ (i : Nat) (s : Sl) (F : SE) : kApp i s F = updG i F (appD s) F[i]? := updS_is i _ F
@[simp] theorem kExt_ (i : Nat) (s : Sl) (F : SE) : kExt i s F = updG i F (extD s) F[i]? := updS_is i _ F
@[simp] theorem kNx_ {α : Type} (a : α) (F : SE) : kNx a F = .nx F := rfl
@[simp] theorem kExc_ (n : Str) (s : Sl) (F : SE) : kExc n s F = .exc n s.d F := rfl
@[simp] theorem kIte_ (a b : List S) (k : Bool) (F : SE) : kIte Φ C a b k F = if k then exs Φ C a F else exs Φ C b F := rfl
@[simp] theorem kFor_ (tg : Tgt) (a : List S) (ds : List D) (F : SE) : kFor Φ C tg a ds F = forI (bindT tg) (exs Φ C a) ds F := rfl
end
section
variable (Φ : Nat → M Sl) (C : Nat → D) (E : SE)
@[simp 100] theorem e_non : ev Φ C .non E = .ok (.val .non) E := by rw [ev]; rfl
@[simp 100] theorem e_bl (b : Bool) : ev Φ C (.bl b) E = .ok (.val (.bl b)) E := by rw [ev]; rfl
@[simp 100] theorem e_int (i : Int) : ev Φ C (.int i) E = .ok (.val (.int i)) E := by rw [ev]; rfl
@[simp 100] theorem e_str (x : Str) : ev Φ C (.str x) E = .ok (.val (.str x)) E := by rw [ev]; rfl
@[simp 100] theorem e_tyc (n : String) : ev Φ C (.tyc n) E = .ok (.val (.ty n)) E := by rw [ev]; rfl
@[simp 100] theorem e_cst (c : Nat) : ev Φ C (.cst c) E = .ok (.val (C c)) E := by rw [ev]; rfl
@[simp 100] theorem e_var (i : Nat) : ev Φ C (.var i) E = varS i E := by rw [ev]
@[simp 100] theorem e_fz (i : Nat) : ev Φ C (.fz i) E = fzS i E := by rw [ev]
@[simp 100] theorem e_mv (i : Nat) : ev Φ C (.mv i) E = popS i E := by rw [ev]
@[simp 100] theorem e_bop (o : Operator) (a b : Lw.E) : ev Φ C (.bop o a b) E = (evA [opd Φ C a, opd Φ C b] E).bind (kOp (op2 (bopS o))) := by
  rw [ev]; simp only [s_bind]; congr 1; funext ds E1; rw [mopt]; rcases ds with _ | ⟨x, _ | ⟨y, _ | ⟨z, ds⟩⟩⟩ <;> rfl
@[simp 100] theorem e_cmp (o : CmpOp) (a b : Lw.E) : ev Φ C (.cmp o a b) E = (evA [opd Φ C a, opd Φ C b] E).bind (kOp (op2 (cmpS o))) := by
  rw [ev]; simp only [s_bind]; congr 1; funext ds E1; rw [mopt]; rcases ds with _ | ⟨x, _ | ⟨y, _ | ⟨z, ds⟩⟩⟩ <;> rfl
@[simp 100] theorem e_neg (a : Lw.E) : ev Φ C (.neg a) E = (evA [opd Φ C a] E).bind (kOp (op1 negS)) := by
  rw [ev]; simp only [s_bind]; congr 1; funext ds E1; rw [mopt]; rcases ds with _ | ⟨x, _ | ⟨y, ds⟩⟩ <;> rfl
@[simp 100] theorem e_and (a b : Lw.E) : ev Φ C (.andV a b) E = (ev Φ C a E).bind (kTru (kAnd2 Φ C b)) := by
  rw [ev]; simp only [s_bind]; congr 1; funext s E1
  rcases s with _ | d | d <;> try rfl
  cases d <;> try rfl
  rename_i b; cases b <;> rfl
@[simp 100] theorem e_or (a b : Lw.E) : ev Φ C (.orV a b) E = (ev Φ C a E).bind (kTru (kOr2 Φ C b)) := by
  rw [ev]; simp only [s_bind]; congr 1; funext s E1
  rcases s with _ | d | d <;> try rfl
  cases d <;> try rfl
  rename_i b; cases b <;> rfl
@[simp 100] theorem e_not (a : Lw.E) : ev Φ C (.notV a) E = (ev Φ C a E).bind (kTru kNot2) := by
  rw [ev]; simp only [s_bind]; congr 1; funext s E1
  rcases s with _ | d | d <;> try rfl
  cases d <;> rfl
@[simp 100] theorem e_ite (c a b : Lw.E) : ev Φ C (.ite c a b) E = (evT Φ C c E).bind (kIteE Φ C a b) := by
  rw [ev]; simp only [s_bind]; congr 1; funext k E1; cases k <;> rfl
@[simp 100] theorem e_bi (b : Bi) (as : List Lw.E) : ev Φ C (.bi b as) E = (evA (opds Φ C as) E).bind (kOp (biS b)) := by rw [ev, kOp_f]; rfl
@[simp 100] theorem e_ty (b : Bt) (as : List Lw.E) : ev Φ C (.ty b as) E = (evA (opds Φ C as) E).bind (kOp (tyS b)) := by rw [ev, kOp_f]; rfl
@[simp 100] theorem e_mth (m : Mt) (a : Lw.E) (as : List Lw.E) : ev Φ C (.mth m a as) E = (evA (opd Φ C a :: opds Φ C as) E).bind (kOp (mtP m)) := by rw [ev, kOp_f]; rfl
@[simp 100] theorem e_idx (a b : Lw.E) : ev Φ C (.idx a b) E = (evA [opd Φ C a, opd Φ C b] E).bind (kOp (op2 ixS)) := by
  rw [ev]; simp only [s_bind]; congr 1; funext ds E1; rw [mopt]; rcases ds with _ | ⟨x, _ | ⟨y, _ | ⟨z, ds⟩⟩⟩ <;> rfl
@[simp 100] theorem e_slc (a lo hi : Lw.E) : ev Φ C (.slc a lo hi) E = (evA [opd Φ C a, partO (isNonE lo) (opd Φ C lo), partO (isNonE hi) (opd Φ C hi)] E).bind (kOp (slP (isNonE lo) (isNonE hi))) := by rw [ev, kOp_f]; rfl
@[simp 100] theorem e_rev (a : Lw.E) : ev Φ C (.rev a) E = (evA [opd Φ C a] E).bind (kOp (op1 revS)) := by
  rw [ev]; simp only [s_bind]; congr 1; funext ds E1; rw [mopt]; rcases ds with _ | ⟨x, _ | ⟨y, ds⟩⟩ <;> rfl
@[simp 100] theorem e_tup (as : List Lw.E) : ev Φ C (.tup as) E = (evD Φ C as E).bind kTup := by
  rw [ev]; simp only [s_bind]; congr 1; funext ds E1; unfold kTup; rw [sizeLine_eq]; split <;> rfl
@[simp 100] theorem e_lst (as : List Lw.E) : ev Φ C (.lst as) E = (evD Φ C as E).bind kLst := by
  rw [ev]; simp only [s_bind]; congr 1; funext ds E1; unfold kLst; rw [sizeLine_eq]; split <;> rfl
@[simp 100] theorem e_call (f : Nat) (as : List Lw.E) : ev Φ C (.call f as) E = callS (Φ f) (args Φ C as) E := by rw [ev]
@[simp 100] theorem e_heard (a : Lw.E) : ev Φ C (.heard a) E = heardS (ev Φ C a) E := by rw [ev]
@[simp 100] theorem e_isx (a : Lw.E) (n : Str) : ev Φ C (.isx a n) E = (evA [opd Φ C a] E).bind (kOp (op1 (isxS n))) := by
  rw [ev]; simp only [s_bind]; congr 1; funext ds E1; rw [mopt]; rcases ds with _ | ⟨x, _ | ⟨y, ds⟩⟩ <;> rfl
@[simp 100] theorem e_xval (a : Lw.E) : ev Φ C (.xval a) E = (evA [opd Φ C a] E).bind (kOp (op1 xvalS)) := by
  rw [ev]; simp only [s_bind]; congr 1; funext ds E1; rw [mopt]; rcases ds with _ | ⟨x, _ | ⟨y, ds⟩⟩ <;> rfl
@[simp 100] theorem e_isf (n : Str) : ev Φ C (.isf n) E = .ok (.val (.isf n)) E := by rw [ev]; rfl
@[simp 100] theorem e_dict0 : ev Φ C .dict0 E = .ok (.own (.dk [] [])) E := by rw [ev]; rfl
@[simp 100] theorem e_dict1 (k : Str) (n : Int) : ev Φ C (.dict1 k n) E = .ok (.own (.dk [.inr k] [.int n])) E := by rw [ev]; rfl
@[simp 100] theorem e_dicti (k : Int) (b : Bool) : ev Φ C (.dicti k b) E = .ok (.own (.dk [.inl k] [.bl b])) E := by rw [ev]; rfl
@[simp 100] theorem e_sset (a : Lw.E) : ev Φ C (.sset a) E = (evA [opd Φ C a] E).bind (kOp (op1 ssetS)) := by
  rw [ev]; simp only [s_bind]; congr 1; funext ds E1; rw [mopt]; rcases ds with _ | ⟨x, _ | ⟨y, ds⟩⟩ <;> rfl
@[simp 100] theorem e_lr1 (a : Lw.E) : ev Φ C (.lr1 a) E = (evA [opd Φ C a] E).bind (kOp (op1 lr1S)) := by
  rw [ev]; simp only [s_bind]; congr 1; funext ds E1; rw [mopt]; rcases ds with _ | ⟨x, _ | ⟨y, ds⟩⟩ <;> rfl
@[simp 100] theorem e_lr2 (a b : Lw.E) : ev Φ C (.lr2 a b) E = (evA [opd Φ C a, opd Φ C b] E).bind (kOp (op2 lr2S)) := by
  rw [ev]; simp only [s_bind]; congr 1; funext ds E1; rw [mopt]; rcases ds with _ | ⟨x, _ | ⟨y, _ | ⟨z, ds⟩⟩⟩ <;> rfl
@[simp 100] theorem e_dget (i : Nat) (k x : Lw.E) : ev Φ C (.dget i k x) E = if isDictAt E i then (evA [.slot i, opd Φ C k, opd Φ C x] E).bind kGet else .bad := by
  rw [ev]; dsimp only; rw [moptF]; rfl
@[simp 100] theorem e_sitems (a : Lw.E) : ev Φ C (.sitems a) E = (evA [opd Φ C a] E).bind (kOp (op1 sitemsS)) := by
  rw [ev]; simp only [s_bind]; congr 1; funext ds E1; rw [mopt]; rcases ds with _ | ⟨x, _ | ⟨y, ds⟩⟩ <;> rfl
@[simp 100] theorem e_svals (a : Lw.E) : ev Φ C (.svals a) E = (evA [opd Φ C a] E).bind (kOp (op1 svalsS)) := by
  rw [ev]; simp only [s_bind]; congr 1; funext ds E1; rw [mopt]; rcases ds with _ | ⟨x, _ | ⟨y, ds⟩⟩ <;> rfl
@[simp 100] theorem e_ptup (a : Lw.E) : ev Φ C (.ptup a) E = (evA [opd Φ C a] E).bind (kOp (op1 ptupS)) := by
  rw [ev]; simp only [s_bind]; congr 1; funext ds E1; rw [mopt]; rcases ds with _ | ⟨x, _ | ⟨y, ds⟩⟩ <;> rfl
@[simp 100] theorem e_dictl (a : Lw.E) : ev Φ C (.dictl a) E = (evA [opd Φ C a] E).bind (kOp (op1 dictlS)) := by
  rw [ev]; simp only [s_bind]; congr 1; funext ds E1; rw [mopt]; rcases ds with _ | ⟨x, _ | ⟨y, ds⟩⟩ <;> rfl
@[simp 100] theorem e_isort (a : Lw.E) : ev Φ C (.isort a) E = (evA [opd Φ C a] E).bind (kOp (op1 isortS)) := by
  rw [ev]; simp only [s_bind]; congr 1; funext ds E1; rw [mopt]; rcases ds with _ | ⟨x, _ | ⟨y, ds⟩⟩ <;> rfl
@[simp 100] theorem e_pcat (i j : Nat) : ev Φ C (.pcat i j) E = pcatM i j E := by rw [ev]
@[simp 100] theorem e_pdict (i : Nat) : ev Φ C (.pdict i) E = pdictM i E := by rw [ev]
@[simp 100] theorem e_weak (a : Lw.E) : ev Φ C (.weak a) E = (ev Φ C a E).bind kWeak := by rw [ev]; rfl
@[simp 100] theorem e_tcnt (i : Nat) (b : Lw.E) : ev Φ C (.tcnt i b) E = (opt (ptupO E[i]?) E).bind (kCnt Φ C b) := by
  rw [ev]; dsimp only
  generalize E[i]? = o
  rcases o with _ | (_ | d | d)
  · rfl
  · rfl
  · cases d <;> try rfl
    rename_i xs
    simp only [s_bind, opt_some, s_ok, ptupO_p]; rw [kCnt_]; congr 1; funext ds E1; rw [mopt]; rcases ds with _ | ⟨x, _ | ⟨y, ds⟩⟩ <;> rfl
  · rfl
@[simp 100] theorem e_chn (o o' : CmpOp) (a b c : Lw.E) : ev Φ C (.chn o o' a b c) E = (evA [opd Φ C a, opd Φ C b] E).bind (kChn1 Φ C o o' c) := by
  rw [ev]; simp only [s_bind]; congr 1; funext ds E1
  rcases ds with _ | ⟨x, _ | ⟨y, _ | ⟨z, ds⟩⟩⟩
  · rfl
  · cases x <;> rfl
  · cases x <;> try rfl
    cases y <;> try rfl
    rename_i x y
    rw [kChn1_]
    dsimp only
    cases cmpS o (D.int x) (D.int y) with
    | none => rfl
    | some s =>
      rcases s with _ | d | d <;> try rfl
      cases d <;> try rfl
      rename_i b; cases b
      · rfl
      · show (M.bind _ _) E1 = _
        rw [moptF]; rfl
  · cases x <;> try rfl
    cases y <;> rfl
@[simp 100] theorem d_nil : evD Φ C [] E = .ok [] E := by rw [evD]; rfl
@[simp 100] theorem d_star (a : Lw.E) (r : List Lw.E) : evD Φ C (.star a :: r) E = (ev Φ C a E).bind (kS0 Φ C r) := by
  rw [evD]; simp only [s_bind]; congr 1; funext s E1
  rcases s with _ | d | d
  · rfl
  · cases d <;> rfl
  · cases d <;> rfl
@[simp 90] theorem d_cons (a : Lw.E) (r : List Lw.E) (h : ∀ x, a ≠ .star x) : evD Φ C (a :: r) E = (ev Φ C a E).bind (kD1 Φ C r) := by
  rw [evD]
  · rfl
  · exact fun x e => h x e
@[simp 100] theorem t_not (a : Lw.E) : evT Φ C (.notV a) E = (evT Φ C a E).bind kTNot := by rw [evT]; rfl
@[simp 100] theorem t_and (a b : Lw.E) : evT Φ C (.andV a b) E = (evT Φ C a E).bind (kTAnd Φ C b) := by
  rw [evT]; simp only [s_bind]; congr 1; funext k E1; cases k <;> rfl
@[simp 100] theorem t_or (a b : Lw.E) : evT Φ C (.orV a b) E = (evT Φ C a E).bind (kTOr Φ C b) := by
  rw [evT]; simp only [s_bind]; congr 1; funext k E1; cases k <;> rfl
@[simp 100] theorem t_ite (c a b : Lw.E) : evT Φ C (.ite c a b) E = (evT Φ C c E).bind (kTIte Φ C a b) := by
  rw [evT]; simp only [s_bind]; congr 1; funext k E1; cases k <;> rfl
/-- any other test -/
@[simp 90] theorem t_else (e : Lw.E) (h1 : ∀ a, e ≠ .notV a) (h2 : ∀ a b, e ≠ .andV a b) (h3 : ∀ a b, e ≠ .orV a b) (h4 : ∀ c a b, e ≠ .ite c a b) : evT Φ C e E = (evA [opd Φ C e] E).bind kTr := by
  rw [evT]
  · simp only [s_bind]; congr 1; funext ds E1; exact mopt _ _
  · exact fun a e => h1 a e
  · exact fun a b e => h2 a b e
  · exact fun a b e => h3 a b e
  · exact fun a b c e => h4 a b c e
@[simp 100] theorem o_var (i : Nat) : opd Φ C (.var i) = .slot i := by rw [opd]
@[simp 90] theorem o_else (e : Lw.E) (h : ∀ i, e ≠ .var i) : opd Φ C e = .ex (ev Φ C e) := by
  rw [opd]; exact fun i e => h i e
@[simp 100] theorem os_nil : opds Φ C [] = [] := by rw [opds]
@[simp 100] theorem os_cons (a : Lw.E) (r : List Lw.E) : opds Φ C (a :: r) = opd Φ C a :: opds Φ C r := by rw [opds]
@[simp 100] theorem as_nil : args Φ C [] = [] := by rw [args]
@[simp 100] theorem as_var (i : Nat) (r : List Lw.E) : args Φ C (.var i :: r) = .slot i :: args Φ C r := by rw [args]
@[simp 90] theorem as_else (e : Lw.E) (r : List Lw.E) (h : ∀ i, e ≠ .var i) : args Φ C (e :: r) = .ex (ev Φ C e) :: args Φ C r := by
  rw [args]; exact fun i e => h i e
@[simp 100] theorem ts_nil : evTs Φ C [] = [] := by rw [evTs]
@[simp 100] theorem ts_cons (a : Lw.E) (r : List Lw.E) : evTs Φ C (a :: r) = evT Φ C a :: evTs Φ C r := by rw [evTs]
@[simp 100] theorem allT_nil : lcI.allT [] E = .ok true E := rfl
@[simp] theorem allT_one (t : M Bool) : lcI.allT [t] E = t E := by
  rw [lcI.allT]; simp only [s_bind]
  cases t E with
  | ok b E1 => cases b <;> rfl
  | exc c x E1 => rfl
  | bad => rfl
@[simp 100] theorem allT_cons (t : M Bool) (r : List (M Bool)) : lcI.allT (t :: r) E = (t E).bind (kAllT r) := by
  rw [lcI.allT]; simp only [s_bind]; congr 1; funext b E1; cases b <;> rfl
/-! statements -/
@[simp 100] theorem x_nil : exs Φ C [] E = .nx E := by rw [exs]
@[simp 100] theorem x_cons (a : S) (r : List S) : exs Φ C (a :: r) E = (ex Φ C a E).then (exs Φ C r) := by rw [exs]
@[simp 100] theorem xx_set (i : Nat) (e : Lw.E) : ex Φ C (.set i e) E = SR.of (ev Φ C e E) (putS i) := by rw [ex]
@[simp 100] theorem xx_setT (tg : Tgt) (e : Lw.E) : ex Φ C (.setT tg e) E = SR.of (ev Φ C e E) (kSetT tg) := by rw [ex]; rfl
@[simp 100] theorem xx_par (is : List Nat) (es : List Lw.E) : ex Φ C (.par is es) E = SR.of (evC (args Φ C es) E) (putAll is) := by rw [ex]
@[simp 100] theorem xx_parT (is : List Nat) (es : List Lw.E) : ex Φ C (.parT is es) E = SR.of (evC (args Φ C es) E) (putAll is) := by rw [ex]
@[simp 100] theorem xx_aug (i : Nat) (o : Operator) (e : Lw.E) : ex Φ C (.aug i o e) E = SR.of (evA [.slot i, .ex (ev Φ C e)] E) (kAug i o) := by rw [ex]; rfl
@[simp 100] theorem xx_sidx (i : Nat) (k e : Lw.E) : ex Φ C (.sidx i k e) E = if isOwnL E i then SR.of (evC [.ex (ev Φ C e), .ex (ev Φ C k)] E) (kSidx i) else .bad := by
  rw [ex]; dsimp only; split
  · congr 1; funext ss E1
    rcases ss with _ | ⟨s, _ | ⟨t, _ | ⟨u, ss⟩⟩⟩ <;> try rfl
    · rcases t with _ | d | d <;> rfl
    · rcases t with _ | d | d <;> rfl
  · rfl
@[simp 100] theorem xx_dset (i : Nat) (k e : Lw.E) : ex Φ C (.dset i k e) E = if isOwnD E i then SR.of (evC [.ex (ev Φ C e), .ex (ev Φ C k)] E) (kDset i) else .bad := by
  rw [ex]; dsimp only; split
  · congr 1; funext ss E1
    rcases ss with _ | ⟨s, _ | ⟨t, _ | ⟨u, ss⟩⟩⟩ <;> try rfl
    · rcases t with _ | d | d <;> rfl
    · rcases t with _ | d | d <;> rfl
  · rfl
@[simp 100] theorem xx_app (i : Nat) (e : Lw.E) : ex Φ C (.app i e) E = if isOwnL E i then SR.of (ev Φ C e E) (kApp i) else .bad := by
  rw [ex]; rfl
@[simp 100] theorem xx_ext (i : Nat) (e : Lw.E) : ex Φ C (.ext i e) E = if isOwnL E i then SR.of (ev Φ C e E) (kExt i) else .bad := by
  rw [ex]; rfl
@[simp 100] theorem xx_ex (e : Lw.E) : ex Φ C (.ex e) E = SR.of (ev Φ C e E) kNx := by rw [ex]; rfl
@[simp 100] theorem xx_ret (e : Lw.E) : ex Φ C (.ret e) E = SR.of (ev Φ C e E) .rt := by rw [ex]
@[simp 100] theorem xx_retN : ex Φ C .retN E = .rt (.val .non) E := by rw [ex]
@[simp 100] theorem xx_ite (c : Lw.E) (a b : List S) : ex Φ C (.ite c a b) E = SR.of (evT Φ C c E) (kIte Φ C a b) := by
  rw [ex]; dsimp only; congr 1; funext k E1; cases k <;> rfl
@[simp 100] theorem xx_for (tg : Tgt) (it : Lw.E) (a : List S) : ex Φ C (.for_ tg it a) E = SR.of (evI Φ C it E) (kFor Φ C tg a) := by rw [ex]; rfl
@[simp 100] theorem xx_brk : ex Φ C .brk E = .bk E := by rw [ex]
@[simp 100] theorem xx_cnt : ex Φ C .cnt E = .ct E := by rw [ex]
@[simp 100] theorem xx_pas : ex Φ C .pas E = .nx E := by rw [ex]
@[simp 100] theorem xx_raise (n : Str) (e : Lw.E) : ex Φ C (.raise n e) E = SR.of (ev Φ C e E) (kExc n) := by rw [ex]; rfl
@[simp 100] theorem i_rng1 (a : Lw.E) : evI Φ C (.rng1 a) E = (ev Φ C a E).bind kRng := by
  rw [evI]; simp only [s_bind]; congr 1; funext s E1
  rcases s with _ | d | d <;> try rfl
  cases d <;> try rfl
  rename_i n
  rw [kRng_]
  by_cases h : -(4611686018427387904) ≤ n ∧ n < 4611686018427387904
  · have h' : -(2 ^ 62) ≤ n ∧ n < 2 ^ 62 := h
    dsimp only; rw [if_pos h, if_pos h']; rfl
  · have h' : ¬ (-(2 ^ 62) ≤ n ∧ n < 2 ^ 62) := h
    dsimp only; rw [if_neg h, if_neg h']; rfl
@[simp 100] theorem i_rng2 (a b : Lw.E) : evI Φ C (.rng2 a b) E = (evA [opd Φ C a, opd Φ C b] E).bind kRng2 := by
  rw [evI]; simp only [s_bind]; congr 1; funext ds E1
  rcases ds with _ | ⟨x, _ | ⟨y, _ | ⟨z, ds⟩⟩⟩
  · rfl
  · cases x <;> rfl
  · cases x <;> try rfl
    cases y <;> try rfl
    rename_i m n
    rw [kRng2_]
    by_cases h : (-(4611686018427387904) ≤ m ∧ m < 4611686018427387904) ∧ (-(4611686018427387904) ≤ n ∧ n < 4611686018427387904)
    · have h' : (-(2 ^ 62) ≤ m ∧ m < 2 ^ 62) ∧ (-(2 ^ 62) ≤ n ∧ n < 2 ^ 62) := h
      dsimp only; rw [if_pos h, if_pos h']; rfl
    · have h' : ¬ ((-(2 ^ 62) ≤ m ∧ m < 2 ^ 62) ∧ (-(2 ^ 62) ≤ n ∧ n < 2 ^ 62)) := h
      dsimp only; rw [if_neg h, if_neg h']; rfl
  · cases x <;> try rfl
    cases y <;> rfl
@[simp 100] theorem i_enum (a : Lw.E) : evI Φ C (.enum a) E = (evC [.ex (ev Φ C a)] E).bind kEnum := by
  rw [evI]; simp only [s_bind]; congr 1; funext ds E1; exact mopt _ _
@[simp 100] theorem i_zip (a b : Lw.E) : evI Φ C (.zip a b) E = (evC [.ex (ev Φ C a), .ex (ev Φ C b)] E).bind kZip := by
  rw [evI]; simp only [s_bind]; congr 1; funext ds E1; exact mopt _ _
@[simp 100] theorem i_keys (i : Nat) : evI Φ C (.keys i) E = keysM i E := by rw [evI]
@[simp 90] theorem i_else (e : Lw.E) (h1 : ∀ a, e ≠ .rng1 a) (h2 : ∀ a b, e ≠ .rng2 a b) (h3 : ∀ a, e ≠ .enum a) (h4 : ∀ a b, e ≠ .zip a b) (h5 : ∀ i, e ≠ .keys i) : evI Φ C e E = (ev Φ C e E).bind kItems := by
  rw [evI]
  · simp only [s_bind]; congr 1; funext ds E1; exact mopt _ _
  · exact fun a e => h1 a e
  · exact fun a b e => h2 a b e
  · exact fun a e => h3 a e
  · exact fun a b e => h4 a b e
  · exact fun a e => h5 a e
end
def kC4 (ss : List Sl) (s : Sl) : M (List Sl) := fun F => .ok (s :: ss) F
def kC3 (i : Nat) (ss : List Sl) : M (List Sl) := fun F => (popS i F).bind (kC4 ss)
def kC1 (i : Nat) (r : List Arg) (_ : D) : M (List Sl) := fun F => (evC r F).bind (kC3 i)
def kC6 (s : Sl) (ss : List Sl) : M (List Sl) := fun F => .ok (s :: ss) F
def kC5 (r : List Arg) (s : Sl) : M (List Sl) := fun F => (evC r F).bind (kC6 s)
@[simp] theorem kC4_ (ss : List Sl) (s : Sl) (F : SE) : kC4 ss s F = .ok (s :: ss) F := rfl
@[simp] theorem kC3_ (i : Nat) (ss : List Sl) (F : SE) : kC3 i ss F = (popS i F).bind (kC4 ss) := rfl
@[simp] theorem kC1_ (i : Nat) (r : List Arg) (d : D) (F : SE) : kC1 i r d F = (evC r F).bind (kC3 i) := rfl
@[simp] theorem kC6_ (s : Sl) (ss : List Sl) (F : SE) : kC6 s ss F = .ok (s :: ss) F := rfl
@[simp] theorem kC5_ (r : List Arg) (s : Sl) (F : SE) : kC5 r s F = (evC r F).bind (kC6 s) := rfl
@[simp] theorem evC0 (E : SE) : evC [] E = .ok [] E := rfl
@[simp] theorem evC1 (i : Nat) (r : List Arg) (E : SE) : evC (.slot i :: r) E = (slotAt i E).bind (kC1 i r) := rfl
@[simp] theorem evC2 (f : M Sl) (r : List Arg) (E : SE) : evC (.ex f :: r) E = (f E).bind (kC5 r) := rfl
/-- behind a call -/
def callR (as : List Arg) (ss : List Sl) (E1 : SE) : R Sl → R Sl
  | .ok s ps => .ok s (putBack as ss ps E1)
  | .exc C x ps => .exc C x (putBack as ss ps E1)
  | .bad => .bad
def kCall (F : M Sl) (as : List Arg) (ss : List Sl) : M Sl := fun E1 => callR as ss E1 (F ss)
@[simp] theorem kCall_ (F : M Sl) (as : List Arg) (ss : List Sl) (E1 : SE) : kCall F as ss E1 = callR as ss E1 (F ss) := rfl
@[simp 100] theorem call_is (F : M Sl) (as : List Arg) (E : SE) : callS F as E = (evC as E).bind (kCall F as) := by
  unfold callS
  cases evC as E with
  | ok ss E1 => simp only [s_ok, kCall_]; cases F ss <;> rfl
  | exc C x E1 => rfl
  | bad => rfl
@[simp] theorem callR_ok (as : List Arg) (ss : List Sl) (E1 : SE) (s : Sl) (ps : SE) : callR as ss E1 (.ok s ps) = .ok s (putBack as ss ps E1) := rfl
@[simp] theorem callR_exc (as : List Arg) (ss : List Sl) (E1 : SE) (C : Str) (x : D) (ps : SE) : callR as ss E1 (.exc C x ps) = .exc C x (putBack as ss ps E1) := rfl
/-- behind a def's text -/
def fnR (n : Nat) (rb : List Nat) : SR → R Sl
  | .rt s E => .ok s ((wipeE E rb).take n)
  | .nx E => .ok (.val .non) ((wipeE E rb).take n)
  | .exc c x E => .exc c x ((wipeE E rb).take n)
  | _ => .bad
@[simp 100] theorem fn_is (Φ : Nat → M Sl) (C : Nat → D) (n : Nat) (rb : List Nat) (body : List S) (ss : List Sl) : fnS Φ C n rb body ss = fnR ss.length rb (exs Φ C body (ss ++ List.replicate (n - ss.length) .no)) := by
  unfold fnS fnR
  cases exs Φ C body (ss ++ List.replicate (n - ss.length) .no) <;> rfl
@[simp] theorem fnR_rt (n : Nat) (rb : List Nat) (s : Sl) (E : SE) : fnR n rb (.rt s E) = .ok s ((wipeE E rb).take n) := rfl
@[simp] theorem fnR_nx (n : Nat) (rb : List Nat) (E : SE) : fnR n rb (.nx E) = .ok (.val .non) ((wipeE E rb).take n) := rfl
@[simp] theorem fnR_exc (n : Nat) (rb : List Nat) (C : Str) (x : D) (E : SE) : fnR n rb (.exc C x E) = .exc C x ((wipeE E rb).take n) := rfl
@[simp] theorem putS_v (i : Nat) (d : D) (E : SE) : putS i (.val d) E = if i < E.length then .nx (E.set i (.val d)) else .bad := rfl
@[simp] theorem putS_o (i : Nat) (d : D) (E : SE) : putS i (.own d) E = if i < E.length then .nx (E.set i (.own d)) else .bad := rfl
@[simp] theorem putAll_0 (E : SE) : putAll [] [] E = .nx E := rfl
@[simp] theorem putAll_1 (i : Nat) (r : List Nat) (s : Sl) (ss : List Sl) (E : SE) : putAll (i :: r) (s :: ss) E = (putS i s E).then (putAll r ss) := rfl
section
@[simp] theorem wk_non : weakD .non = .non := rfl
@[simp] theorem wk9_bl (b : Bool) : weakD (.bl b) = .bl b := rfl
@[simp] theorem wk9_int (b : Int) : weakD (.int b) = .int b := rfl
@[simp] theorem wk9_str (b : Str) : weakD (.str b) = .str b := rfl
@[simp] theorem wk9_ty (b : String) : weakD (.ty b) = .ty b := rfl
@[simp] theorem wkk_tup (b : List D) : weakD (.tup b) = .tup b := rfl
@[simp] theorem wk9_lst (b : List D) : weakD (.lst b) = .lst b := rfl
@[simp] theorem wk9_scr (b : List Int) : weakD (.scr b) = .scr b := rfl
@[simp] theorem wk9_dk (a : List Key) (b : List D) : weakD (.dk a b) = .dk a b := rfl
@[simp] theorem wk9_dt (a : List (List Key)) (b : List D) : weakD (.dt a b) = .dt a b := rfl
@[simp] theorem wk9_ptup (b : List D) : weakD (.ptup b) = .tup b := rfl
@[simp] theorem wk9_dz (a : List Key) (b : List D) : weakD (.dz a b) = .dz a b := rfl
@[simp] theorem wk9_exc (a : Str) (b : D) : weakD (.exc a b) = .exc a b := rfl
@[simp] theorem wk9_isf (a : Str) : weakD (.isf a) = .isf a := rfl
@[simp] theorem wk_dkE {κ β : Type} [DecidableEq κ] (T : KD κ β) (t : List (κ × β)) : weakD (dkE T t) = dkE T t := rfl
@[simp] theorem wk_dzE {κ β : Type} [DecidableEq κ] (T : KD κ β) (t : List (κ × β)) : weakD (dzE T t) = dzE T t := rfl
@[simp] theorem sd_val (d : D) : (Sl.val d).d = d := rfl
@[simp] theorem sd_own (d : D) : (Sl.own d).d = d := rfl
@[simp] theorem wS_val (d : D) : weakS (.val d) = .val (weakD d) := rfl
@[simp] theorem isDk_i {κ β : Type} [DecidableEq κ] (T : KD κ β) (t : List (κ × β)) : lenD (dkE T t) = some t.length := by simp [dkE, lenD]
end
section
@[simp] theorem c_eq (a b : D) : cmpS .Eq a b = (eqD a b).map fun k => .val (.bl k) := rfl
@[simp] theorem c_ne (a b : D) : cmpS .NotEq a b = (eqD a b).map fun k => .val (.bl (!k)) := rfl
@[simp] theorem c_lt (i j : Int) : cmpS .Lt (.int i) (.int j) = some (.val (.bl (decide (i < j)))) := rfl
@[simp] theorem c_le (i j : Int) : cmpS .LtE (.int i) (.int j) = some (.val (.bl (decide (i ≤ j)))) := rfl
@[simp] theorem c_gt (i j : Int) : cmpS .Gt (.int i) (.int j) = some (.val (.bl (decide (j < i)))) := rfl
@[simp] theorem c_ge (i j : Int) : cmpS .GtE (.int i) (.int j) = some (.val (.bl (decide (j ≤ i)))) := rfl
@[simp] theorem c_is (a : D) : cmpS .Is a .non = some (.val (.bl (isNonD a))) := rfl
@[simp] theorem c_isn (a : D) : cmpS .IsNot a .non = some (.val (.bl (!isNonD a))) := rfl
@[simp] theorem c_inl (a : D) (ys : List D) : cmpS .In a (.lst ys) = (inD a ys).map fun k => .val (.bl k) := rfl
@[simp] theorem c_nil (a : D) (ys : List D) : cmpS .NotIn a (.lst ys) = (inD a ys).map fun k => .val (.bl (!k)) := rfl
@[simp] theorem c_int (a : D) (ys : List D) : cmpS .In a (.tup ys) = if flatD a && ys.all flatD then some (.val (.bl (ys.any fun y => eqF y a))) else none := rfl
@[simp] theorem c_nit (a : D) (ys : List D) : cmpS .NotIn a (.tup ys) = if flatD a && ys.all flatD then some (.val (.bl (!ys.any fun y => eqF y a))) else none := rfl
@[simp] theorem n_non : isNonD .non = true := rfl
@[simp] theorem n_int (i : Int) : isNonD (.int i) = false := rfl
@[simp] theorem n_str (i : Str) : isNonD (.str i) = false := rfl
@[simp] theorem n_bl (i : Bool) : isNonD (.bl i) = false := rfl
@[simp] theorem n_tup (i : List D) : isNonD (.tup i) = false := rfl
@[simp] theorem n_lst (i : List D) : isNonD (.lst i) = false := rfl
@[simp] theorem b_addi (i j : Int) : bopS .Add (.int i) (.int j) = some (.val (.int (i + j))) := rfl
@[simp] theorem b_subi (i j : Int) : bopS .Sub (.int i) (.int j) = some (.val (.int (i - j))) := rfl
@[simp] theorem b_muli (i j : Int) : bopS .Mult (.int i) (.int j) = if mulOk i j then some (.val (.int (i * j))) else none := rfl
@[simp] theorem b_fdi (i j : Int) : bopS .FloorDiv (.int i) (.int j) = if 0 < j ∧ j.natAbs.log2 < 9000 then some (.val (.int (i / j))) else none := rfl
@[simp] theorem b_modi (i j : Int) : bopS .Mod (.int i) (.int j) = if 0 < j then some (.val (.int (i % j))) else none := rfl
@[simp] theorem b_adds (x y : Str) : bopS .Add (.str x) (.str y) = if x.length + y.length ≤ 16777216 then some (.val (.str (x ++ y))) else none := by simp only [bopS, sizeLine_eq]
@[simp] theorem b_addt (x y : List D) : bopS .Add (.tup x) (.tup y) = if x.length + y.length ≤ 16777216 then some (.val (.tup (x ++ y))) else none := by simp only [bopS, sizeLine_eq]
@[simp] theorem b_addl (x y : List D) : bopS .Add (.lst x) (.lst y) = if x.length + y.length ≤ 16777216 then some (.own (.lst (x ++ y))) else none := by simp only [bopS, sizeLine_eq]
@[simp] theorem b_multt (xs : List D) (k : Int) : bopS .Mult (.tup xs) (.int k) = if xs ≠ [] ∧ 2 ≤ k ∧ k ≤ 1000 ∧ xs.length ≤ 1000 then some (.val (.tup (List.replicate k.toNat xs).flatten)) else none := rfl
@[simp] theorem b_multl (xs : List D) (k : Int) : bopS .Mult (.lst xs) (.int k) = if -(9223372036854775808) ≤ k ∧ k < 9223372036854775808 ∧ xs.length * k.toNat ≤ 16777216 then some (.own (.lst (List.replicate k.toNat xs).flatten)) else none := by
  simp only [bopS, sizeLine_eq]; rfl
@[simp] theorem f_len (d : D) : biS .len [d] = (lenD d).map fun n => .val (.int n) := by cases h : lenD d <;> simp [biS, h, vI]
@[simp] theorem f_abs (i : Int) : biS .abs [.int i] = some (.val (.int (if i < 0 then -i else i))) := rfl
@[simp] theorem f_max (i j : Int) : biS .max [.int i, .int j] = some (.val (.int (if j > i then j else i))) := rfl
@[simp] theorem f_min (i j : Int) : biS .min [.int i, .int j] = some (.val (.int (if j < i then j else i))) := rfl
@[simp] theorem f_all (xs : List D) : biS .all [.lst xs] = (blsOf xs).map fun bs => .val (.bl (bs.all id)) := rfl
@[simp] theorem f_any (xs : List D) : biS .any [.lst xs] = (blsOf xs).map fun bs => .val (.bl (bs.any id)) := rfl
@[simp] theorem f_sorted (xs : List D) : biS .sorted [.lst xs] = (sortD xs).map fun ys => .own (.lst ys) := rfl
@[simp] theorem f_repr (d : D) : biS .repr [d] = (reprD d).map fun x => .val (.str x) := rfl
@[simp] theorem f_isi (d : D) (n : String) : biS .isinstance [d, .ty n] = (isiD d n).map fun b => .val (.bl b) := rfl
@[simp] theorem f_suml (xs : List D) : biS .sum [.lst xs] = (intsOf xs).map fun ns => .val (.int ns.sum) := rfl
@[simp] theorem f_sumt (xs : List D) : biS .sum [.tup xs] = (intsOf xs).map fun ns => .val (.int ns.sum) := rfl
theorem f_maxl {xs : List D} {i : Int} {r : List Int} (h : intsOf xs = some (i :: r)) : biS .max [.lst xs] = some (.val (.int (maxL (i :: r)))) := by simp [biS, h, vI]
theorem f_minl {xs : List D} {i : Int} {r : List Int} (h : intsOf xs = some (i :: r)) : biS .min [.lst xs] = some (.val (.int (minL (i :: r)))) := by simp [biS, h, vI]
@[simp] theorem y_ii (i : Int) : tyS .int [.int i] = some (.val (.int i)) := rfl
@[simp] theorem y_ib (b : Bool) : tyS .int [.bl b] = some (.val (.int (if b then 1 else 0))) := rfl
@[simp] theorem y_si (i : Int) : tyS .str [.int i] = if i.natAbs.log2 < 1920 then some (.val (.str (toString i))) else none := rfl
@[simp] theorem y_ll (xs : List D) : tyS .list [.lst xs] = some (.own (.lst xs)) := rfl
@[simp] theorem y_lt (xs : List D) : tyS .list [.tup xs] = some (.own (.lst xs)) := rfl
@[simp] theorem y_tl (xs : List D) : tyS .tuple [.lst xs] = some (.val (.tup xs)) := rfl
@[simp] theorem y_tt (xs : List D) : tyS .tuple [.tup xs] = some (.val (.tup xs)) := rfl
@[simp] theorem k_l (xs : List D) (i : Int) : ixS (.lst xs) (.int i) = (atI xs i).map .val := rfl
@[simp] theorem k_t (xs : List D) (i : Int) : ixS (.tup xs) (.int i) = (atI xs i).map .val := rfl
@[simp] theorem k_s (ns : List Int) (i : Int) : ixS (.scr ns) (.int i) = (atI ns i).map fun i => .val (.int i) := rfl
@[simp] theorem l_tup (xs : List D) : lenD (.tup xs) = some xs.length := rfl
@[simp] theorem l_lst (xs : List D) : lenD (.lst xs) = some xs.length := rfl
@[simp] theorem l_scr (xs : List Int) : lenD (.scr xs) = some xs.length := rfl
@[simp] theorem l_str (x : Str) : lenD (.str x) = if x.length ≤ 16777216 then some x.length else none := by simp only [lenD, sizeLine_eq]
@[simp] theorem l_dk (ks : List Key) (vs : List D) : lenD (.dk ks vs) = some ks.length := rfl
@[simp] theorem tr_non : truthD .non = some false := rfl
@[simp] theorem tr_bl (b : Bool) : truthD (.bl b) = some b := rfl
@[simp] theorem tr_int (i : Int) : truthD (.int i) = some (i != 0) := rfl
@[simp] theorem tr_lst (xs : List D) : truthD (.lst xs) = some (!xs.isEmpty) := rfl
@[simp] theorem tr_tup (xs : List D) : truthD (.tup xs) = some (!xs.isEmpty) := rfl
@[simp] theorem tr_scr (xs : List Int) : truthD (.scr xs) = some (!xs.isEmpty) := rfl
@[simp] theorem tr_dk (ks : List Key) (vs : List D) : truthD (.dk ks vs) = some (!ks.isEmpty) := rfl
@[simp] theorem sl_l (xs : List D) (lo hi : Option Int) : slS (.lst xs) lo hi = some (.own (.lst (cutD xs lo hi))) := rfl
@[simp] theorem sl_t (xs : List D) (lo hi : Option Int) : slS (.tup xs) lo hi = some (.val (.tup (cutD xs lo hi))) := rfl
@[simp] theorem at_0 {α : Type} (x : α) (r : List α) : atI (x :: r) 0 = some x := by
  have : (0 : Int) < (r.length : Int) + 1 := by omega
  simp [atI, ixN, this]
@[simp] theorem at_1 {α : Type} (x y : α) (r : List α) : atI (x :: y :: r) 1 = some y := by
  have : (1 : Int) < (r.length : Int) + 1 + 1 := by omega
  simp [atI, ixN, this]
@[simp] theorem at_2 {α : Type} (x y z : α) (r : List α) : atI (x :: y :: z :: r) 2 = some z := by
  have : (2 : Int) < (r.length : Int) + 1 + 1 + 1 := by omega
  simp [atI, ixN, this]
@[simp] theorem ne_int (i : Int) : negS (.int i) = some (.val (.int (-i))) := rfl
@[simp] theorem rv_l (xs : List D) : revS (.lst xs) = some (.own (.lst xs.reverse)) := rfl
@[simp] theorem rv_t (xs : List D) : revS (.tup xs) = some (.val (.tup xs.reverse)) := rfl
@[simp] theorem it_l (xs : List D) : itemsD (.lst xs) = some xs := rfl
@[simp] theorem it_t (xs : List D) : itemsD (.tup xs) = some xs := rfl
@[simp] theorem it_p (xs : List D) : itemsD (.ptup xs) = some xs := rfl
@[simp] theorem au_a (i j : Int) : augO .Add (.int i) (.int j) = some (.val (.int (i + j))) := rfl
@[simp] theorem au_s (i j : Int) : augO .Sub (.int i) (.int j) = some (.val (.int (i - j))) := rfl
@[simp] theorem xv (C : Str) (x : D) : xvalS (.exc C x) = some (.val x) := rfl
@[simp] theorem xi (C n : Str) (x : D) : isxS n (.exc C x) = some (.val (.bl (excIs C n))) := rfl
@[simp] theorem inII (t : List (Int × Int)) (x : Int) : cmpS .In (.int x) (dkE TII t) = some (.val (.bl (decide (x ∈ t.map (·.1))))) := in_enc (T := TII) (isD_dk t) x
@[simp] theorem inIZ (t : List (Int × Int)) (x : Int) : cmpS .In (.int x) (dzE TII t) = some (.val (.bl (decide (x ∈ t.map (·.1))))) := in_enc (T := TII) (isD_dz t) x
@[simp] theorem ixII (t : List (Int × Int)) (x : Int) : ixS (dkE TII t) (.int x) = (getL t x).map fun v => .val (.int v) := ix_enc (T := TII) (isD_dk t) x
@[simp] theorem ixIZ (t : List (Int × Int)) (x : Int) : ixS (dzE TII t) (.int x) = (getL t x).map fun v => .val (.int v) := ix_enc (T := TII) (isD_dz t) x
@[simp] theorem getII (t : List (Int × Int)) (x y : Int) : getS [dkE TII t, .int x, .int y] = some (.val (.int ((getL t x).getD y))) := by
  have := get_enc (isD_dk (T := TII) t) x (x := .int y) rfl
  rw [show TII.kd x = .int x from rfl] at this
  rw [this]; cases getL t x <;> rfl
@[simp] theorem getIZ (t : List (Int × Int)) (x y : Int) : getS [dzE TII t, .int x, .int y] = some (.val (.int ((getL t x).getD y))) := by
  have := get_enc (isD_dz (T := TII) t) x (x := .int y) rfl
  rw [show TII.kd x = .int x from rfl] at this
  rw [this]; cases getL t x <;> rfl
@[simp] theorem setII (t : List (Int × Int)) (x y : Int) (h : t.length < 16777216) : setK (dkE TII t) (.int x) (.int y) = some (dkE TII (putL t x y)) := set_enc (T := TII) t x y h
section
variable {κ β : Type} [DecidableEq κ] (T : KD κ β) (t : List (κ × β))
@[simp] theorem dd_dk : dictD (dkE T t) = some (t.map fun p => T.kf p.1, t.map fun p => T.vf p.2) := rfl
@[simp] theorem dd_dz : dictD (dzE T t) = some (t.map fun p => T.kf p.1, t.map fun p => T.vf p.2) := rfl
def ownB : Option Sl → Bool
  | some (.own (.dk _ _)) => true
  | _ => false
@[simp] theorem isOwn_is (E : SE) (i : Nat) : isOwnD E i = ownB E[i]? := by
  unfold isOwnD; generalize E[i]? = o; rfl
@[simp] theorem ownB_dk (ks : List Key) (vs : List D) : ownB (some (.own (.dk ks vs))) = true := rfl
@[simp] theorem ownB_E : ownB (some (.own (dkE T t))) = true := rfl
def keysR (E : SE) (i : Nat) : Option Sl → R (List D)
  | some (.own (.dk ks ds)) => .ok (ks.map keyOf) (E.set i (.val (.dz ks ds)))
  | some (.val (.dz ks _)) => .ok (ks.map keyOf) E
  | _ => .bad
@[simp] theorem keys_is (E : SE) (i : Nat) : keysM i E = keysR E i E[i]? := by
  unfold keysM; generalize E[i]? = o
  rcases o with _ | (_ | d | d)
  · rfl
  · rfl
  · cases d <;> rfl
  · cases d <;> rfl
@[simp] theorem keysR_o (E : SE) (i : Nat) : keysR E i (some (.own (dkE T t))) = .ok (t.map fun p => T.kd p.1) (E.set i (.val (dzE T t))) := by
  simp only [keysR, dkE, dzE, List.map_map, Function.comp_def, T.back]
@[simp] theorem keysR_v (E : SE) (i : Nat) : keysR E i (some (.val (dzE T t))) = .ok (t.map fun p => T.kd p.1) E := by
  simp only [keysR, dzE, List.map_map, Function.comp_def, T.back]
end
@[simp] theorem kd_II (i : Int) : TII.kd i = .int i := rfl
@[simp] theorem vf_II (i : Int) : TII.vf i = .int i := rfl
theorem keyInts_II (l : List Int) : keyInts (l.map .inl) = some l := by
  induction l with
  | nil => rfl
  | cons i l ih => rw [List.map_cons, keyInts, ih]; rfl
theorem sitemsII (t : List (Int × Int)) (d : D) (hd : d = dkE TII t ∨ d = dzE TII t) (h : t.length ≤ 1000) : sitemsS d = some (.own (.lst ((t.mergeSort leII).map prD))) := by
  have e1 : keyInts (t.map fun p => TII.kf p.1) = some (t.map (·.1)) := by rw [← keyInts_II, List.map_map]; rfl
  have e2 : intsOf (t.map fun p => TII.vf p.2) = some (t.map (·.2)) := by rw [← intsOf_map, List.map_map]; rfl
  have e3 : (t.map (·.1)).zip (t.map (·.2)) = t := by rw [List.zip_map']; simp
  rcases hd with rfl | rfl <;> simp [sitemsS, e1, (show intsOf (t.map fun p => D.int p.2) = _ from e2), e3, h]
theorem svalsII (t : List (Int × Int)) (d : D) (hd : d = dkE TII t ∨ d = dzE TII t) (h : t.length ≤ 1000) : svalsS d = some (.own (.lst (((t.map (·.2)).mergeSort leI).map .int))) := by
  have e2 : intsOf (t.map fun p => TII.vf p.2) = some (t.map (·.2)) := by rw [← intsOf_map, List.map_map]; rfl
  rcases hd with rfl | rfl <;> simp [svalsS, (show intsOf (t.map fun p => D.int p.2) = _ from e2), h]
theorem dictlII {α : Type} (xs : List α) (k v : α → Int) (h : (xs.map k).Nodup) : dictlS (.lst (xs.map fun x => .tup [.int (k x), .int (v x)])) = some (.own (dkE TII (xs.map fun x => (k x, v x)))) := by
  have := dict_of TII (ps := xs.map fun x => (k x, v x)) (by simpa [List.map_map, Function.comp_def] using h)
  rw [List.map_map] at this
  exact this
def forK (bt : D → SE → Option SE) (b : SE → SR) (r : List D) : SR → SR
  | .nx E => forI bt b r E
  | .ct E => forI bt b r E
  | .bk E => .nx E
  | .rt s E => .rt s E
  | .exc C x E => .exc C x E
  | .bad => .bad
def forB (bt : D → SE → Option SE) (b : SE → SR) (r : List D) : Option SE → SR
  | some E => forK bt b r (b E)
  | none => .bad
@[simp] theorem forI_0 (bt : D → SE → Option SE) (b : SE → SR) (E : SE) : forI bt b [] E = .nx E := by rw [forI]
@[simp] theorem forI_1 (bt : D → SE → Option SE) (b : SE → SR) (d : D) (r : List D) (E : SE) : forI bt b (d :: r) E = forB bt b r (bt d E) := by
  rw [forI]
  cases bt d E with
  | none => rfl
  | some E1 => show _ = forK bt b r (b E1); dsimp only; cases b E1 <;> rfl
@[simp] theorem forB_s (bt : D → SE → Option SE) (b : SE → SR) (r : List D) (E : SE) : forB bt b r (some E) = forK bt b r (b E) := rfl
@[simp] theorem forK_n (bt : D → SE → Option SE) (b : SE → SR) (r : List D) (E : SE) : forK bt b r (.nx E) = forI bt b r E := rfl
@[simp] theorem forK_c (bt : D → SE → Option SE) (b : SE → SR) (r : List D) (E : SE) : forK bt b r (.ct E) = forI bt b r E := rfl
@[simp] theorem forK_b (bt : D → SE → Option SE) (b : SE → SR) (r : List D) (E : SE) : forK bt b r (.bk E) = .nx E := rfl
@[simp] theorem forK_r (bt : D → SE → Option SE) (b : SE → SR) (r : List D) (s : Sl) (E : SE) : forK bt b r (.rt s E) = .rt s E := rfl
@[simp] theorem forK_x (bt : D → SE → Option SE) (b : SE → SR) (r : List D) (C : Str) (x : D) (E : SE) : forK bt b r (.exc C x E) = .exc C x E := rfl
theorem atI_nat {α : Type} {xs : List α} {i : Nat} (h : i < xs.length) : atI xs (i : Int) = some xs[i] := by
  obtain ⟨x, _, e1, e2⟩ := atI_mem (xs := xs) (i := (i : Int)) (by omega) (by omega)
  rw [e1, ← e2]; simp [h]
theorem zipD_map {α β : Type} (f : α → D) (g : β → D) (a : List α) (b : List β) : zipD (a.map f) (b.map g) = (a.zip b).map fun x => D.tup [f x.1, g x.2] := by
  unfold zipD
  rw [List.zip_map, List.map_map]; rfl
theorem cut_1 {α : Type} (xs : List α) : cutD xs (some 1) none = xs.drop 1 := by
  cases xs with
  | nil => simp [cutD, HT.sIx]
  | cons x xs =>
    simp [cutD, HT.sIx]
theorem cut_to {α : Type} (xs : List α) (n : Nat) : cutD xs none (some (n : Int)) = xs.take n := by
  unfold cutD
  have e1 : HT.sIx xs.length 0 none = 0 := rfl
  rw [e1, HT.sIx_nat, List.drop_zero, Nat.sub_zero]
  rw [List.take_eq_take_iff]; omega
/-- neighbours -/
theorem zip_next {α : Type} {R : α → α → Prop} : ∀ {xs : List α}, xs.Pairwise R → ∀ x ∈ xs.zip (xs.drop 1), R x.1 x.2
  | [], _, x, hx => by simp at hx
  | [a], _, x, hx => by simp at hx
  | a :: b :: xs, h, x, hx => by
    rw [List.pairwise_cons] at h
    simp only [List.drop_succ_cons, List.drop_zero, List.zip_cons_cons, List.mem_cons] at hx
    rcases hx with rfl | hx
    · exact h.1 b List.mem_cons_self
    · exact zip_next h.2 x (by simpa using hx)
theorem bls_map {α : Type} (p : α → Bool) (xs : List α) : blsOf (xs.map fun x => D.bl (p x)) = some (xs.map p) := by
  induction xs with
  | nil => rfl
  | cons x xs ih => simp [blsOf, ih]
@[simp] theorem bls_c {α : Type} (xs : List α) : blsOf (xs.map fun _ => D.bl true) = some (xs.map fun _ => true) := bls_map _ xs
@[simp] theorem all_c {α : Type} (xs : List α) : (xs.map fun _ => true).all id = true := by
  rw [List.all_eq_true]; intro b hb; obtain ⟨_, _, rfl⟩ := List.mem_map.mp hb; rfl
@[simp] theorem bls_rep (n : Nat) (b : Bool) : blsOf (List.replicate n (D.bl b)) = some (List.replicate n b) := by
  induction n with
  | zero => rfl
  | succ n ih => simp [List.replicate_succ, blsOf, ih]
@[simp] theorem all_rep (n : Nat) : (List.replicate n true).all id = true := by
  rw [List.all_eq_true]; intro b hb; exact List.eq_of_mem_replicate hb
def obind {α : Type} (o : Option SE) (f : SE → R α) : R α := match o with
  | some E => f E
  | none => .bad
@[simp] theorem obind_s {α : Type} (E : SE) (f : SE → R α) : obind (some E) f = f E := rfl
theorem lcI_0 (bt : D → SE → Option SE) (tests : List (M Bool)) (elt : M Sl) (own : List Nat) (acc : List D) (E : SE) : lcI bt tests elt own [] acc E = .ok acc E := by rw [lcI]; rfl
section
variable (bt : D → SE → Option SE) (tests : List (M Bool)) (elt : M Sl) (own : List Nat) (r acc : List D)
def kL3 (s : Sl) : M (List D) := fun E => if acc.length < 16777216 then lcI bt tests elt own r (acc ++ [s.d]) (wipeE E own) else .bad
def kL2 (k : Bool) : M (List D) := fun E => if k then (elt E).bind (kL3 bt tests elt own r acc) else lcI bt tests elt own r acc (wipeE E own)
def kL1 (E : SE) : R (List D) := (lcI.allT tests E).bind (kL2 bt tests elt own r acc)
@[simp] theorem kL3_ (s : Sl) (E : SE) : kL3 bt tests elt own r acc s E = if acc.length < 16777216 then lcI bt tests elt own r (acc ++ [s.d]) (wipeE E own) else .bad := rfl
@[simp] theorem kL2_ (k : Bool) (E : SE) : kL2 bt tests elt own r acc k E = if k then (elt E).bind (kL3 bt tests elt own r acc) else lcI bt tests elt own r acc (wipeE E own) := rfl
@[simp] theorem kL1_ (E : SE) : kL1 bt tests elt own r acc E = (lcI.allT tests E).bind (kL2 bt tests elt own r acc) := rfl
theorem lcI_1 (d : D) (E : SE) : lcI bt tests elt own (d :: r) acc E = obind (bt d (wipeE E own)) (kL1 bt tests elt own r acc) := by
  rw [lcI]; dsimp only
  cases bt d (wipeE E own) with
  | none => rfl
  | some E1 => simp only [obind_s, kL1_]; rw [sizeLine_eq]; rfl
end
def lcK (own : List Nat) (E : SE) : R (List D) → R Sl
  | .ok acc E1 => .ok (.own (.lst acc)) (backE E E1 own)
  | _ => .bad
@[simp] theorem lcK_o (own : List Nat) (E E1 : SE) (acc : List D) : lcK own E (.ok acc E1) = .ok (.own (.lst acc)) (backE E E1 own) := rfl
def kLc (Φ : Nat → M Sl) (C : Nat → D) (elt : E) (tg : Tgt) (ifs : List E) (own : List Nat) (ds : List D) : M Sl := fun E => if notOwn E own then lcK own E (lcI (bindT tg) (evTs Φ C ifs) (ev Φ C elt) own ds [] (wipeE E own)) else .bad
@[simp] theorem kLc_ (Φ : Nat → M Sl) (C : Nat → D) (elt : E) (tg : Tgt) (ifs : List E) (own : List Nat) (ds : List D) (E : SE) : kLc Φ C elt tg ifs own ds E = if notOwn E own then lcK own E (lcI (bindT tg) (evTs Φ C ifs) (ev Φ C elt) own ds [] (wipeE E own)) else .bad := rfl
/-- of a list that is at hand -/
theorem e_lc (Φ : Nat → M Sl) (C : Nat → D) (elt : E) (tg : Tgt) (it : E) (ifs : List E) (own : List Nat) (E : SE) : ev Φ C (.lc elt tg it ifs own) E = (evI Φ C it E).bind (kLc Φ C elt tg ifs own) := by
  rw [ev_lc, s_bind]; congr 1
@[simp] theorem fl_non : flatD .non = true := rfl
@[simp] theorem fl_bl (b : Bool) : flatD (.bl b) = true := rfl
@[simp] theorem fl_int (b : Int) : flatD (.int b) = true := rfl
@[simp] theorem fl_str (b : Str) : flatD (.str b) = true := rfl
@[simp] theorem ef_str (a b : Str) : eqF (.str a) (.str b) = (a == b) := rfl
@[simp] theorem ef_int (a b : Int) : eqF (.int a) (.int b) = (a == b) := rfl
theorem b_pow {i j : Int} (h : 0 ≤ j ∧ (Builtin.Int.intBits i : Int) * j ≤ 134217728) : bopS .Pow (.int i) (.int j) = some (.val (.int (i ^ j.toNat))) := by
  have h' : 0 ≤ j ∧ (Builtin.Int.intBits i : Int) * j ≤ 2 ^ 27 := h
  simp only [bopS]; rw [if_pos h']; rfl
theorem hs_ok (s : Sl) (E : SE) (m : M Sl) (h : m E = .ok s E) : heardS m E = .ok (.val (.tup [.non, s.d])) E := by unfold heardS; rw [h]
/-- heard, behind the call -/
def hearR : R Sl → R Sl
  | .ok s E1 => .ok (.val (.tup [.non, s.d])) E1
  | .exc C x E1 => .ok (.val (.tup [.exc C x, .non])) E1
  | .bad => .bad
@[simp] theorem hear_is (m : M Sl) (E : SE) : heardS m E = hearR (m E) := by unfold heardS hearR; cases m E <;> rfl
@[simp] theorem hearR_o (s : Sl) (E : SE) : hearR (.ok s E) = .ok (.val (.tup [.non, s.d])) E := rfl
@[simp] theorem hearR_x (C : Str) (x : D) (E : SE) : hearR (.exc C x E) = .ok (.val (.tup [.exc C x, .non])) E := rfl
/-- if repr(a) != repr(b): .., where both are shown alike -/
theorem repr_ne2 {Φ : Nat → M Sl} {C : Nat → D} {a b : E} {E E1 E2 : SE} {x : Str} {s t : Sl} (hx2 : PyData.strOk x = true) (ha : ev Φ C a E = .ok s E1) (hs : reprD (weakD s.d) = some x) (hb : ev Φ C b E1 = .ok t E2) (ht : reprD (weakD t.d) = some x)
    (oa : opd Φ C a = .ex (ev Φ C a)) (ob : opd Φ C b = .ex (ev Φ C b)) : evT Φ C (.cmp .NotEq (.bi .repr [a]) (.bi .repr [b])) E = .ok false E2 := by
  have q := eqD_self hx2
  have e1 : ∀ k F, ev Φ C (.bi .repr [k]) F = (evA [opd Φ C k] F).bind (kOp (biS .repr)) := fun k F => by rw [e_bi, os_cons, os_nil]
  have e2 : ∀ k, opd Φ C (.bi .repr [k]) = .ex (ev Φ C (.bi .repr [k])) := fun k => by simp only [opd]
  have e3 : opd Φ C (.cmp .NotEq (.bi .repr [a]) (.bi .repr [b])) = .ex (ev Φ C (.cmp .NotEq (.bi .repr [a]) (.bi .repr [b]))) := by simp only [opd]
  have hr : ev Φ C (.cmp .NotEq (.bi .repr [a]) (.bi .repr [b])) E = .ok (.val (.bl false)) E2 := by
    rw [e_cmp, e2, e2, evA_2, e1, oa, evA_2, ha]
    simp only [s_ok, evA_0, hs, f_repr, Option.map_some, opt_some, kOp_n, kA1_, kA2_]
    rw [evA_2, e1, ob, evA_2, hb]
    simp only [s_ok, evA_0, ht, f_repr, Option.map_some, opt_some, sd_val, wk9_str, c_ne, q, kOp_n, kA1_, kA2_, op2]
    rfl
  rw [evT_cmp, s_bind, e3, s_evA2, hr]
  simp
/-- a text's parts -/
def sat (b : List S) (i : Nat) : S := b.getD i .pas
def S.body : S → List S
  | .for_ _ _ b => b
  | .whl _ b => b
  | .ite _ b _ => b
  | _ => []
def S.els : S → List S
  | .ite _ _ b => b
  | _ => []
def S.val : S → E
  | .set _ e => e
  | .setT _ e => e
  | .ret e => e
  | .ex e => e
  | .app _ e => e
  | .ext _ e => e
  | .ite e _ _ => e
  | .for_ _ e _ => e
  | _ => .non
end
section
@[simp] theorem u_popS (i : Nat) (E : SE) : popS i E = match E[i]? with
  | some (.own d) => .ok (.own d) (E.set i .no)
  | some (.val d) => .ok (.val d) E
  | _ => .bad := rfl
@[simp] theorem u_fzS (i : Nat) (E : SE) : fzS i E = match E[i]? with
  | some (.own d) => .ok (.val d) (E.set i (.val d))
  | some (.val d) => .ok (.val d) E
  | _ => .bad := rfl
@[simp] theorem u_varS (i : Nat) (E : SE) : varS i E = match E[i]? with
  | some (.val d) => .ok (.val d) E
  | _ => .bad := rfl
@[simp] theorem u_pb0 (ss ps : List Sl) (E : SE) : putBack [] ss ps E = E := putBack_0 ss ps E
@[simp] theorem u_pb1 (f : M Sl) (ss ps : List Sl) (E : SE) : putBack [.ex f] ss ps E = E := putBack_ex f ss ps E
@[simp] theorem u_pb2 (f : M Sl) (r : List Arg) (s p : Sl) (ss ps : List Sl) (E : SE) : putBack (.ex f :: r) (s :: ss) (p :: ps) E = putBack r ss ps E := putBack_x1 f r s p ss ps E
@[simp] theorem u_pb3 (i : Nat) (d : D) (r : List Arg) (p : Sl) (ss ps : List Sl) (E : SE) : putBack (.slot i :: r) (.own d :: ss) (p :: ps) E = (putBack r ss ps E).set i p := rfl
@[simp] theorem u_pb4 (i : Nat) (d : D) (r : List Arg) (p : Sl) (ss ps : List Sl) (E : SE) : putBack (.slot i :: r) (.val d :: ss) (p :: ps) E = putBack r ss ps E := rfl
@[simp] theorem u_setD (xs : List D) (i : Int) (v : D) : setD (.lst xs) (.int i) v = (ixN xs.length i).map fun j => .lst (xs.set j v) := rfl
@[simp] theorem u_isOwnL (E : SE) (i : Nat) : isOwnL E i = match E[i]? with
  | some (.own (.lst _)) => true
  | _ => false := rfl
@[simp] theorem u_isDictAt (E : SE) (i : Nat) : isDictAt E i = match E[i]? with
  | some (.own d) => (dictD d).isSome
  | some (.val d) => (dictD d).isSome
  | _ => false := rfl
@[simp] theorem u_appD (s : Sl) (xs : List D) : appD s (.lst xs) = if xs.length < 16777216 then some (.lst (xs ++ [s.d])) else none := by simp only [appD, sizeLine_eq]
@[simp] theorem u_extD (s : Sl) (xs : List D) : extD s (.lst xs) = match s.d with
    | .lst ys => if xs.length + ys.length ≤ 16777216 then some (.lst (xs ++ ys)) else none
    | _ => none := by
  unfold extD; cases s.d <;> simp [sizeLine_eq]
@[simp] theorem u_nm (i : Nat) (d : D) (E : SE) : bindT (.nm i) d E = if i < E.length then some (E.set i (.val d)) else none := bind_nm i d E
@[simp] theorem u_tup (ts : List Tgt) (ds : List D) (E : SE) : bindT (.tup ts) (.tup ds) E = bindTs ts ds E := bind_tup ts ds E
@[simp] theorem u_b0 (E : SE) : bindTs [] [] E = some E := bind_0 E
@[simp] theorem u_b1 (t : Tgt) (ts : List Tgt) (d : D) (ds : List D) (E : SE) : bindTs (t :: ts) (d :: ds) E = (bindT t d E).bind (bindTs ts ds) := bind_1 t ts d ds E
@[simp] theorem u_isiD (d : D) (n : String) : isiD d n = match tyD d with
  | some t => if isiTys.contains n && n != "NoneType" then some (isiS t n) else none
  | none => none := rfl
@[simp] theorem u_ty0 : tyD .non = some "NoneType" := rfl
@[simp] theorem u_ty1 (b : Bool) : tyD (.bl b) = some "bool" := rfl
@[simp] theorem u_ty2 (b : Int) : tyD (.int b) = some "int" := rfl
@[simp] theorem u_ty3 (b : Str) : tyD (.str b) = some "str" := rfl
@[simp] theorem u_ty4 (b : List D) : tyD (.tup b) = some "tuple" := rfl
@[simp] theorem u_ty5 (b : List D) : tyD (.lst b) = some "list" := rfl
@[simp] theorem u_ty6 (a : List Key) (b : List D) : tyD (.dk a b) = some "dict" := rfl
@[simp] theorem u_isiTys : isiTys = ["NoneType", "bool", "int", "str", "tuple", "list", "dict"] := rfl
@[simp] theorem u_isiS (t n : String) : isiS t n = (t == n || (t == "bool" && n == "int")) := rfl
@[simp] theorem u_w0 (E : SE) : wipeE E [] = E := rfl
@[simp] theorem u_w1 (E : SE) (i : Nat) (r : List Nat) : wipeE E (i :: r) = (wipeE E r).set i .no := rfl
@[simp] theorem u_k0 (E0 E : SE) : backE E0 E [] = E := rfl
@[simp] theorem u_k1 (E0 E : SE) (i : Nat) (r : List Nat) : backE E0 E (i :: r) = (backE E0 E r).set i (E0.getD i .no) := rfl
@[simp] theorem u_notOwn (E : SE) (own : List Nat) : notOwn E own = own.all fun i => match E[i]? with
  | some (.own _) => false
  | some _ => true
  | none => false := rfl
@[simp] theorem u_sz : sizeLine = 16777216 := sizeLine_eq
@[simp] theorem u_vB (b : Bool) : vB b = .val (.bl b) := rfl
@[simp] theorem u_vI (b : Int) : vI b = .val (.int b) := rfl
@[simp] theorem u_partO (b : Bool) (o : Opd) : partO b o = .ex (fun E => (evA [o] E).bind fun ds E1 => opt (match ds with | [d] => (partD b d).map fun _ => .val d | _ => none) E1) := by
  unfold partO; rw [moptF]; rfl
@[simp] theorem u_isN : isNonE .non = true := rfl
@[simp] theorem u_isN2 (e : E) (h : e ≠ .non) : isNonE e = false := by cases e <;> first | rfl | exact absurd rfl h
@[simp] theorem u_pD1 : partD true .non = some none := rfl
@[simp] theorem u_pD2 (i : Int) : partD false (.int i) = some (some i) := rfl
@[simp] theorem u_slP (bl bh : Bool) (x l u : D) : slP bl bh [x, l, u] = match partD bl l, partD bh u with
    | some lo, some hi => slS x lo hi
    | _, _ => none := rfl
@[simp] theorem u_eqI (a b : Int) : eqD (.int a) (.int b) = some (a == b) := eqD_int a b
@[simp] theorem u_exc (C n : Str) : excIs C n = (C == n || n == ("PassError" : Str) || n == ("ValueError" : Str)) := rfl
end
end Lw
end

section
set_option Elab.async false
set_option linter.all false
set_option maxRecDepth 100000
namespace Lw
open PySem L2
@[simp] theorem q1_0 : P1 0 = F0 := rfl
@[simp] theorem q3_2 : P3 2 = F2 := rfl
@[simp] theorem q4_2 : P4 2 = F2 := rfl
@[simp] theorem q5_4 : P5 4 = F4 := rfl
@[simp] theorem q7_3 : P7 3 = F3 := rfl
@[simp] theorem q7_5 : P7 5 = F5 := rfl
@[simp] theorem q7_6 : P7 6 = F6 := rfl
@[simp] theorem q9_8 : P9 8 = F8 := rfl
@[simp] theorem q10_2 : P10 2 = F2 := rfl
@[simp] theorem q10_5 : P10 5 = F5 := rfl
@[simp] theorem q10_9 : P10 9 = F9 := rfl
@[simp] theorem q11_2 : P11 2 = F2 := rfl
@[simp] theorem q11_3 : P11 3 = F3 := rfl
@[simp] theorem q11_5 : P11 5 = F5 := rfl
@[simp] theorem q11_6 : P11 6 = F6 := rfl
@[simp] theorem q12_2 : P12 2 = F2 := rfl
@[simp] theorem q12_3 : P12 3 = F3 := rfl
@[simp] theorem q13_2 : P13 2 = F2 := rfl
@[simp] theorem q14_3 : P14 3 = F3 := rfl
@[simp] theorem q14_13 : P14 13 = F13 := rfl
@[simp] theorem q15_1 : P15 1 = F1 := rfl
@[simp] theorem q15_7 : P15 7 = F7 := rfl
@[simp] theorem q15_10 : P15 10 = F10 := rfl
@[simp] theorem q15_11 : P15 11 = F11 := rfl
@[simp] theorem q15_12 : P15 12 = F12 := rfl
@[simp] theorem q15_14 : P15 14 = F14 := rfl
@[simp] theorem q16_0 : P16 0 = F0 := rfl
@[simp] theorem q16_1 : P16 1 = F1 := rfl
@[simp] theorem q18_0 : P18 0 = F0 := rfl
@[simp] theorem q18_7 : P18 7 = F7 := rfl
@[simp] theorem q18_10 : P18 10 = F10 := rfl
@[simp] theorem q18_11 : P18 11 = F11 := rfl
@[simp] theorem q18_12 : P18 12 = F12 := rfl
@[simp] theorem q18_17 : P18 17 = F17 := rfl
@[simp] theorem q19_7 : P19 7 = F7 := rfl
@[simp] theorem q19_14 : P19 14 = F14 := rfl
@[simp] theorem q20_0 : P20 0 = F0 := rfl
@[simp] theorem q20_14 : P20 14 = F14 := rfl
@[simp] theorem q20_15 : P20 15 = F15 := rfl
@[simp] theorem q20_16 : P20 16 = F16 := rfl
@[simp] theorem q20_18 : P20 18 = F18 := rfl
@[simp] theorem q20_19 : P20 19 = F19 := rfl
@[simp] theorem q23_20 : P23 20 = F20 := rfl
@[simp] theorem q23_21 : P23 21 = F21 := rfl
@[simp] theorem q23_22 : P23 22 = F22 := rfl
@[simp] theorem cc0 : CC 0 = .int 20 := rfl
@[simp] theorem cc1 : CC 1 = .int 1000 := rfl
@[simp] theorem cc2 : CC 2 = .int 500 := rfl
@[simp] theorem cc3 : CC 3 = .str "sure" := rfl
@[simp] theorem cc4 : CC 4 = .str "light" := rfl
@[simp] theorem cc5 : CC 5 = .int 1000000 := rfl
end Lw
end

section
set_option Elab.async false
set_option linter.all false
set_option maxRecDepth 100000
set_option maxHeartbeats 2000000
/-! Y94m: k94, the mathematics of counters -/
namespace Lw
open PySem L2
abbrev Tab := List (Int × Int)
/-! counting -/
def stepT (m : Nat) (a : Tab × Int) (x : Int) : Tab × Int :=
  if x ∈ a.1.map (·.1) ∨ a.1.length < m then (putL a.1 x ((getL a.1 x).getD 0 + 1), a.2) else ((a.1.filter fun p => decide (1 < p.2)).map fun p => (p.1, p.2 - 1), a.2 + 1)
def mg (m : Nat) (fl : List Int) : Tab × Int := fl.foldl (stepT m) ([], 0)
structure TabOk (m : Nat) (t : Tab) : Prop where
  len : t.length ≤ m
  nd : (t.map (·.1)).Nodup
  pos : ∀ p ∈ t, 1 ≤ p.2
theorem TabOk.step {m : Nat} {a : Tab × Int} {x : Int} (h : TabOk m a.1) : TabOk m (stepT m a x).1 := by
  unfold stepT
  split
  · rename_i q
    refine ⟨?_, putL_nodup h.nd, fun p hp => ?_⟩
    · dsimp only; rw [putL_len]
      split
      · exact h.len
      · rename_i q2; have := q.resolve_left q2; omega
    · have e := getL_of (putL_nodup h.nd) (k := p.1) (v := p.2) hp
      rw [getL_put] at e
      split at e
      · cases e2 : getL a.1 x with
        | none => rw [e2] at e; simp at e; omega
        | some v => rw [e2] at e; simp at e; have := h.pos _ (getL_mem e2); simp at this; omega
      · exact h.pos _ (getL_mem e)
  · refine ⟨?_, ?_, fun p hp => ?_⟩
    · simp; exact Nat.le_trans (List.length_filter_le _ _) h.len
    · simp only [List.map_map]
      exact List.Sublist.nodup (List.Sublist.map _ List.filter_sublist) h.nd
    · simp only [List.mem_map, List.mem_filter, decide_eq_true_eq] at hp
      obtain ⟨q, ⟨h1, h2⟩, rfl⟩ := hp
      simp; omega
def cn (t : Tab) (x : Int) : Int := (getL t x).getD 0
def tot (t : Tab) : Int := (t.map (·.2)).sum
def dec (t : Tab) : Tab := (t.filter fun p => decide (1 < p.2)).map fun p => (p.1, p.2 - 1)
theorem cn_put (t : Tab) (k j v : Int) : cn (putL t k v) j = if j = k then v else cn t j := by
  unfold cn; rw [getL_put]; split <;> rfl
theorem cn_cons (p : Int × Int) (t : Tab) (j : Int) : cn (p :: t) j = if p.1 = j then p.2 else cn t j := by
  unfold cn getL
  rw [List.find?_cons]
  by_cases h : p.1 = j <;> simp [h]
theorem cn_out {t : Tab} {j : Int} (h : j ∉ t.map (·.1)) : cn t j = 0 := by
  unfold cn; rw [getL_none.mpr h]; rfl
theorem cn_in {t : Tab} {p : Int × Int} (hn : (t.map (·.1)).Nodup) (h : p ∈ t) : cn t p.1 = p.2 := by
  unfold cn; rw [getL_of hn (k := p.1) (v := p.2) h]; rfl
theorem cn_nn {t : Tab} (h : ∀ p ∈ t, 1 ≤ p.2) (j : Int) : 0 ≤ cn t j := by
  unfold cn
  cases e : getL t j with
  | none => simp
  | some v => have := h _ (getL_mem e); simp at this ⊢; omega
theorem cn_pos {t : Tab} (h : ∀ p ∈ t, 1 ≤ p.2) {j : Int} : 0 < cn t j ↔ j ∈ t.map (·.1) := by
  constructor
  · intro q
    by_cases e : j ∈ t.map (·.1)
    · exact e
    · rw [cn_out e] at q; omega
  · intro q
    obtain ⟨v, hv⟩ := getL_some q
    have := h _ (getL_mem hv)
    unfold cn; rw [hv]; simp at this ⊢; omega
theorem tot_nn : ∀ {t : Tab}, (∀ p ∈ t, 1 ≤ p.2) → 0 ≤ tot t
  | [], _ => by simp [tot]
  | p :: t, hp => by
    have ih := tot_nn (t := t) fun q hq => hp q (List.mem_cons_of_mem _ hq)
    have h1 := hp p List.mem_cons_self
    unfold tot at *
    simp; omega
theorem cn_dec : ∀ {t : Tab}, (t.map (·.1)).Nodup → (∀ p ∈ t, 1 ≤ p.2) → ∀ j, cn (dec t) j = if 0 < cn t j then cn t j - 1 else 0
  | [], _, _, j => by simp [dec, cn, getL]
  | p :: t, hn, hp, j => by
    rw [List.map_cons, List.nodup_cons] at hn
    have ih := cn_dec hn.2 (fun q hq => hp q (List.mem_cons_of_mem _ hq)) j
    have h1 := hp p List.mem_cons_self
    have e : dec (p :: t) = if 1 < p.2 then (p.1, p.2 - 1) :: dec t else dec t := by
      unfold dec; by_cases h : 1 < p.2 <;> simp [h]
    rw [e, cn_cons]
    by_cases hj : p.1 = j
    · have h0 : cn t j = 0 := cn_out (by rw [← hj]; exact hn.1)
      rw [if_pos hj]
      split
      · rw [cn_cons, if_pos hj]; split <;> omega
      · rw [ih, h0]; split <;> (split <;> omega)
    · rw [if_neg hj]
      split
      · rw [cn_cons, if_neg hj]; exact ih
      · exact ih
theorem tot_dec : ∀ {t : Tab}, (∀ p ∈ t, 1 ≤ p.2) → tot (dec t) = tot t - t.length
  | [], _ => by simp [dec, tot]
  | p :: t, hp => by
    have ih := tot_dec (t := t) fun q hq => hp q (List.mem_cons_of_mem _ hq)
    have h1 := hp p List.mem_cons_self
    have e : dec (p :: t) = if 1 < p.2 then (p.1, p.2 - 1) :: dec t else dec t := by
      unfold dec; by_cases h : 1 < p.2 <;> simp [h]
    rw [e]
    unfold tot at *
    split <;> simp [ih] <;> omega
theorem tot_put : ∀ {t : Tab} {k v : Int}, (t.map (·.1)).Nodup → tot (putL t k v) = tot t + v - cn t k
  | t, k, v, hn => by
    by_cases h : k ∈ t.map (·.1)
    · unfold putL
      rw [if_pos h]
      have go : ∀ {t : Tab}, (t.map (·.1)).Nodup → tot (t.map fun kv => if kv.1 = k then (kv.1, v) else kv) = tot t + (if k ∈ t.map (·.1) then v - cn t k else 0) := by
        intro t
        induction t with
        | nil => intro _; simp [tot]
        | cons p t ih =>
          intro hn
          rw [List.map_cons, List.nodup_cons] at hn
          have ih := ih hn.2
          unfold tot at *
          rw [List.map_cons, List.map_cons, List.sum_cons, List.map_cons, List.sum_cons, List.map_cons, ih, cn_cons]
          by_cases hp : p.1 = k
          · have hk : k ∉ t.map (·.1) := by rw [← hp]; exact hn.1
            rw [if_pos hp, if_neg hk, if_pos (by simp [hp]), if_pos hp]
            simp; omega
          · rw [if_neg hp, if_neg hp]
            have e : (k ∈ p.1 :: t.map (·.1)) ↔ k ∈ t.map (·.1) := by rw [List.mem_cons]; exact ⟨fun z => z.resolve_left fun q => hp q.symm, .inr⟩
            by_cases hk : k ∈ t.map (·.1)
            · rw [if_pos hk, if_pos (e.mpr hk)]; omega
            · rw [if_neg hk, if_neg (fun z => hk (e.mp z))]; omega
      rw [go hn, if_pos h]; omega
    · rw [putL_new h, cn_out h]
      unfold tot; simp
/-- what is kept of the packets: count by count, how often all were lessened -/
structure MG (m : Nat) (fl : List Int) (a : Tab × Int) : Prop where
  tab : TabOk m a.1
  less : 0 ≤ a.2
  sum : tot a.1 + a.2 * (m + 1) = fl.length
  lo : ∀ x, cn a.1 x ≤ fl.count x
  hi : ∀ x, (fl.count x : Int) ≤ cn a.1 x + a.2
theorem count_snoc (fl : List Int) (x y : Int) : ((fl ++ [x]).count y : Int) = fl.count y + if y = x then 1 else 0 := by
  rw [List.count_append, List.count_cons, List.count_nil]
  by_cases h : y = x
  · subst h; simp
  · simp [h, Ne.symm h]
theorem MG.step {m : Nat} {fl : List Int} {a : Tab × Int} {x : Int} (h : MG m fl a) : MG m (fl ++ [x]) (stepT m a x) := by
  refine ⟨h.tab.step, ?_, ?_, fun y => ?_, fun y => ?_⟩
  · have := h.less; unfold stepT; split <;> simp <;> omega
  · have hs := h.sum
    unfold stepT
    split
    · have := tot_put (k := x) (v := (getL a.1 x).getD 0 + 1) h.tab.nd
      rw [this]; unfold cn; simp; omega
    · rename_i q
      have hl : a.1.length = m := by have := h.tab.len; have : ¬ a.1.length < m := fun z => q (.inr z); omega
      have := tot_dec h.tab.pos
      rw [show (a.1.filter fun p => decide (1 < p.2)).map (fun p => (p.1, p.2 - 1)) = dec a.1 from rfl]
      dsimp only
      rw [this, hl, Int.add_mul]; simp; omega
  · have hl := h.lo y
    rw [count_snoc]
    unfold stepT
    split
    · rw [cn_put]
      have hx := h.lo x
      unfold cn at hx
      by_cases e : y = x
      · subst e; simp; omega
      · simp [e]; exact hl
    · rw [show (a.1.filter fun p => decide (1 < p.2)).map (fun p => (p.1, p.2 - 1)) = dec a.1 from rfl]
      dsimp only
      rw [cn_dec h.tab.nd h.tab.pos]
      split <;> split <;> omega
  · have hh := h.hi y
    rw [count_snoc]
    by_cases q : x ∈ a.1.map (·.1) ∨ a.1.length < m
    · have e0 : stepT m a x = (putL a.1 x ((getL a.1 x).getD 0 + 1), a.2) := if_pos q
      rw [e0, cn_put]
      have hx := h.hi x
      unfold cn at hx
      by_cases e : y = x
      · subst e; simp; omega
      · simp [e]; exact hh
    · have e0 : stepT m a x = (dec a.1, a.2 + 1) := if_neg q
      rw [e0]
      dsimp only
      rw [cn_dec h.tab.nd h.tab.pos]
      by_cases e : y = x
      · subst e
        have : cn a.1 y = 0 := cn_out fun z => q (.inl z)
        rw [if_pos rfl, this]; simp; omega
      · rw [if_neg e]; have := cn_nn h.tab.pos y; split <;> omega
theorem mg_all (m : Nat) (fl : List Int) : MG m fl (mg m fl) := by
  have go : ∀ (r fl : List Int) (a : Tab × Int), MG m fl a → MG m (fl ++ r) (r.foldl (stepT m) a) := by
    intro r
    induction r with
    | nil => intro fl a h; simpa using h
    | cons x r ih =>
      intro fl a h
      have := ih (fl ++ [x]) _ h.step
      simpa using this
  have := go fl [] ([], 0) ⟨⟨by simp, by simp, by simp⟩, by simp, by simp [tot], by simp [cn, getL], by simp [cn, getL]⟩
  rw [List.nil_append] at this
  exact this
/-! how often each comes -/
def amStep (t : Tab) (x : Int) : Tab := putL t x (cn t x + 1)
def amounts (fl : List Int) : Tab := fl.foldl amStep []
structure AM (fl : List Int) (t : Tab) : Prop where
  nd : (t.map (·.1)).Nodup
  cnt : ∀ x, cn t x = fl.count x
  mem : ∀ x, x ∈ t.map (·.1) ↔ x ∈ fl
theorem AM.step {fl : List Int} {t : Tab} {x : Int} (h : AM fl t) : AM (fl ++ [x]) (amStep t x) := by
  refine ⟨putL_nodup h.nd, fun y => ?_, fun y => ?_⟩
  · unfold amStep
    rw [cn_put, count_snoc, h.cnt, h.cnt]
    by_cases e : y = x
    · subst e; simp
    · simp [e]
  · unfold amStep
    rw [putL_keys]
    have hm := h.mem
    split
    · rename_i q
      rw [hm, List.mem_append, List.mem_singleton]
      rw [hm] at q
      exact ⟨.inl, fun z => z.elim id fun e => by rw [e]; exact q⟩
    · rw [List.mem_append, List.mem_append, hm]
theorem am_all (fl : List Int) : AM fl (amounts fl) := by
  have go : ∀ (r fl : List Int) (a : Tab), AM fl a → AM (fl ++ r) (r.foldl amStep a) := by
    intro r
    induction r with
    | nil => intro fl a h; simpa using h
    | cons x r ih =>
      intro fl a h
      have := ih (fl ++ [x]) _ h.step
      simpa using this
  have := go fl [] [] ⟨by simp, by simp [cn, getL], by simp⟩
  rw [List.nil_append] at this
  exact this
def heavyL (fl : List Int) (parts : Int) : List Int := (setI fl).filter fun x => decide ((fl.length : Int) < fl.count x * parts)
theorem heavy_eq (fl : List Int) (parts : Int) : ((((amounts fl).filter fun p => decide ((fl.length : Int) < p.2 * parts)).map (·.1)).mergeSort leI) = heavyL fl parts := by
  have h := am_all fl
  have pw : (heavyL fl parts).Pairwise (· < ·) := List.Pairwise.filter _ (setI_pw fl)
  refine sortI_eq ?_ (pw.imp fun h => Int.le_of_lt h)
  have n1 : (heavyL fl parts).Nodup := pw.imp fun h e => by omega
  have n2 : (((amounts fl).filter fun p => decide ((fl.length : Int) < p.2 * parts)).map (·.1)).Nodup := List.Sublist.nodup (List.Sublist.map _ List.filter_sublist) h.nd
  rw [List.perm_ext_iff_of_nodup n1 n2]
  intro x
  unfold heavyL
  rw [List.mem_filter, setI_mem, List.mem_map]
  constructor
  · rintro ⟨h1, h2⟩
    obtain ⟨v, hv⟩ := getL_some ((h.mem x).mpr h1)
    have hm := getL_mem hv
    have := cn_in h.nd hm
    rw [h.cnt] at this
    refine ⟨(x, v), List.mem_filter.mpr ⟨hm, ?_⟩, rfl⟩
    rw [← show (fl.count x : Int) = v from this]; exact h2
  · rintro ⟨p, hp, rfl⟩
    rw [List.mem_filter] at hp
    have := cn_in h.nd hp.1
    rw [h.cnt] at this
    refine ⟨(h.mem _).mp (List.mem_map.mpr ⟨p, hp.1, rfl⟩), ?_⟩
    rw [this]; exact hp.2
end Lw
end

section
set_option Elab.async false
set_option linter.all false
set_option maxRecDepth 100000
set_option maxHeartbeats 2000000
/-! Y94a: k94, the looks, counters -/
namespace Lw
open PySem L2
def flD (fl : List Int) : D := .ptup (fl.map .int)
@[simp] theorem ptupO_fl (fl : List Int) : ptupO (some (.val (flD fl))) = some (fl.map .int) := rfl
structure Fl (fl : List Int) : Prop where
  len : fl.length ≤ 80
  rng : ∀ x ∈ fl, 0 ≤ x ∧ x ≤ 1000
theorem ii_int (v lo hi : Int) : F2 [.val (.int v), .val (.int lo), .val (.int hi)] = .ok (.val (.bl (decide (lo ≤ v) && decide (v ≤ hi)))) [.val (.int v), .val (.int lo), .val (.int hi)] := by
  unfold F2 B2
  by_cases h : lo ≤ v <;> simp [h]
theorem ii_in {v lo hi : Int} (h : lo ≤ v ∧ v ≤ hi) : F2 [.val (.int v), .val (.int lo), .val (.int hi)] = .ok (.val (.bl true)) [.val (.int v), .val (.int lo), .val (.int hi)] := by
  rw [ii_int, decide_eq_true h.1, decide_eq_true h.2]; rfl
theorem many_ok {m : Int} (h : 1 ≤ m ∧ m ≤ 20) : F3 [.val (.int m)] = .ok (.val .non) [.val (.int m)] := by
  unfold F3 B3
  simp [ii_in h]
theorem are_flows_ok {fl : List Int} (h : Fl fl) : F4 [.val (flD fl)] = .ok (.val (.bl true)) [.val (flD fl)] := by
  have hl : (fl.length : Int) ≤ 500 := by have := h.len; omega
  have lc := lc_map (Φ := P4) (C := CC) (elt := .call 2 [(.var 1), (.int 0), (.cst 1)]) (tg := .nm 1) (it := .fz 0) (own := [1]) (E0 := [.val (flD fl), .no]) (E := [.val (flD fl), .no]) (xs := fl) (g := .int) (f := fun _ => .bl true)
    (by simp [flD]) (by simp []) (by omega) (fun x hx => ⟨[.val (flD fl), .val (.int x)], by simp [], ⟨.val (.bl true), by simp [ii_in (h.rng x hx)], rfl⟩, by simp []⟩)
  have al := all_true lc (fun d hd => by obtain ⟨_, _, e⟩ := List.mem_map.mp hd; exact e.symm) (opd_lc ..)
  have wk : weakD (flD fl) = .tup (fl.map .int) := rfl
  unfold F4 B4
  simp [al, wk, hl]
theorem look_flows_ok {fl : List Int} (h : Fl fl) : F5 [.val (flD fl)] = .ok (.val .non) [.val (flD fl)] := by
  unfold F5 B5
  simp [are_flows_ok h]
theorem told_step {m : Nat} (hm : 1 ≤ m ∧ m ≤ 20) {fl : List Int} {t : Tab} {l x : Int} (h : TabOk m t) :
    ∃ E2, exs P6 CC (S.body (sat B6 1))
      [.val (.int m), .val (flD fl), .own (dkE TII t), .val (.int l), .val (.int x), .no] = .nx E2 ∧ E2 = [.val (.int m), .val (flD fl), .own (dkE TII (stepT m (t, l) x).1), .val (.int (stepT m (t, l) x).2), .val (.int x), .no] := by
  have lt : t.length < 16777216 := by have := h.len; omega
  refine ⟨_, ?_, rfl⟩
  simp only [B6, sat, S.body, List.getD_cons_zero, List.getD_cons_succ]
  by_cases h1 : x ∈ t.map (·.1)
  · unfold stepT
    rw [if_pos (.inl h1)]
    simp [h1, lt]
  · by_cases h2 : t.length < m
    · unfold stepT
      rw [if_pos (.inr h2)]
      simp [h1, h2, lt]
    · unfold stepT
      rw [if_neg (fun z => z.elim h1 h2)]
      simp [h1, h2, lt]
      rw [dc_flt TII (xs := t) (g := fun p => .int p.1) (p := fun p => decide (1 < p.2)) (kk := (·.1)) (vv := fun p => p.2 - 1) (E := [.val (.int m), .val (flD fl), .val (dzE TII t), .val (.int l), .val (.int x), .no])]
      · simp []
      · simp []
      · simp []
      · omega
      · exact List.Sublist.nodup (List.Sublist.map _ List.filter_sublist) h.nd
      · intro p hp
        have e := getL_of h.nd (k := p.1) (v := p.2) hp
        exact ⟨[.val (.int m), .val (flD fl), .val (dzE TII t), .val (.int l), .val (.int x), .val (.int p.1)], by simp [], by simp [e], fun _ => ⟨by simp [], .val (.int (p.2 - 1)), by simp [e], rfl⟩, by simp []⟩
theorem told_ok {m : Nat} (hm : 1 ≤ m ∧ m ≤ 20) {fl : List Int} (hf : Fl fl) :
    F6 [.val (.int m), .val (flD fl)] = .ok (.val (.tup [dkE TII (mg m fl).1, .int (mg m fl).2])) [.val (.int m), .val (flD fl)] ∧ TabOk m (mg m fl).1 := by
  obtain ⟨E', e, h, s4, i⟩ := forI_fold (bt := bindT (.nm 4)) (b := exs P6 CC (S.body (sat B6 1))) (g := .int) (f := stepT m) (fun a E => TabOk m a.1 ∧ ∃ s4, E = [.val (.int m), .val (flD fl), .own (dkE TII a.1), .val (.int a.2), s4, .no]) fl
    (fun x hx a E ⟨h, s4, hE⟩ => by
      subst hE
      obtain ⟨E2, h1, h2⟩ := told_step hm (fl := fl) (t := a.1) (l := a.2) (x := x) h
      exact ⟨_, E2, by simp [], .inl h1, h.step, _, h2⟩) ([], 0) [.val (.int m), .val (flD fl), .own (dkE TII []), .val (.int 0), .no, .no] ⟨⟨by simp, by simp, by simp⟩, _, rfl⟩
  refine ⟨?_, h⟩
  subst i
  unfold F6
  rw [show fl.foldl (stepT m) ([], 0) = mg m fl from rfl] at *
  exact fn_rt (E := [.val (.int m), .val (flD fl), .val (dkE TII (mg m fl).1), .val (.int (mg m fl).2), s4, .no]) (exs_step (E' := [.val (.int m), .val (flD fl), .own (dkE TII []), .val (.int 0), .no, .no]) (by simp []; rfl) (exs_step ((x_for (ds := fl.map .int) (by simp [flD])).trans e) (exs_rt (by simp [])))) (by simp)
def rowsD (t : Tab) : D := .ptup ((t.mergeSort leII).map prD)
theorem counters_ok {m : Nat} (hm : 1 ≤ m ∧ m ≤ 20) {fl : List Int} (hf : Fl fl) :
    F7 [.val (.int m), .val (flD fl)] = .ok (.val (.tup [rowsD (mg m fl).1, .int (mg m fl).2])) [.val (.int m), .val (flD fl)] := by
  obtain ⟨e, h⟩ := told_ok hm hf
  have hs := sitemsII (mg m fl).1 _ (.inl rfl) (by have := h.len; omega)
  unfold F7 B7
  simp [many_ok (m := m) (by omega), look_flows_ok hf, e, hs, ptupS, rowsD]
theorem most_ok {m p : Int} (hm : 1 ≤ m ∧ m ≤ 20) (hp : 0 ≤ p ∧ p ≤ 1000000) : F12 [.val (.int m), .val (.int p)] = .ok (.val (.int (p / (m + 1)))) [.val (.int m), .val (.int p)] := by
  have h0 : 0 < m + 1 := by omega
  unfold F12 B12
  simp [many_ok hm, ii_in hp, h0, logM (i := m + 1) (by omega)]
theorem sure_ok {m : Nat} (hm : 1 ≤ m ∧ m ≤ 20) {fl : List Int} (hf : Fl fl) {x : Int} (hx : 0 ≤ x ∧ x ≤ 1000) :
    F11 [.val (.int m), .val (flD fl), .val (.int x)] = .ok (.val (if (fl.length : Int) < ((getL (mg m fl).1 x).getD 0) * (m + 1) then .str "sure" else if (((getL (mg m fl).1 x).getD 0) + (mg m fl).2) * (m + 1) ≤ (fl.length : Int) then .str "light" else .non)) [.val (.int m), .val (flD fl), .val (.int x)] := by
  obtain ⟨e, h⟩ := told_ok hm hf
  have hM := mg_all m fl
  have c1 := hM.lo x
  have c0 := cn_nn h.pos x
  have c2 : fl.count x ≤ fl.length := List.count_le_length
  have c3 := hf.len
  have c4 := hM.sum
  have c5 : 0 ≤ tot (mg m fl).1 := tot_nn h.pos
  have c6 := hM.less
  have c7 : (mg m fl).2 * 1 ≤ (mg m fl).2 * ((m : Int) + 1) := Int.mul_le_mul_of_nonneg_left (by omega) c6
  unfold cn at c1 c0
  have m1 : mulOk ((getL (mg m fl).1 x).getD 0) ((m : Int) + 1) = true := mulM (by omega) (by omega)
  have m2 : mulOk ((getL (mg m fl).1 x).getD 0 + (mg m fl).2) ((m : Int) + 1) = true := mulM (by omega) (by omega)
  have wk : lenD (weakD (flD fl)) = some fl.length := by simp [flD]
  by_cases g1 : (fl.length : Int) < ((getL (mg m fl).1 x).getD 0) * (m + 1)
  · unfold F11 B11
    simp [many_ok (m := m) (by omega), look_flows_ok hf, ii_in hx, e, wk, m1, m2, g1]
  · by_cases g2 : (((getL (mg m fl).1 x).getD 0) + (mg m fl).2) * (m + 1) ≤ (fl.length : Int) <;>
    (unfold F11 B11
     simp [many_ok (m := m) (by omega), look_flows_ok hf, ii_in hx, e, wk, m1, m2, g1, g2])
theorem amounts_ok {fl : List Int} (hf : Fl fl) : F8 [.val (flD fl)] = .ok (.own (dkE TII (amounts fl))) [.val (flD fl)] ∧ (amounts fl).length ≤ 80 := by
  have hz := hf.len
  obtain ⟨E', e, h, s4, i⟩ := forI_foldI (bt := bindT (.nm 2)) (b := exs P8 CC (S.body (sat B8 1))) (g := .int) (f := amStep) (fun i a E => a.length ≤ i ∧ ∃ s4, E = [.val (flD fl), .own (dkE TII a), s4]) fl 0
    (fun i x hx a E ⟨h, s4, hE⟩ => by
      subst hE
      have hi : i < fl.length := (List.getElem?_eq_some_iff.mp hx).1
      have lt : a.length < 16777216 := by omega
      refine ⟨[.val (flD fl), .own (dkE TII a), .val (.int x)], [.val (flD fl), .own (dkE TII (amStep a x)), .val (.int x)], by simp [], .inl ?_, ?_, _, rfl⟩
      · simp only [B8, sat, S.body, List.getD_cons_zero, List.getD_cons_succ]
        simp [lt]; rfl
      · unfold amStep; rw [putL_len]; split <;> omega) [] [.val (flD fl), .own (dkE TII []), .no] ⟨by simp, _, rfl⟩
  rw [show fl.foldl amStep [] = amounts fl from rfl] at *
  subst i
  unfold F8
  exact ⟨fn_rt (E := [.val (flD fl), .no, s4]) (exs_step (E' := [.val (flD fl), .own (dkE TII []), .no]) (by simp []; rfl) (exs_step ((x_for (ds := fl.map .int) (by simp [flD])).trans e) (exs_rt (by simp [])))) (by simp), by omega⟩
def heavyD (fl : List Int) (parts : Int) : D := .tup ((heavyL fl parts).map .int)
theorem heavy_ok {fl : List Int} (hf : Fl fl) {p : Int} (hp : 1 ≤ p ∧ p ≤ 21) : F10 [.val (flD fl), .val (.int p)] = .ok (.val (heavyD fl p)) [.val (flD fl), .val (.int p)] := by
  obtain ⟨e, hz⟩ := amounts_ok hf
  have hl := hf.len
  have hA := am_all fl
  have wk : lenD (weakD (flD fl)) = some fl.length := by simp [flD]
  have e9 : F9 [.val (flD fl), .val (.int p)] = .ok (.val (heavyD fl p)) [.val (flD fl), .val (.int p)] := by
    unfold F9 B9
    simp [e]
    rw [lc_flt (xs := amounts fl) (g := fun p => .int p.1) (f := fun p => .int p.1) (p := fun q => decide ((fl.length : Int) < q.2 * p)) (E := [.val (flD fl), .val (.int p), .val (dzE TII (amounts fl)), .no])]
    · have hs : sortD (((amounts fl).filter fun q => decide ((fl.length : Int) < q.2 * p)).map fun p => D.int p.1) = some ((heavyL fl p).map .int) := by
        rw [← heavy_eq, ← sort_ints, List.map_map]; rfl
      simp [hs, heavyD]
    · simp []
    · simp []
    · omega
    · intro q hq
      have e1 := getL_of hA.nd (k := q.1) (v := q.2) hq
      have e2 := (cn_in hA.nd hq).symm.trans (hA.cnt q.1)
      have e3 : fl.count q.1 ≤ fl.length := List.count_le_length
      have m1 : mulOk q.2 p = true := mulM (by omega) (by omega)
      exact ⟨[.val (flD fl), .val (.int p), .val (dzE TII (amounts fl)), .val (.int q.1)], by simp [], by simp [e1, m1, wk], fun _ => ⟨.val (.int q.1), by simp [], rfl⟩, by simp []⟩
  unfold F10 B10
  simp [look_flows_ok hf, ii_in hp, e9]
/-- found as the law counts -/
theorem counted_ok {m : Nat} (hm : 1 ≤ m ∧ m ≤ 20) {fl : List Int} (hf : Fl fl) :
    F17 [.val (.int m), .val (flD fl)] = .ok (.val (.tup [dkE TII (mg m fl).1, .int (mg m fl).2])) [.val (.int m), .val (flD fl)] := by
  obtain ⟨E', e, h, s4, i⟩ := forI_fold (bt := bindT (.nm 4)) (b := exs P17 CC (S.body (sat B17 1))) (g := .int) (f := stepT m) (fun a E => TabOk m a.1 ∧ ∃ s4, E = [.val (.int m), .val (flD fl), .own (dkE TII a.1), .val (.int a.2), s4, .no]) fl
    (fun x hx a E ⟨h, s4, hE⟩ => by
      subst hE
      obtain ⟨t, l⟩ := a
      have lt : t.length < 16777216 := by have := h.len; dsimp only at this; omega
      refine ⟨[.val (.int m), .val (flD fl), .own (dkE TII t), .val (.int l), .val (.int x), .no], [.val (.int m), .val (flD fl), .own (dkE TII (stepT m (t, l) x).1), .val (.int (stepT m (t, l) x).2), .val (.int x), .no], by simp [], .inl ?_, h.step, _, rfl⟩
      simp only [B17, sat, S.body, List.getD_cons_zero, List.getD_cons_succ]
      by_cases h1 : x ∈ t.map (·.1)
      · obtain ⟨v, hv⟩ := getL_some h1
        unfold stepT
        rw [if_pos (.inl h1)]
        simp [h1, lt, hv]
      · by_cases h2 : t.length < m
        · unfold stepT
          rw [if_pos (.inr h2)]
          simp [h1, h2, lt, getL_none.mpr h1]
        · unfold stepT
          rw [if_neg (fun z => z.elim h1 h2)]
          have hn : (t.map (·.1)).Nodup := h.nd
          have hp : ∀ p ∈ t, 1 ≤ p.2 := h.pos
          have hn2 : ((t.map fun p => (p.1, p.2 - 1)).map (·.1)).Nodup := by simpa [List.map_map, Function.comp_def] using hn
          have d1 := dictlII t (fun p => p.1) (fun p => p.2 - 1) hn
          have d2 := dictlII ((t.map fun p => (p.1, p.2 - 1)).filter fun p => decide (0 < p.2)) (fun p => p.1) (fun p => p.2) (List.Sublist.nodup (List.Sublist.map _ List.filter_sublist) hn2)
          have d3 : (((t.map fun p => (p.1, p.2 - 1)).filter fun p => decide (0 < p.2)).map fun p => (p.1, p.2)) = dec t := by
            unfold dec
            rw [List.map_id', List.filter_map]
            congr 2
            funext p; simp [Function.comp]
          rw [d3] at d2
          simp [h1, h2, lt]
          rw [lc_map (xs := t) (g := fun p => .int p.1) (f := fun p => .tup [.int p.1, .int (p.2 - 1)]) (E := [.val (.int m), .val (flD fl), .val (dzE TII t), .val (.int l), .val (.int x), .no])]
          · simp [d1]
            rw [lc_flt (xs := t.map fun p => (p.1, p.2 - 1)) (g := fun p => .int p.1) (f := fun p => .tup [.int p.1, .int p.2]) (p := fun p => decide (0 < p.2)) (E := [.val (.int m), .val (flD fl), .val (dzE TII (t.map fun p => (p.1, p.2 - 1))), .val (.int l), .val (.int x), .no])]
            · simp [d2, dec]
            · simp []
            · simp []
            · simp; omega
            · intro q hq
              have e1 := getL_of hn2 (k := q.1) (v := q.2) hq
              exact ⟨[.val (.int m), .val (flD fl), .val (dzE TII (t.map fun p => (p.1, p.2 - 1))), .val (.int l), .val (.int x), .val (.int q.1)], by simp [], by simp [e1], fun _ => ⟨.val (.tup [.int q.1, .int q.2]), by simp [e1], rfl⟩, by simp []⟩
          · simp []
          · simp []
          · omega
          · intro q hq
            have e1 := getL_of hn (k := q.1) (v := q.2) hq
            exact ⟨[.val (.int m), .val (flD fl), .val (dzE TII t), .val (.int l), .val (.int x), .val (.int q.1)], by simp [], ⟨.val (.tup [.int q.1, .int (q.2 - 1)]), by simp [e1], rfl⟩, by simp []⟩) ([], 0) [.val (.int m), .val (flD fl), .own (dkE TII []), .val (.int 0), .no, .no] ⟨⟨by simp, by simp, by simp⟩, _, rfl⟩
  subst i
  rw [show fl.foldl (stepT m) ([], 0) = mg m fl from rfl] at *
  unfold F17
  exact fn_rt (E := [.val (.int m), .val (flD fl), .val (dkE TII (mg m fl).1), .val (.int (mg m fl).2), s4, .no]) (exs_step (E' := [.val (.int m), .val (flD fl), .own (dkE TII []), .val (.int 0), .no, .no]) (by simp []; rfl) (exs_step ((x_for (ds := fl.map .int) (by simp [flD])).trans e) (exs_rt (by simp [])))) (by simp)
end Lw
end

section
set_option Elab.async false
set_option linter.all false
set_option maxRecDepth 100000
set_option maxHeartbeats 2000000
/-! Y94b: k94, counters put together -/
namespace Lw
open PySem L2
structure Rows (r : Tab) : Prop where
  len : r.length ≤ 20
  key : ∀ p ∈ r, 0 ≤ p.1 ∧ p.1 ≤ 1000
  val : ∀ p ∈ r, 1 ≤ p.2 ∧ p.2 ≤ 1000000
  up : r.Pairwise fun p q => p.1 < q.1
def rD (r : Tab) : D := .ptup (r.map prD)
theorem Rows.nd {r : Tab} (h : Rows r) : (r.map (·.1)).Nodup := List.Pairwise.map _ (fun a b (q : a.1 < b.1) => by omega) h.up
theorem are_counters_ok {r : Tab} (h : Rows r) : F13 [.val (.tup (r.map prD))] = .ok (.val (.bl true)) [.val (.tup (r.map prD))] := by
  have hl : (r.length : Int) ≤ 20 := by have := h.len; omega
  have hl2 : ¬ (20 < (r.length : Int)) := by omega
  obtain ⟨E', e, s1, i⟩ := forI_fold (bt := bindT (.nm 1)) (b := exs P13 CC (S.body (sat B13 1))) (g := prD) (f := fun a _ => a) (fun (a : Unit) E => ∃ s1, (∀ d, s1 ≠ .own d) ∧ E = [.val (.tup (r.map prD)), s1, .no, .no]) r
    (fun x hx a E ⟨s1, hs, hE⟩ => by
      subst hE
      refine ⟨[.val (.tup (r.map prD)), .val (prD x), .no, .no], [.val (.tup (r.map prD)), .val (prD x), .no, .no], by simp [], .inl ?_, .val (prD x), by simp, rfl⟩
      simp only [B13, sat, S.body, List.getD_cons_zero, List.getD_cons_succ]
      simp [prD, ii_in (h.key x hx), ii_in (h.val x hx)]) () [.val (.tup (r.map prD)), .no, .no, .no] ⟨.no, by simp, rfl⟩
  obtain ⟨hs, i⟩ := i
  subst i
  have al := all_true (lc_map (Φ := P13) (C := CC) (elt := .cmp .Lt (.idx (.var 2) (.int 0)) (.idx (.var 3) (.int 0))) (tg := .tup [.nm 2, .nm 3]) (it := .zip (.fz 0) (.slc (.var 0) (.int 1) .non)) (own := [2, 3]) (E0 := [.val (.tup (r.map prD)), s1, .no, .no]) (E := [.val (.tup (r.map prD)), s1, .no, .no]) (xs := r.zip (r.drop 1)) (g := fun x => .tup [prD x.1, prD x.2]) (f := fun _ => .bl true)
    (by rw [← zipD_map]; simp [cut_1]) (by simp []) (by simp; omega) (fun x hx => ⟨[.val (.tup (r.map prD)), s1, .val (prD x.1), .val (prD x.2)], by simp [], ⟨.val (.bl true), by simp [prD, zip_next h.up x hx], rfl⟩, by simp []⟩)) (fun d hd => by obtain ⟨_, _, e⟩ := List.mem_map.mp hd; exact e.symm) (opd_lc ..)
  unfold F13
  exact fn_rt (exs_step (E' := [.val (.tup (r.map prD)), .no, .no, .no]) (by simp [hl2]) (exs_step ((x_for (ds := r.map prD) (by simp [])).trans e) (exs_rt (by simp [al]; rfl)))) (by simp)
def addT (t : Tab) (p : Int × Int) : Tab := putL t p.1 (cn t p.1 + p.2)
def added (r q : Tab) : Tab := q.foldl addT r
def topL (A : Tab) : List Int := ((A.map (·.2)).mergeSort leI).reverse
def lessOf (m : Nat) (A : Tab) : Int := ((topL A)[m]?).getD 0
def leftL (A : Tab) (k : Int) : Tab := ((A.filter fun p => decide (k < p.2)).map fun p => (p.1, p.2 - k)).mergeSort leII
theorem merged_ok {m : Nat} (hm : 1 ≤ m ∧ m ≤ 20) {r q : Tab} (hr : Rows r) (hq : Rows q) (h1 : r.length ≤ m) (h2 : q.length ≤ m) :
    F14 [.val (.int m), .val (rD r), .val (rD q)] = .ok (.val (.tup [.tup ((leftL (added r q) (lessOf m (added r q))).map prD), .int (lessOf m (added r q))])) [.val (.int m), .val (rD r), .val (rD q)] := by
  have l1 : ¬ ((m : Int) < r.length) := by omega
  have l2 : ¬ ((m : Int) < q.length) := by omega
  have pd : pdictM 1 [.val (.int m), .val (rD r), .val (rD q), .val (.tup (q.map prD)), .no, .no, .no, .no, .no] = .ok (.own (dkE TII r)) [.val (.int m), .val (rD r), .val (rD q), .val (.tup (q.map prD)), .no, .no, .no, .no, .no] := by
    have := dict_of TII (ps := r) hr.nd
    simp only [pdictM, rD, List.getElem?_cons_succ, List.getElem?_cons_zero]
    rw [show r.map prD = r.map fun q => D.tup [TII.kd q.1, TII.vf q.2] from rfl, this]; rfl
  obtain ⟨E', e, hl, s5, s6, h5, i⟩ := forI_foldI (bt := bindT (.tup [.nm 5, .nm 6])) (b := exs P14 CC (S.body (sat B14 3))) (g := prD) (f := addT) (fun i a E => (a.length ≤ 20 + i ∧ (a.map (·.1)).Nodup) ∧ ∃ s5 s6, (∀ d, s5 ≠ .own d) ∧ E = [.val (.int m), .val (rD r), .val (rD q), .val (.tup (q.map prD)), .own (dkE TII a), s5, s6, .no, .no]) q 0
    (fun i x hx a E ⟨h, s5, s6, _, hE⟩ => by
      subst hE
      have hi : i < q.length := (List.getElem?_eq_some_iff.mp hx).1
      have := hq.len
      have lt : a.length < 16777216 := by omega
      refine ⟨[.val (.int m), .val (rD r), .val (rD q), .val (.tup (q.map prD)), .own (dkE TII a), .val (.int x.1), .val (.int x.2), .no, .no], [.val (.int m), .val (rD r), .val (rD q), .val (.tup (q.map prD)), .own (dkE TII (addT a x)), .val (.int x.1), .val (.int x.2), .no, .no], by simp [prD], .inl ?_, ⟨?_, putL_nodup h.2⟩, _, _, by simp, rfl⟩
      · simp only [B14, sat, S.body, List.getD_cons_zero, List.getD_cons_succ]
        simp [lt]; rfl
      · unfold addT; rw [putL_len]; split <;> omega) r [.val (.int m), .val (rD r), .val (rD q), .val (.tup (q.map prD)), .own (dkE TII r), .no, .no, .no, .no] ⟨⟨by have := hr.len; omega, hr.nd⟩, _, _, by simp, rfl⟩
  subst i
  rw [show q.foldl addT r = added r q from rfl] at *
  have sv := svalsII (added r q) _ (.inl rfl) (by have := hq.len; omega)
  obtain ⟨hl, hn⟩ := hl
  generalize added r q = A at *
  have sv2 : ((A.map (·.2)).mergeSort leI).map D.int = ((topL A).map D.int).reverse := by unfold topL; simp
  rw [sv2] at sv
  have tl : (topL A).length = A.length := by unfold topL; simp
  have ix : evT P14 CC (.cmp .Gt (.bi .len [(.var 7)]) (.var 0)) [.val (.int m), .val (rD r), .val (rD q), .val (.tup (q.map prD)), .own (dkE TII A), s5, s6, .own (.lst ((topL A).map .int)), .no] = .ok (decide (m < A.length)) [.val (.int m), .val (rD r), .val (rD q), .val (.tup (q.map prD)), .own (dkE TII A), s5, s6, .own (.lst ((topL A).map .int)), .no] := by
    simp [tl]
  have s8 : ex P14 CC (sat B14 5) [.val (.int m), .val (rD r), .val (rD q), .val (.tup (q.map prD)), .own (dkE TII A), s5, s6, .own (.lst ((topL A).map .int)), .no] = .nx [.val (.int m), .val (rD r), .val (rD q), .val (.tup (q.map prD)), .own (dkE TII A), s5, s6, .own (.lst ((topL A).map .int)), .val (.int (lessOf m A))] := by
    simp only [B14, sat, S.body, List.getD_cons_zero, List.getD_cons_succ]
    unfold lessOf
    by_cases h : m < A.length
    · have e1 : m < (topL A).length := by omega
      have e2 := atI_nat (xs := (topL A).map D.int) (i := m) (by simpa using e1)
      simp [ix, h, e2, e1]
    · have e1 : ¬ m < (topL A).length := by omega
      simp [ix, h, e1]
  have s9 : ex P14 CC (sat B14 6) [.val (.int m), .val (rD r), .val (rD q), .val (.tup (q.map prD)), .own (dkE TII A), s5, s6, .own (.lst ((topL A).map .int)), .val (.int (lessOf m A))] = .rt (.val (.tup [.tup ((leftL A (lessOf m A)).map prD), .int (lessOf m A)])) [.val (.int m), .val (rD r), .val (rD q), .val (.tup (q.map prD)), .val (dzE TII A), s5, s6, .own (.lst ((topL A).map .int)), .val (.int (lessOf m A))] := by
    have sp : sortD ((A.filter fun p => decide (lessOf m A < p.2)).map fun p => .tup [.int p.1, .int (p.2 - lessOf m A)]) = some ((leftL A (lessOf m A)).map prD) := by
      rw [leftL, ← sort_prs, List.map_map]; rfl
    simp only [B14, sat, List.getD_cons_zero, List.getD_cons_succ]
    simp []
    rw [lc_flt (xs := A) (g := fun p => .int p.1) (f := fun p => .tup [.int p.1, .int (p.2 - lessOf m A)]) (p := fun p => decide (lessOf m A < p.2)) (E := [.val (.int m), .val (rD r), .val (rD q), .val (.tup (q.map prD)), .val (dzE TII A), s5, s6, .own (.lst ((topL A).map .int)), .val (.int (lessOf m A))])]
    · simp [sp]
    · simp []
    · rcases s5 with _ | d | d
      · simp []
      · simp []
      · exact absurd rfl (h5 d)
    · omega
    · intro x hx
      have e1 := getL_of hn (k := x.1) (v := x.2) hx
      exact ⟨[.val (.int m), .val (rD r), .val (rD q), .val (.tup (q.map prD)), .val (dzE TII A), .val (.int x.1), s6, .own (.lst ((topL A).map .int)), .val (.int (lessOf m A))], by simp [], by simp [e1], fun _ => ⟨.val (.tup [.int x.1, .int (x.2 - lessOf m A)]), by simp [e1], rfl⟩, by simp []⟩
  have ec := are_counters_ok hr
  have ed := are_counters_ok hq
  have kr : weakD (rD r) = .tup (r.map prD) := rfl
  have kq : weakD (rD q) = .tup (q.map prD) := rfl
  unfold F14
  refine fn_rt (exs_step (E' := [.val (.int m), .val (rD r), .val (rD q), .no, .no, .no, .no, .no, .no]) (by simp [many_ok (m := m) (by omega)]) (exs_step (E' := [.val (.int m), .val (rD r), .val (rD q), .val (.tup (q.map prD)), .no, .no, .no, .no, .no]) (by simp [kr, kq, ec, ed, l1, l2]) (exs_step (x_setv ((e_pdict ..).trans pd) (by simp) (by simp))
    (exs_step ((x_for (ds := q.map prD) (E1 := [.val (.int m), .val (rD r), .val (rD q), .val (.tup (q.map prD)), .own (dkE TII r), .no, .no, .no, .no]) (by simp [rD])).trans e) (exs_step (E' := [.val (.int m), .val (rD r), .val (rD q), .val (.tup (q.map prD)), .own (dkE TII A), s5, s6, .own (.lst ((topL A).map .int)), .no]) (by simp [sv]) (exs_step s8 (exs_rt s9))))))) (by simp)
end Lw
end

section
set_option Elab.async false
set_option linter.all false
set_option maxRecDepth 100000
set_option maxHeartbeats 2000000
/-! Y94n: k94, the mathematics of counters put together -/
namespace Lw
open PySem L2
theorem sum_perm {a b : List Int} (h : a.Perm b) : a.sum = b.sum := by
  induction h with
  | nil => rfl
  | cons x _ ih => simp [ih]
  | swap x y l => simp; omega
  | trans _ _ i j => exact i.trans j
theorem sum_nn : ∀ {xs : List Int}, (∀ x ∈ xs, 0 ≤ x) → 0 ≤ xs.sum
  | [], _ => by simp
  | x :: xs, h => by
    have := sum_nn (xs := xs) fun y hy => h y (List.mem_cons_of_mem _ hy)
    have := h x List.mem_cons_self
    simp; omega
theorem tot_perm {t u : Tab} (h : t.Perm u) : tot t = tot u := by
  unfold tot
  exact sum_perm (h.map _)
theorem cn_perm {t u : Tab} (h : t.Perm u) (hn : (t.map (·.1)).Nodup) (x : Int) : cn t x = cn u x := by
  have hn2 : (u.map (·.1)).Nodup := (h.map _).nodup_iff.mp hn
  by_cases hx : x ∈ t.map (·.1)
  · obtain ⟨p, hp, rfl⟩ := List.mem_map.mp hx
    rw [cn_in hn hp, cn_in hn2 (h.mem_iff.mp hp)]
  · rw [cn_out hx, cn_out fun z => hx ((h.map _).mem_iff.mpr z)]
theorem sort_up {t : Tab} (hn : (t.map (·.1)).Nodup) : (t.mergeSort leII).Pairwise fun p q => p.1 < q.1 := by
  have h1 := sortII_pw t
  have h2 : ((t.mergeSort leII).map (·.1)).Nodup := ((List.mergeSort_perm t leII).map _).nodup_iff.mpr hn
  have h3 : (t.mergeSort leII).Pairwise fun p q => p.1 ≠ q.1 := by
    have := List.pairwise_map.mp h2
    exact this
  exact (h1.and h3).imp fun {a b} ⟨q1, q2⟩ => by
    rw [leII_iff] at q1; omega
theorem rows_of {m : Nat} (hm : 1 ≤ m ∧ m ≤ 20) {fl : List Int} (hf : Fl fl) : Rows ((mg m fl).1.mergeSort leII) := by
  have h := mg_all m fl
  have hp := List.mergeSort_perm (mg m fl).1 leII
  have key : ∀ p ∈ (mg m fl).1, p.2 ≤ fl.count p.1 := fun p q => by
    have := h.lo p.1
    rw [cn_in h.tab.nd q] at this; exact this
  refine ⟨by rw [hp.length_eq]; have := h.tab.len; omega, fun p q => ?_, fun p q => ?_, sort_up h.tab.nd⟩
  · have q := hp.mem_iff.mp q
    have k1 := key p q
    have k2 := h.tab.pos p q
    have : 0 < fl.count p.1 := by omega
    exact hf.rng _ (List.count_pos_iff.mp this)
  · have q := hp.mem_iff.mp q
    have k1 := key p q
    have k2 := h.tab.pos p q
    have k3 : fl.count p.1 ≤ fl.length := List.count_le_length
    have := hf.len
    omega
theorem added_all {r q : Tab} (hr : (r.map (·.1)).Nodup) (hq : (q.map (·.1)).Nodup) : ((added r q).map (·.1)).Nodup ∧ (∀ x, cn (added r q) x = cn r x + cn q x) ∧ tot (added r q) = tot r + tot q ∧ (added r q).length ≤ r.length + q.length := by
  unfold added
  induction q generalizing r with
  | nil => exact ⟨hr, fun x => by simp [cn, getL], by simp [tot], by simp⟩
  | cons p q ih =>
    rw [List.map_cons, List.nodup_cons] at hq
    obtain ⟨a1, a2, a3, a4⟩ := ih (r := addT r p) (putL_nodup hr) hq.2
    rw [List.foldl_cons]
    refine ⟨a1, fun x => ?_, ?_, ?_⟩
    · rw [a2]
      unfold addT
      rw [cn_put, cn_cons]
      by_cases e : p.1 = x
      · subst e
        rw [if_pos rfl, if_pos rfl, cn_out hq.1]; omega
      · rw [if_neg (Ne.symm e), if_neg e]
    · rw [a3]
      unfold addT
      rw [tot_put hr]
      unfold tot; simp; omega
    · have : (addT r p).length ≤ r.length + 1 := by unfold addT; rw [putL_len]; split <;> omega
      simp only [List.length_cons]; omega
theorem added_pos {r q : Tab} (hr : ∀ p ∈ r, 1 ≤ p.2) (hq : ∀ p ∈ q, 1 ≤ p.2) (nr : (r.map (·.1)).Nodup) : ∀ p ∈ added r q, 1 ≤ p.2 := by
  unfold added
  induction q generalizing r with
  | nil => exact hr
  | cons p q ih =>
    rw [List.foldl_cons]
    refine ih (fun x hx => ?_) (fun x hx => hq x (List.mem_cons_of_mem _ hx)) (putL_nodup nr)
    have e := getL_of (putL_nodup nr) (k := x.1) (v := x.2) hx
    rw [getL_put] at e
    split at e
    · have h1 := hq p List.mem_cons_self
      have h2 := cn_nn hr p.1
      have e := Option.some.inj e
      omega
    · exact hr _ (getL_mem e)
theorem top_perm (A : Tab) : (topL A).Perm (A.map (·.2)) := (List.reverse_perm _).trans (List.mergeSort_perm _ _)
theorem top_down (A : Tab) : (topL A).Pairwise (fun a b => b ≤ a) := by
  unfold topL
  rw [List.pairwise_reverse]
  exact sortI_pw _
theorem few_above {xs : List Int} (h : xs.Pairwise fun a b => b ≤ a) {m : Nat} (hm : m < xs.length) : (xs.filter fun x => decide (xs[m] < x)).length ≤ m := by
  have e : xs = xs.take m ++ xs.drop m := (List.take_append_drop m xs).symm
  have e2 : (xs.drop m).filter (fun x => decide (xs[m] < x)) = [] := by
    rw [List.filter_eq_nil_iff]
    intro x hx q
    simp only [decide_eq_true_eq] at q
    rw [List.drop_eq_getElem_cons hm] at hx
    rcases List.mem_cons.mp hx with e | hx
    · omega
    · have h2 := h
      rw [← List.take_append_drop (m + 1) xs, List.pairwise_append] at h2
      have : xs[m] ∈ xs.take (m + 1) := by
        rw [List.mem_take_iff_getElem]; exact ⟨m, by omega, rfl⟩
      have := h2.2.2 _ this _ hx
      omega
  have e3 : xs.filter (fun x => decide (xs[m] < x)) = (xs.take m).filter (fun x => decide (xs[m] < x)) ++ (xs.drop m).filter (fun x => decide (xs[m] < x)) := by
    rw [← List.filter_append, List.take_append_drop]
  rw [e3, e2, List.append_nil]
  exact Nat.le_trans (List.length_filter_le _ _) (by simp; omega)
theorem sum_above {xs : List Int} (h : xs.Pairwise fun a b => b ≤ a) (h0 : ∀ x ∈ xs, 0 ≤ x) {m : Nat} (hm : m < xs.length) : xs[m] * ((m : Int) + 1) ≤ xs.sum := by
  induction m generalizing xs with
  | zero =>
    cases xs with
    | nil => simp at hm
    | cons x xs =>
      have : 0 ≤ xs.sum := sum_nn (fun y hy => h0 y (List.mem_cons_of_mem _ hy))
      simp; omega
  | succ m ih =>
    cases xs with
    | nil => simp at hm
    | cons x xs =>
      rw [List.pairwise_cons] at h
      have hm2 : m < xs.length := by simpa using hm
      have i := ih h.2 (fun y hy => h0 y (List.mem_cons_of_mem _ hy)) hm2
      have hx := h.1 xs[m] (List.getElem_mem hm2)
      rw [List.getElem_cons_succ, List.sum_cons]
      have e : xs[m] * (((m + 1 : Nat) : Int) + 1) = xs[m] * ((m : Int) + 1) + xs[m] := by rw [show (((m + 1 : Nat) : Int) + 1) = ((m : Int) + 1) + 1 by omega, Int.mul_add, Int.mul_one]
      omega
theorem left_len {m : Nat} {A : Tab} : (leftL A (lessOf m A)).length ≤ m ∨ A.length ≤ m := by
  by_cases h : A.length ≤ m
  · exact .inr h
  · left
    have tl : (topL A).length = A.length := by unfold topL; simp
    have hm : m < (topL A).length := by omega
    have e : lessOf m A = (topL A)[m] := by unfold lessOf; simp [hm]
    unfold leftL
    rw [List.length_mergeSort, List.length_map, e]
    have := few_above (top_down A) hm
    have p := ((top_perm A).filter fun x => decide ((topL A)[m] < x)).length_eq
    rw [p, List.filter_map, List.length_map] at this
    exact this
theorem left_len2 {m : Nat} {A : Tab} : (leftL A (lessOf m A)).length ≤ m := by
  rcases left_len (m := m) (A := A) with h | h
  · exact h
  · unfold leftL
    rw [List.length_mergeSort, List.length_map]
    exact Nat.le_trans (List.length_filter_le _ _) h
theorem less_nn {m : Nat} {A : Tab} (hp : ∀ p ∈ A, 1 ≤ p.2) : 0 ≤ lessOf m A := by
  unfold lessOf
  cases e : (topL A)[m]? with
  | none => simp
  | some v =>
    have := (top_perm A).mem_iff.mp (List.mem_of_getElem? e)
    obtain ⟨p, h1, rfl⟩ := List.mem_map.mp this
    have := hp p h1
    simp; omega
theorem less_sum {m : Nat} {A : Tab} (hp : ∀ p ∈ A, 1 ≤ p.2) : lessOf m A * ((m : Int) + 1) ≤ tot A := by
  by_cases h : m < (topL A).length
  · have e : lessOf m A = (topL A)[m] := by unfold lessOf; simp [h]
    rw [e]
    have q := sum_above (top_down A) (fun x hx => by
      obtain ⟨p, h1, rfl⟩ := List.mem_map.mp ((top_perm A).mem_iff.mp hx)
      have := hp p h1; omega) h
    rw [sum_perm (top_perm A)] at q
    exact q
  · have e : lessOf m A = 0 := by unfold lessOf; simp [Nat.le_of_not_lt h]
    rw [e, Int.zero_mul]
    exact tot_nn hp
theorem cn_cut : ∀ {t : Tab} {k : Int}, (t.map (·.1)).Nodup → ∀ j, cn ((t.filter fun p => decide (k < p.2)).map fun p => (p.1, p.2 - k)) j = if k < cn t j ∧ j ∈ t.map (·.1) then cn t j - k else 0
  | [], k, _, j => by simp [cn, getL]
  | p :: t, k, hn, j => by
    rw [List.map_cons, List.nodup_cons] at hn
    have ih := cn_cut (k := k) hn.2 j
    have e : ((p :: t).filter fun p => decide (k < p.2)).map (fun p => (p.1, p.2 - k)) = if k < p.2 then (p.1, p.2 - k) :: (t.filter fun p => decide (k < p.2)).map (fun p => (p.1, p.2 - k)) else (t.filter fun p => decide (k < p.2)).map (fun p => (p.1, p.2 - k)) := by
      by_cases h : k < p.2 <;> simp [h]
    rw [e, cn_cons]
    by_cases hj : p.1 = j
    · have hj2 : j ∉ t.map (·.1) := by rw [← hj]; exact hn.1
      rw [if_pos hj]
      by_cases h : k < p.2
      · rw [if_pos h, cn_cons, if_pos hj, if_pos ⟨h, by simp [hj]⟩]
      · rw [if_neg h, ih, if_neg (fun z => hj2 z.2), if_neg (fun z => h z.1)]
    · rw [if_neg hj]
      have m : (j ∈ (p :: t).map (·.1)) ↔ j ∈ t.map (·.1) := by rw [List.map_cons, List.mem_cons]; exact ⟨fun z => z.resolve_left fun q => hj q.symm, .inr⟩
      have i2 : (if k < cn t j ∧ j ∈ (p :: t).map (·.1) then cn t j - k else 0) = if k < cn t j ∧ j ∈ t.map (·.1) then cn t j - k else 0 := by simp only [m]
      rw [i2]
      split
      · rw [cn_cons, if_neg hj]; exact ih
      · exact ih
theorem cn_left {A : Tab} {k : Int} (hk : 0 ≤ k) (hn : (A.map (·.1)).Nodup) (j : Int) : cn (leftL A k) j = if k < cn A j then cn A j - k else 0 := by
  unfold leftL
  have n2 : (((A.filter fun p => decide (k < p.2)).map fun p => (p.1, p.2 - k)).map (·.1)).Nodup := by
    rw [List.map_map]
    exact List.Sublist.nodup (List.Sublist.map _ List.filter_sublist) hn
  rw [← cn_perm (List.mergeSort_perm _ _).symm n2, cn_cut hn]
  by_cases h : k < cn A j
  · have : j ∈ A.map (·.1) := by
      by_cases e : j ∈ A.map (·.1)
      · exact e
      · rw [cn_out e] at h; omega
    rw [if_pos ⟨h, this⟩, if_pos h]
  · rw [if_neg (fun z => h z.1), if_neg h]
end Lw
end

section
set_option Elab.async false
set_option linter.all false
set_option maxRecDepth 100000
set_option maxHeartbeats 2000000
/-! Y94c: k94, _law_is_merged_right -/
namespace Lw
open PySem L2
/-- drawn flows -/
structure Dr (f : List Int) : Prop where
  len : f.length ≤ 40
  rng : ∀ x ∈ f, 0 ≤ x ∧ x ≤ 1000
  few : ∃ s : List Int, s.length ≤ 7 ∧ ∀ x ∈ f, x ∈ s
theorem Dr.fl {f : List Int} (h : Dr f) : Fl f := ⟨by have := h.len; omega, h.rng⟩
theorem nodup_le : ∀ {l s : List Int}, l.Nodup → (∀ x ∈ l, x ∈ s) → l.length ≤ s.length
  | [], s, _, _ => by simp
  | x :: l, s, hn, h => by
    rw [List.nodup_cons] at hn
    have hx := h x List.mem_cons_self
    have := nodup_le (l := l) (s := s.erase x) hn.2 fun y hy => (List.mem_erase_of_ne (fun e => hn.1 (by rw [← e]; exact hy))).mpr (h y (List.mem_cons_of_mem _ hy))
    rw [List.length_erase_of_mem hx] at this
    have : 0 < s.length := List.length_pos_of_mem hx
    simp; omega
theorem few_set {f s : List Int} (h : ∀ x ∈ f, x ∈ s) : (setI f).length ≤ s.length := nodup_le ((setI_pw f).imp fun h e => by omega) fun x hx => h x (setI_mem.mp hx)
theorem isort_ok {f : List Int} (h1 : (setI f).length < 64) (h2 : f.length ≤ 1000) : isortS (.tup (f.map .int)) = some (.own (.lst ((setI f).map .int))) := by
  simp [isortS, intsOf_map, h1, h2]
theorem tcnt_ok (f : List Int) (x : Int) : tcntS (f.map .int) (.int x) = some (.val (.int (f.count x))) := by simp [tcntS, intsOf_map, vI]
theorem told_rows {L : Tab} {k : Int} (h : ∀ p ∈ L, p.1.natAbs < 10 ^ 12 ∧ p.2.natAbs < 10 ^ 12) (hk : k.natAbs < 10 ^ 12) (hl : L.length ≤ 1000) : told (.tup [.tup (L.map prD), .int k]) = true := by
  have e1 : ∀ d ∈ L.map prD, Sh 1 100 d := fun d hd => by
    obtain ⟨p, hp, rfl⟩ := List.mem_map.mp hd
    exact Sh.tup (k := 0) (n := 40) (fun d hd => by
      simp only [List.mem_cons, List.not_mem_nil, or_false] at hd
      rcases hd with rfl | rfl
      · exact Sh.int (h p hp).1
      · exact Sh.int (h p hp).2) (by simp)
  have e2 : Sh 2 200000 (.tup (L.map prD)) := Sh.tup e1 (by simp; omega)
  refine Sh.told (k := 3) (n := 500000) (Sh.tup (k := 2) (n := 200000) (fun d hd => ?_) (by simp)) (by omega) (by omega)
  simp only [List.mem_cons, List.not_mem_nil, or_false] at hd
  rcases hd with rfl | rfl
  · exact e2
  · exact (Sh.int hk).mono (by omega) (by omega)
theorem wk_rows (t : Tab) : weakD (rowsD t) = .tup ((t.mergeSort leII).map prD) := rfl
theorem merged_right_ok {m : Nat} (hm : 1 ≤ m ∧ m ≤ 20) {f g : List Int} (hf : Dr f) (hg : Dr g) :
    F19 [.val (.int m), .val (flD f), .val (flD g)] = .ok (.val (.bl true)) [.val (.int m), .val (flD f), .val (flD g)] := by
  have hM := mg_all m f
  have hN := mg_all m g
  have e1 := counters_ok hm hf.fl
  have e2 := counters_ok hm hg.fl
  have hr := rows_of hm hf.fl
  have hq := rows_of hm hg.fl
  have pr := List.mergeSort_perm (mg m f).1 leII
  have pq := List.mergeSort_perm (mg m g).1 leII
  have c1 : ∀ x, cn ((mg m f).1.mergeSort leII) x = cn (mg m f).1 x := fun x => cn_perm pr hr.nd x
  have c2 : ∀ x, cn ((mg m g).1.mergeSort leII) x = cn (mg m g).1 x := fun x => cn_perm pq hq.nd x
  have t1 := tot_perm pr
  have t2 := tot_perm pq
  have em := merged_ok hm hr hq (by rw [pr.length_eq]; exact hM.tab.len) (by rw [pq.length_eq]; exact hN.tab.len)
  obtain ⟨aN, aC, aT, aL⟩ := added_all hr.nd hq.nd
  have aP := added_pos (fun p hp => (hr.val p hp).1) (fun p hp => (hq.val p hp).1) hr.nd
  have er : rowsD (mg m f).1 = rD ((mg m f).1.mergeSort leII) := rfl
  have eq : rowsD (mg m g).1 = rD ((mg m g).1.mergeSort leII) := rfl
  have hrl := hr.len
  have hql := hq.len
  have loop : ∀ (a3 a5 : Sl) (L : Tab) (k : Int), ∃ s8 s9, (∀ d, s8 ≠ .own d) ∧ forI (bindT (.tup [.nm 8, .nm 9])) (exs P19 CC (S.body (sat B19 3))) (((mg m g).1.mergeSort leII).map prD) [.val (.int m), .val (flD f), .val (flD g), a3, a5, .val (.tup (L.map prD)), .val (.int k), .own (dkE TII ((mg m f).1.mergeSort leII)), .no, .no, .no, .no, .no, .no, .no, .no] = .nx [.val (.int m), .val (flD f), .val (flD g), a3, a5, .val (.tup (L.map prD)), .val (.int k), .own (dkE TII (added ((mg m f).1.mergeSort leII) ((mg m g).1.mergeSort leII))), s8, s9, .no, .no, .no, .no, .no, .no] := by
    intro a3 a5 L k
    obtain ⟨E', e, hl, s8, s9, h8, i⟩ := forI_foldI (bt := bindT (.tup [.nm 8, .nm 9])) (b := exs P19 CC (S.body (sat B19 3))) (g := prD) (f := addT) (fun i a E => a.length ≤ 20 + i ∧ ∃ s8 s9, (∀ d, s8 ≠ .own d) ∧ E = [.val (.int m), .val (flD f), .val (flD g), a3, a5, .val (.tup (L.map prD)), .val (.int k), .own (dkE TII a), s8, s9, .no, .no, .no, .no, .no, .no]) ((mg m g).1.mergeSort leII) 0
      (fun i x hx a E ⟨h, s8, s9, _, hE⟩ => by
        subst hE
        have hi : i < ((mg m g).1.mergeSort leII).length := (List.getElem?_eq_some_iff.mp hx).1
        have lt : a.length < 16777216 := by omega
        refine ⟨[.val (.int m), .val (flD f), .val (flD g), a3, a5, .val (.tup (L.map prD)), .val (.int k), .own (dkE TII a), .val (.int x.1), .val (.int x.2), .no, .no, .no, .no, .no, .no], [.val (.int m), .val (flD f), .val (flD g), a3, a5, .val (.tup (L.map prD)), .val (.int k), .own (dkE TII (addT a x)), .val (.int x.1), .val (.int x.2), .no, .no, .no, .no, .no, .no], by simp [prD], .inl ?_, ?_, _, _, by simp, rfl⟩
        · simp only [B19, sat, S.body, List.getD_cons_zero, List.getD_cons_succ]
          simp [lt]; rfl
        · unfold addT; rw [putL_len]; split <;> omega) ((mg m f).1.mergeSort leII) [.val (.int m), .val (flD f), .val (flD g), a3, a5, .val (.tup (L.map prD)), .val (.int k), .own (dkE TII ((mg m f).1.mergeSort leII)), .no, .no, .no, .no, .no, .no, .no, .no] ⟨by omega, _, _, by simp, rfl⟩
    subst i
    exact ⟨s8, s9, h8, e⟩
  generalize hA : added ((mg m f).1.mergeSort leII) ((mg m g).1.mergeSort leII) = A at *
  have kn : 0 ≤ lessOf m A := less_nn aP
  have ks : lessOf m A * ((m : Int) + 1) ≤ tot A := less_sum aP
  have ll : (leftL A (lessOf m A)).length ≤ m := left_len2
  have cl := cn_left kn aN
  have aB : ∀ p ∈ A, p.2 ≤ 80 ∧ 0 ≤ p.1 ∧ p.1 ≤ 1000 := fun p hp => by
    have q := cn_in aN hp
    rw [aC, c1, c2] at q
    have h1 := hM.lo p.1; have h2 := hN.lo p.1
    have h3 : f.count p.1 ≤ f.length := List.count_le_length
    have h4 : g.count p.1 ≤ g.length := List.count_le_length
    have := hf.len; have := hg.len
    have pos := aP p hp
    refine ⟨by omega, ?_⟩
    by_cases z : 0 < f.count p.1
    · exact hf.rng _ (List.count_pos_iff.mp z)
    · exact hg.rng _ (List.count_pos_iff.mp (by omega))
  have lB : lessOf m A ≤ 80 := by
    unfold lessOf
    cases e : (topL A)[m]? with
    | none => simp
    | some v =>
      obtain ⟨p, h1, rfl⟩ := List.mem_map.mp ((top_perm A).mem_iff.mp (List.mem_of_getElem? e))
      exact (aB p h1).1
  have tr : told (.tup [.tup ((leftL A (lessOf m A)).map prD), .int (lessOf m A)]) = true := told_rows (fun p hp => by
    unfold leftL at hp
    have := (List.mergeSort_perm _ _).mem_iff.mp hp
    simp only [List.mem_map, List.mem_filter, decide_eq_true_eq] at this
    obtain ⟨q, ⟨h1, h2⟩, rfl⟩ := this
    have := aB q h1
    exact ⟨by omega, by simp; omega⟩) (by omega) (by omega)
  have leN : ((leftL A (lessOf m A)).map (·.1)).Nodup := by
    unfold leftL
    refine ((List.mergeSort_perm _ _).map _).nodup_iff.mpr ?_
    rw [List.map_map]
    exact List.Sublist.nodup (List.Sublist.map _ List.filter_sublist) aN
  have lost : ((mg m f).2 + (mg m g).2 + lessOf m A) * ((m : Int) + 1) ≤ ((f ++ g).length : Int) := by
    have h1 := hM.sum; have h2 := hN.sum
    rw [aT, t1, t2] at ks
    rw [Int.add_mul, Int.add_mul, List.length_append]
    omega
  have le1 : (mg m f).2 * 1 ≤ (mg m f).2 * ((m : Int) + 1) := Int.mul_le_mul_of_nonneg_left (by omega) hM.less
  have le2 : (mg m g).2 * 1 ≤ (mg m g).2 * ((m : Int) + 1) := Int.mul_le_mul_of_nonneg_left (by omega) hN.less
  have le3 := hM.sum
  have le4 := hN.sum
  have le5 := tot_nn hM.tab.pos
  have le6 := tot_nn hN.tab.pos
  have le7 := hf.len
  have le8 := hg.len
  have le9 := hM.less
  have le10 := hN.less
  have bound : ∀ x, ((f ++ g).count x : Int) - ((mg m f).2 + (mg m g).2 + lessOf m A) ≤ cn (leftL A (lessOf m A)) x ∧ cn (leftL A (lessOf m A)) x ≤ ((f ++ g).count x : Int) := fun x => by
    rw [cl, aC, c1, c2, List.count_append]
    have h1 := hM.lo x; have h2 := hN.lo x; have h3 := hM.hi x; have h4 := hN.hi x
    have h5 := cn_nn hM.tab.pos x; have h6 := cn_nn hN.tab.pos x
    split <;> omega
  have sp : sortD ((A.filter fun p => decide (lessOf m A < p.2)).map fun p => .tup [.int p.1, .int (p.2 - lessOf m A)]) = some ((leftL A (lessOf m A)).map prD) := by
    rw [leftL, ← sort_prs, List.map_map]; rfl
  have sv : sortD (A.map fun p => .int p.2) = some (((topL A).map .int).reverse) := by
    rw [show (A.map fun p => D.int p.2) = (A.map (·.2)).map .int by simp, sort_ints]; unfold topL; simp
  have tl : (topL A).length = A.length := by unfold topL; simp
  have lz : (lessOf m A) = ((topL A)[m]?).getD 0 := rfl
  generalize hk : lessOf m A = k at *
  generalize hL : leftL A k = L at *
  obtain ⟨s8, s9, h8, el⟩ := loop (.val (.tup [rowsD (mg m f).1, .int (mg m f).2])) (.val (.tup [rowsD (mg m g).1, .int (mg m g).2])) L k
  have x1 : ex P19 CC (sat B19 0) [.val (.int m), .val (flD f), .val (flD g), .no, .no, .no, .no, .no, .no, .no, .no, .no, .no, .no, .no, .no] = .nx [.val (.int m), .val (flD f), .val (flD g), .val (.tup [rowsD (mg m f).1, .int (mg m f).2]), .val (.tup [rowsD (mg m g).1, .int (mg m g).2]), .no, .no, .no, .no, .no, .no, .no, .no, .no, .no, .no] := by
    simp only [B19, sat, List.getD_cons_zero, List.getD_cons_succ]
    simp [e1, e2]
  have x2 : ex P19 CC (sat B19 1) [.val (.int m), .val (flD f), .val (flD g), .val (.tup [rowsD (mg m f).1, .int (mg m f).2]), .val (.tup [rowsD (mg m g).1, .int (mg m g).2]), .no, .no, .no, .no, .no, .no, .no, .no, .no, .no, .no] = .nx [.val (.int m), .val (flD f), .val (flD g), .val (.tup [rowsD (mg m f).1, .int (mg m f).2]), .val (.tup [rowsD (mg m g).1, .int (mg m g).2]), .val (.tup (L.map prD)), .val (.int k), .no, .no, .no, .no, .no, .no, .no, .no, .no] := by
    simp only [B19, sat, List.getD_cons_zero, List.getD_cons_succ]
    simp [er, eq, em]
  have x3 : ex P19 CC (sat B19 2) [.val (.int m), .val (flD f), .val (flD g), .val (.tup [rowsD (mg m f).1, .int (mg m f).2]), .val (.tup [rowsD (mg m g).1, .int (mg m g).2]), .val (.tup (L.map prD)), .val (.int k), .no, .no, .no, .no, .no, .no, .no, .no, .no] = .nx [.val (.int m), .val (flD f), .val (flD g), .val (.tup [rowsD (mg m f).1, .int (mg m f).2]), .val (.tup [rowsD (mg m g).1, .int (mg m g).2]), .val (.tup (L.map prD)), .val (.int k), .own (dkE TII ((mg m f).1.mergeSort leII)), .no, .no, .no, .no, .no, .no, .no, .no] := by
    have := dictlII ((mg m f).1.mergeSort leII) (fun p => p.1) (fun p => p.2) hr.nd
    rw [List.map_id'] at this
    have this2 : dictlS (.lst (((mg m f).1.mergeSort leII).map prD)) = some (.own (dkE TII ((mg m f).1.mergeSort leII))) := this
    simp only [B19, sat, List.getD_cons_zero, List.getD_cons_succ]
    simp [er, rD, this2]
  have x4 : ex P19 CC (sat B19 3) [.val (.int m), .val (flD f), .val (flD g), .val (.tup [rowsD (mg m f).1, .int (mg m f).2]), .val (.tup [rowsD (mg m g).1, .int (mg m g).2]), .val (.tup (L.map prD)), .val (.int k), .own (dkE TII ((mg m f).1.mergeSort leII)), .no, .no, .no, .no, .no, .no, .no, .no] = .nx [.val (.int m), .val (flD f), .val (flD g), .val (.tup [rowsD (mg m f).1, .int (mg m f).2]), .val (.tup [rowsD (mg m g).1, .int (mg m g).2]), .val (.tup (L.map prD)), .val (.int k), .own (dkE TII A), s8, s9, .no, .no, .no, .no, .no, .no] := (x_for (by simp [eq, rD])).trans el
  have x5 : ex P19 CC (sat B19 4) [.val (.int m), .val (flD f), .val (flD g), .val (.tup [rowsD (mg m f).1, .int (mg m f).2]), .val (.tup [rowsD (mg m g).1, .int (mg m g).2]), .val (.tup (L.map prD)), .val (.int k), .own (dkE TII A), s8, s9, .no, .no, .no, .no, .no, .no] = .nx [.val (.int m), .val (flD f), .val (flD g), .val (.tup [rowsD (mg m f).1, .int (mg m f).2]), .val (.tup [rowsD (mg m g).1, .int (mg m g).2]), .val (.tup (L.map prD)), .val (.int k), .val (dzE TII A), s8, s9, .own (.lst ((topL A).map .int)), .no, .no, .no, .no, .no] := by
    simp only [B19, sat, List.getD_cons_zero, List.getD_cons_succ]
    simp []
    rw [lc_map (xs := A) (g := fun p => .int p.1) (f := fun p => .int p.2) (E := [.val (.int m), .val (flD f), .val (flD g), .val (.tup [rowsD (mg m f).1, .int (mg m f).2]), .val (.tup [rowsD (mg m g).1, .int (mg m g).2]), .val (.tup (L.map prD)), .val (.int k), .val (dzE TII A), s8, s9, .no, .no, .no, .no, .no, .no])]
    · simp [sv]
    · simp []
    · rcases s8 with _ | d | d
      · simp []
      · simp []
      · exact absurd rfl (h8 d)
    · omega
    · intro x hx
      have e1 := getL_of aN (k := x.1) (v := x.2) hx
      exact ⟨[.val (.int m), .val (flD f), .val (flD g), .val (.tup [rowsD (mg m f).1, .int (mg m f).2]), .val (.tup [rowsD (mg m g).1, .int (mg m g).2]), .val (.tup (L.map prD)), .val (.int k), .val (dzE TII A), .val (.int x.1), s9, .no, .no, .no, .no, .no, .no], by simp [], ⟨.val (.int x.2), by simp [e1], rfl⟩, by simp []⟩
  have x6 : ex P19 CC (sat B19 5) [.val (.int m), .val (flD f), .val (flD g), .val (.tup [rowsD (mg m f).1, .int (mg m f).2]), .val (.tup [rowsD (mg m g).1, .int (mg m g).2]), .val (.tup (L.map prD)), .val (.int k), .val (dzE TII A), s8, s9, .own (.lst ((topL A).map .int)), .no, .no, .no, .no, .no] = .nx [.val (.int m), .val (flD f), .val (flD g), .val (.tup [rowsD (mg m f).1, .int (mg m f).2]), .val (.tup [rowsD (mg m g).1, .int (mg m g).2]), .val (.tup (L.map prD)), .val (.int k), .val (dzE TII A), s8, s9, .own (.lst ((topL A).map .int)), .val (.int k), .no, .no, .no, .no] := by
    simp only [B19, sat, S.body, List.getD_cons_zero, List.getD_cons_succ]
    by_cases h : m < A.length
    · have e1 : m < (topL A).length := by omega
      have e2 := atI_nat (xs := (topL A).map D.int) (i := m) (by simpa using e1)
      simp [tl, h, e2, e1, lz]
    · have e1 : ¬ m < (topL A).length := by omega
      simp [tl, h, e1, lz]
  have x7 : ex P19 CC (sat B19 6) [.val (.int m), .val (flD f), .val (flD g), .val (.tup [rowsD (mg m f).1, .int (mg m f).2]), .val (.tup [rowsD (mg m g).1, .int (mg m g).2]), .val (.tup (L.map prD)), .val (.int k), .val (dzE TII A), s8, s9, .own (.lst ((topL A).map .int)), .val (.int k), .no, .no, .no, .no] = .nx [.val (.int m), .val (flD f), .val (flD g), .val (.tup [rowsD (mg m f).1, .int (mg m f).2]), .val (.tup [rowsD (mg m g).1, .int (mg m g).2]), .val (.tup (L.map prD)), .val (.int k), .val (dzE TII A), s8, s9, .own (.lst ((topL A).map .int)), .val (.int k), .val (.tup (L.map prD)), .no, .no, .no] := by
    simp only [B19, sat, List.getD_cons_zero, List.getD_cons_succ]
    simp []
    rw [lc_flt (xs := A) (g := fun p => .int p.1) (f := fun p => .tup [.int p.1, .int (p.2 - k)]) (p := fun p => decide (k < p.2)) (E := [.val (.int m), .val (flD f), .val (flD g), .val (.tup [rowsD (mg m f).1, .int (mg m f).2]), .val (.tup [rowsD (mg m g).1, .int (mg m g).2]), .val (.tup (L.map prD)), .val (.int k), .val (dzE TII A), s8, s9, .own (.lst ((topL A).map .int)), .val (.int k), .no, .no, .no, .no])]
    · simp [sp]
    · simp []
    · rcases s8 with _ | d | d
      · simp []
      · simp []
      · exact absurd rfl (h8 d)
    · omega
    · intro x hx
      have e1 := getL_of aN (k := x.1) (v := x.2) hx
      exact ⟨[.val (.int m), .val (flD f), .val (flD g), .val (.tup [rowsD (mg m f).1, .int (mg m f).2]), .val (.tup [rowsD (mg m g).1, .int (mg m g).2]), .val (.tup (L.map prD)), .val (.int k), .val (dzE TII A), .val (.int x.1), s9, .own (.lst ((topL A).map .int)), .val (.int k), .no, .no, .no, .no], by simp [], by simp [e1], fun _ => ⟨.val (.tup [.int x.1, .int (x.2 - k)]), by simp [e1], rfl⟩, by simp []⟩
  have x8 : ex P19 CC (sat B19 7) [.val (.int m), .val (flD f), .val (flD g), .val (.tup [rowsD (mg m f).1, .int (mg m f).2]), .val (.tup [rowsD (mg m g).1, .int (mg m g).2]), .val (.tup (L.map prD)), .val (.int k), .val (dzE TII A), s8, s9, .own (.lst ((topL A).map .int)), .val (.int k), .val (.tup (L.map prD)), .no, .no, .no] = .nx [.val (.int m), .val (flD f), .val (flD g), .val (.tup [rowsD (mg m f).1, .int (mg m f).2]), .val (.tup [rowsD (mg m g).1, .int (mg m g).2]), .val (.tup (L.map prD)), .val (.int k), .val (dzE TII A), s8, s9, .own (.lst ((topL A).map .int)), .val (.int k), .val (.tup (L.map prD)), .no, .no, .no] := by
    have lm : ¬ ((m : Int) < L.length) := by omega
    have rp := repr_ne (Φ := P19) (C := CC) (a := .tup [(.fz 5), (.fz 6)]) (b := .tup [(.fz 12), (.fz 11)]) (E := [.val (.int m), .val (flD f), .val (flD g), .val (.tup [rowsD (mg m f).1, .int (mg m f).2]), .val (.tup [rowsD (mg m g).1, .int (mg m g).2]), .val (.tup (L.map prD)), .val (.int k), .val (dzE TII A), s8, s9, .own (.lst ((topL A).map .int)), .val (.int k), .val (.tup (L.map prD)), .no, .no, .no]) (E1 := [.val (.int m), .val (flD f), .val (flD g), .val (.tup [rowsD (mg m f).1, .int (mg m f).2]), .val (.tup [rowsD (mg m g).1, .int (mg m g).2]), .val (.tup (L.map prD)), .val (.int k), .val (dzE TII A), s8, s9, .own (.lst ((topL A).map .int)), .val (.int k), .val (.tup (L.map prD)), .no, .no, .no]) (E2 := [.val (.int m), .val (flD f), .val (flD g), .val (.tup [rowsD (mg m f).1, .int (mg m f).2]), .val (.tup [rowsD (mg m g).1, .int (mg m g).2]), .val (.tup (L.map prD)), .val (.int k), .val (dzE TII A), s8, s9, .own (.lst ((topL A).map .int)), .val (.int k), .val (.tup (L.map prD)), .no, .no, .no]) (s := .val (.tup [.tup (L.map prD), .int k])) (t := .val (.tup [.tup (L.map prD), .int k])) tr (by simp []) rfl (by simp []) rfl (o_else _ _ _ (by simp)) (o_else _ _ _ (by simp))
    simp only [B19, sat, List.getD_cons_zero, List.getD_cons_succ]
    simp [rp, lm]
  have x9 : ex P19 CC (sat B19 8) [.val (.int m), .val (flD f), .val (flD g), .val (.tup [rowsD (mg m f).1, .int (mg m f).2]), .val (.tup [rowsD (mg m g).1, .int (mg m g).2]), .val (.tup (L.map prD)), .val (.int k), .val (dzE TII A), s8, s9, .own (.lst ((topL A).map .int)), .val (.int k), .val (.tup (L.map prD)), .no, .no, .no] = .nx [.val (.int m), .val (flD f), .val (flD g), .val (.tup [rowsD (mg m f).1, .int (mg m f).2]), .val (.tup [rowsD (mg m g).1, .int (mg m g).2]), .val (.tup (L.map prD)), .val (.int k), .val (dzE TII A), s8, s9, .own (.lst ((topL A).map .int)), .val (.int k), .val (.tup (L.map prD)), .val (.int ((mg m f).2 + (mg m g).2 + k)), .val (flD (f ++ g)), .no] := by
    have hz : f.length + g.length ≤ 16777216 := by have := hf.len; have := hg.len; omega
    simp only [B19, sat, List.getD_cons_zero, List.getD_cons_succ]
    simp [pcatM, flD, hz]
  have x10 : ex P19 CC (sat B19 9) [.val (.int m), .val (flD f), .val (flD g), .val (.tup [rowsD (mg m f).1, .int (mg m f).2]), .val (.tup [rowsD (mg m g).1, .int (mg m g).2]), .val (.tup (L.map prD)), .val (.int k), .val (dzE TII A), s8, s9, .own (.lst ((topL A).map .int)), .val (.int k), .val (.tup (L.map prD)), .val (.int ((mg m f).2 + (mg m g).2 + k)), .val (flD (f ++ g)), .no] = .nx [.val (.int m), .val (flD f), .val (flD g), .val (.tup [rowsD (mg m f).1, .int (mg m f).2]), .val (.tup [rowsD (mg m g).1, .int (mg m g).2]), .val (.tup (L.map prD)), .val (.int k), .val (dzE TII A), s8, s9, .own (.lst ((topL A).map .int)), .val (.int k), .val (.tup (L.map prD)), .val (.int ((mg m f).2 + (mg m g).2 + k)), .val (flD (f ++ g)), .no] := by
    have m1 : mulOk ((mg m f).2 + (mg m g).2 + k) ((m : Int) + 1) = true := mulM (by omega) (by omega)
    have nl : ¬ ((f.length : Int) + g.length < ((mg m f).2 + (mg m g).2 + k) * ((m : Int) + 1)) := by rw [List.length_append] at lost; omega
    simp only [B19, sat, List.getD_cons_zero, List.getD_cons_succ]
    simp [m1, flD, nl]
  have x11 : ex P19 CC (sat B19 10) [.val (.int m), .val (flD f), .val (flD g), .val (.tup [rowsD (mg m f).1, .int (mg m f).2]), .val (.tup [rowsD (mg m g).1, .int (mg m g).2]), .val (.tup (L.map prD)), .val (.int k), .val (dzE TII A), s8, s9, .own (.lst ((topL A).map .int)), .val (.int k), .val (.tup (L.map prD)), .val (.int ((mg m f).2 + (mg m g).2 + k)), .val (flD (f ++ g)), .no] = .nx [.val (.int m), .val (flD f), .val (flD g), .val (.tup [rowsD (mg m f).1, .int (mg m f).2]), .val (.tup [rowsD (mg m g).1, .int (mg m g).2]), .val (.tup (L.map prD)), .val (.int k), .val (dzE TII A), s8, s9, .own (.lst ((topL A).map .int)), .val (.int k), .val (.tup (L.map prD)), .val (.int ((mg m f).2 + (mg m g).2 + k)), .val (flD (f ++ g)), .own (dkE TII L)] := by
    have := dictlII L (fun p => p.1) (fun p => p.2) leN
    rw [List.map_id'] at this
    have this2 : dictlS (.lst (L.map prD)) = some (.own (dkE TII L)) := this
    simp only [B19, sat, List.getD_cons_zero, List.getD_cons_succ]
    simp [this2]
  have x12 : ex P19 CC (sat B19 11) [.val (.int m), .val (flD f), .val (flD g), .val (.tup [rowsD (mg m f).1, .int (mg m f).2]), .val (.tup [rowsD (mg m g).1, .int (mg m g).2]), .val (.tup (L.map prD)), .val (.int k), .val (dzE TII A), s8, s9, .own (.lst ((topL A).map .int)), .val (.int k), .val (.tup (L.map prD)), .val (.int ((mg m f).2 + (mg m g).2 + k)), .val (flD (f ++ g)), .own (dkE TII L)] = .rt (.val (.bl true)) [.val (.int m), .val (flD f), .val (flD g), .val (.tup [rowsD (mg m f).1, .int (mg m f).2]), .val (.tup [rowsD (mg m g).1, .int (mg m g).2]), .val (.tup (L.map prD)), .val (.int k), .val (dzE TII A), s8, s9, .own (.lst ((topL A).map .int)), .val (.int k), .val (.tup (L.map prD)), .val (.int ((mg m f).2 + (mg m g).2 + k)), .val (flD (f ++ g)), .own (dkE TII L)] := by
    obtain ⟨sf, f1, f2⟩ := hf.few
    obtain ⟨sg, g1, g2⟩ := hg.few
    have is := isort_ok (f := f ++ g) (by have := few_set (f := f ++ g) (s := sf ++ sg) (fun x hx => (List.mem_append.mp hx).elim (fun z => List.mem_append_left _ (f2 x z)) fun z => List.mem_append_right _ (g2 x z)); simp at this; omega) (by have := hf.len; have := hg.len; simp; omega)
    simp only [B19, sat, List.getD_cons_zero, List.getD_cons_succ]
    simp []
    rw [lc_map (xs := setI (f ++ g)) (g := .int) (f := fun _ => .bl true) (E := [.val (.int m), .val (flD f), .val (flD g), .val (.tup [rowsD (mg m f).1, .int (mg m f).2]), .val (.tup [rowsD (mg m g).1, .int (mg m g).2]), .val (.tup (L.map prD)), .val (.int k), .val (dzE TII A), s8, s9, .own (.lst ((topL A).map .int)), .val (.int k), .val (.tup (L.map prD)), .val (.int ((mg m f).2 + (mg m g).2 + k)), .val (flD (f ++ g)), .own (dkE TII L)])]
    · simp []
    · rw [List.map_append] at is
      simp [flD, is]
    · rcases s8 with _ | d | d
      · simp []
      · simp []
      · exact absurd rfl (h8 d)
    · have := setI_le (f ++ g); have := hf.len; have := hg.len; rw [List.length_append] at *; omega
    · intro x hx
      have b := bound x
      have tc : tcntS (f.map .int ++ g.map .int) (.int x) = some (.val (.int ((f.count x : Int) + g.count x))) := by
        rw [← List.map_append, tcnt_ok, List.count_append]; simp
      rw [List.count_append, Int.natCast_add] at b
      unfold cn at b
      exact ⟨[.val (.int m), .val (flD f), .val (flD g), .val (.tup [rowsD (mg m f).1, .int (mg m f).2]), .val (.tup [rowsD (mg m g).1, .int (mg m g).2]), .val (.tup (L.map prD)), .val (.int k), .val (dzE TII A), .val (.int x), s9, .own (.lst ((topL A).map .int)), .val (.int k), .val (.tup (L.map prD)), .val (.int ((mg m f).2 + (mg m g).2 + k)), .val (flD (f ++ g)), .own (dkE TII L)], by simp [], ⟨.val (.bl true), by simp [flD, tc, b.1, b.2], rfl⟩, by simp []⟩
  unfold F19
  exact fn_rt (exs_step x1 (exs_step x2 (exs_step x3 (exs_step x4 (exs_step x5 (exs_step x6 (exs_step x7 (exs_step x8 (exs_step x9 (exs_step x10 (exs_step x11 (exs_rt x12)))))))))))) (by simp)
end Lw
end

section
set_option Elab.async false
set_option linter.all false
set_option maxRecDepth 100000
set_option maxHeartbeats 2000000
/-! Y94d: k94, drawn flows -/
namespace Lw
open PySem L2
theorem tk : TakeOk F0 := take_gen P0 CC
theorem of1 : OfOk F1 := of_gen CC (Φ := P1) (t := 0) tk
theorem ints_of {P : Int → Prop} : ∀ {ds : List D}, (∀ d ∈ ds, ∃ i, d = .int i ∧ P i) → ∃ l : List Int, ds = l.map .int ∧ ∀ i ∈ l, P i
  | [], _ => ⟨[], rfl, by simp⟩
  | d :: ds, h => by
    obtain ⟨i, rfl, hi⟩ := h d List.mem_cons_self
    obtain ⟨l, rfl, hl⟩ := ints_of fun d hd => h d (List.mem_cons_of_mem _ hd)
    exact ⟨i :: l, rfl, fun j hj => (List.mem_cons.mp hj).elim (fun e => by rw [e]; exact hi) (hl j)⟩
theorem drawn_ok {n : Int} {l : List D} (hn : n < 2 ^ 19) (h : PotOk n l) : ∃ (f : List Int) (l' : List D), Dr f ∧ PotOk (n + 100) l' ∧ F16 [.own (.lst l)] = .ok (.val (flD f)) [.own (.lst l')] := by
  obtain ⟨a, l1, ha, p1, e1⟩ := tk (u := 7) (by omega) h (by omega)
  have ra : rngD 0 (1 + a) = (List.range (1 + a).toNat).map fun (i : Nat) => D.int i := rng_map _
  have ha2 : -4611686018427387904 ≤ 1 + a ∧ 1 + a < 4611686018427387904 := by omega
  obtain ⟨ds, l2, hl2, q2, p2, e2⟩ := lc_draw (Φ := P16) (C := CC) (elt := .ty .int [(.call 0 [(.var 0), (.int 1001)])]) (it := .rng1 (.bop .Add (.int 1) (.call 0 [(.var 0), (.int 7)]))) (j := 2) (E0 := [.own (.lst l), .no, .no]) (m := (1 + a).toNat) (P := fun d => ∃ i, d = .int i ∧ 0 ≤ i ∧ i ≤ 1000) (st := fun l => [.own (.lst l), .no, .no]) (n := n + 1) (k := 1)
    (by simp [e1, ha2, ra]) p1 (by omega) (by simp []) (fun i l hi hp => by
      obtain ⟨b, l', hb, p, e⟩ := tk (u := 1001) (by omega) hp (by omega)
      exact ⟨.val (.int b), l', ⟨b, rfl, by omega⟩, by rw [show n + 1 + ((1 : Nat) : Int) * ((i + 1 : Nat) : Int) = n + 1 + ((1 : Nat) : Int) * (i : Int) + 1 by omega]; exact p, by simp [e]⟩) (fun l => ⟨by simp, by simp []⟩)
  obtain ⟨s, rfl, hs⟩ := ints_of q2
  rw [List.length_map] at hl2
  obtain ⟨b, l3, hb, p3, e3⟩ := tk (u := 41) (by omega) p2 (by omega)
  have rb : rngD 0 b = (List.range b.toNat).map fun (i : Nat) => D.int i := rng_map _
  have hb2 : -4611686018427387904 ≤ b ∧ b < 4611686018427387904 := by omega
  obtain ⟨es, l4, hl4, q4, p4, e4⟩ := lc_draw (Φ := P16) (C := CC) (elt := .call 1 [(.var 0), (.slc (.var 1) .non (.bop .Add (.int 1) (.call 0 [(.var 0), (.bi .len [(.var 1)])])))]) (it := .rng1 (.call 0 [(.var 0), (.int 41)])) (j := 2) (E0 := [.own (.lst l2), .own (.lst (s.map .int)), .no]) (m := b.toNat) (P := fun d => d ∈ s.map D.int) (st := fun l => [.own (.lst l), .own (.lst (s.map .int)), .no]) (n := n + 1 + 1 * (1 + a).toNat + 1) (k := 2)
    (by simp [e3, hb2, rb]) p3 (by omega) (by simp []) (fun i l hi hp => by
      obtain ⟨c, l', hc, p, e⟩ := tk (u := (s.length : Int)) (by omega) hp (by omega)
      obtain ⟨d, l'', hd, p', e'⟩ := of1 (s := .own (.lst ((s.map D.int).take (c.toNat + 1)))) (xs := (s.map D.int).take (c.toNat + 1)) (by omega) p (.inl rfl) (by intro z; have := congrArg List.length z; rw [List.length_take, List.length_map, List.length_nil] at this; omega) (by simp; omega)
      have ct : cutD (s.map D.int) none (some (1 + c)) = (s.map D.int).take (c.toNat + 1) := by rw [← cut_to]; congr 2; omega
      exact ⟨.val d, l'', List.mem_of_mem_take hd, by rw [show n + 1 + 1 * ((1 + a).toNat : Int) + 1 + ((2 : Nat) : Int) * ((i + 1 : Nat) : Int) = n + 1 + 1 * ((1 + a).toNat : Int) + 1 + ((2 : Nat) : Int) * (i : Int) + 1 + 1 by omega]; exact p', by simp [e, ct, e']⟩) (fun l => ⟨by simp, by simp []⟩)
  obtain ⟨f, rfl, hf⟩ := ints_of (P := fun i => i ∈ s) (ds := es) (fun d hd => by obtain ⟨i, h1, rfl⟩ := List.mem_map.mp (q4 d hd); exact ⟨i, rfl, h1⟩)
  rw [List.length_map] at hl4
  refine ⟨f, l4, ⟨by omega, fun x hx => hs x (hf x hx), s, by omega, hf⟩, p4.mono (by omega), ?_⟩
  unfold F16 B16
  simp [e2, e4, ptupS, flD]
end Lw
end

section
set_option Elab.async false
set_option linter.all false
set_option maxRecDepth 100000
set_option maxHeartbeats 2000000
/-! Y94e: k94, _law_is_right -/
namespace Lw
open PySem L2
theorem eqs : eqD (.str "sure") (.str "sure") = some true ∧ eqD (.str "sure") (.str "light") = some false ∧ eqD (.str "light") (.str "sure") = some false ∧ eqD (.str "light") (.str "light") = some true ∧ eqD .non (.str "sure") = some false ∧ eqD .non (.str "light") = some false ∧ eqD .non .non = some true := by
  refine ⟨?_, ?_, ?_, ?_, ?_, ?_, ?_⟩ <;> decide +kernel
theorem turn18 {m : Nat} (hm : 1 ≤ m ∧ m ≤ 20) {f : List Int} (hf : Dr f) {x p : Int} (hx : 0 ≤ x ∧ x ≤ 1000) {L2 : List D} {s6 s8 s9 s10 : Sl} :
    ∃ s6' s8' s9' s10', exs P18 CC (S.body (sat B18 7)) [.own (.lst L2), .val (.int m), .val (flD f), .val (dkE TII (mg m f).1), .val (.int (mg m f).2), .val (.int p), s6, .val (.int x), s8, s9, s10] = .nx [.own (.lst L2), .val (.int m), .val (flD f), .val (dkE TII (mg m f).1), .val (.int (mg m f).2), .val (.int p), s6', .val (.int x), s8', s9', s10'] := by
  obtain ⟨q1, q2, q3, q4, q5, q6, q7⟩ := eqs
  have hM := mg_all m f
  have h1 := hM.lo x; have h2 := hM.hi x
  have h3 : f.count x ≤ f.length := List.count_le_length
  have h4 := hf.len
  have h5 := cn_nn hM.tab.pos x
  have le1 : (mg m f).2 * 1 ≤ (mg m f).2 * ((m : Int) + 1) := Int.mul_le_mul_of_nonneg_left (by omega) hM.less
  have le3 := hM.sum
  have le5 := tot_nn hM.tab.pos
  have le9 := hM.less
  have tc := tcnt_ok f x
  have es := sure_ok hm hf.fl hx
  have w1 : cn (mg m f).1 x * ((m : Int) + 1) ≤ (f.count x : Int) * ((m : Int) + 1) := Int.mul_le_mul_of_nonneg_right h1 (by omega)
  have w2 : (f.count x : Int) * ((m : Int) + 1) ≤ (cn (mg m f).1 x + (mg m f).2) * ((m : Int) + 1) := Int.mul_le_mul_of_nonneg_right h2 (by omega)
  have m1 : mulOk (cn (mg m f).1 x) ((m : Int) + 1) = true := mulM (by omega) (by omega)
  have m2 : mulOk (cn (mg m f).1 x + (mg m f).2) ((m : Int) + 1) = true := mulM (by omega) (by omega)
  have m3 : mulOk (f.count x) ((m : Int) + 1) = true := mulM (by omega) (by omega)
  have ch : (f.count x : Int) - (mg m f).2 ≤ cn (mg m f).1 x := by omega
  have wk : weakD (flD f) = .tup (f.map .int) := rfl
  unfold cn at h1 h2 h5 w1 w2 m1 m2 ch
  simp only [B18, sat, S.body, List.getD_cons_zero, List.getD_cons_succ]
  generalize hu : ((getL (mg m f).1 x).getD 0) = u at *
  by_cases g1 : (f.length : Int) < u * (m + 1)
  · have g3 : ¬ ((f.count x : Int) * ((m : Int) + 1) ≤ f.length) := by omega
    rw [if_pos g1] at es
    by_cases g2 : (u + (mg m f).2) * ((m : Int) + 1) ≤ f.length
    · refine ⟨.val (.str "light"), .val (.int (f.count x)), .val (.int u), .val (.str "sure"), ?_⟩
      simp [wk, hu, tc, m1, m2, m3, g1, g2, g3, es, h1, ch, q1, q2, q3, q4, q5, q6, q7]
    · refine ⟨.val .non, .val (.int (f.count x)), .val (.int u), .val (.str "sure"), ?_⟩
      simp [wk, hu, tc, m1, m2, m3, g1, g2, g3, es, h1, ch, q1, q2, q3, q4, q5, q6, q7]
  · rw [if_neg g1] at es
    by_cases g2 : (u + (mg m f).2) * ((m : Int) + 1) ≤ f.length
    · rw [if_pos g2] at es
      have g3 : ¬ ((f.length : Int) < (f.count x : Int) * ((m : Int) + 1)) := by omega
      refine ⟨.val (.str "light"), .val (.int (f.count x)), .val (.int u), .val (.str "light"), ?_⟩
      simp [wk, hu, tc, m1, m2, m3, g1, g2, g3, es, h1, ch, q1, q2, q3, q4, q5, q6, q7]
    · rw [if_neg g2] at es
      refine ⟨.val .non, .val (.int (f.count x)), .val (.int u), .val .non, ?_⟩
      simp [wk, hu, tc, m1, m2, m3, g1, g2, es, h1, ch, q1, q2, q3, q4, q5, q6, q7]
end Lw
end

section
set_option Elab.async false
set_option linter.all false
set_option maxRecDepth 100000
set_option maxHeartbeats 2000000
/-! Y94f: k94, _law_is_right -/
namespace Lw
open PySem L2
theorem repr_pt (xs : List D) (d : D) : reprD (.tup [.ptup xs, d]) = reprD (.tup [.tup xs, d]) := by
  simp [reprD, D.pd, D.pds, D.noLst, D.noLsts]
theorem told_ints {l : List Int} (h : ∀ x ∈ l, x.natAbs < 10 ^ 12) (hl : l.length ≤ 10000) : told (.tup (l.map .int)) = true := by
  refine Sh.told (k := 1) (n := 500000) (Sh.tup (k := 0) (n := 40) (fun d hd => ?_) (by simp; omega)) (by omega) (by omega)
  obtain ⟨x, hx, rfl⟩ := List.mem_map.mp hd
  exact Sh.int (h x hx)
theorem is_right_ok {n : Int} {L : List D} {m : Nat} (hn : n < 2 ^ 19) (hp : PotOk n L) (hm : 1 ≤ m ∧ m ≤ 20) {f : List Int} (hf : Dr f) :
    ∃ L', PotOk (n + 2) L' ∧ F18 [.own (.lst L), .val (.int m), .val (flD f)] = .ok (.val (.bl true)) [.own (.lst L'), .val (.int m), .val (flD f)] := by
  have hM := mg_all m f
  have hfl := hf.fl
  have hlen := hf.len
  have ec := counters_ok hm hfl
  have eg := counted_ok hm hfl
  obtain ⟨p, L1, hpp, p1, e1⟩ := tk (u := 21) (by omega) hp (by omega)
  obtain ⟨d, L2, hd, p2, e2⟩ := tk (u := 1001) (by omega) p1 (by omega)
  have eh := heavy_ok hfl (p := 1 + p) (by omega)
  have eh2 := heavy_ok hfl (p := (m : Int) + 1) (by omega)
  have em := most_ok (m := m) (p := f.length) (by omega) (by omega)
  have wk : weakD (flD f) = .tup (f.map .int) := rfl
  have le1 : (mg m f).2 * 1 ≤ (mg m f).2 * ((m : Int) + 1) := Int.mul_le_mul_of_nonneg_left (by omega) hM.less
  have le3 := hM.sum
  have le5 := tot_nn hM.tab.pos
  have le9 := hM.less
  have lm : ¬ ((f.length : Int) / ((m : Int) + 1) < (mg m f).2) := by
    have := (Int.le_ediv_iff_mul_le (c := (m : Int) + 1) (by omega) (a := (mg m f).2) (b := (f.length : Int))).mpr (by omega)
    omega
  have l0 : (0 : Int) < (m : Int) + 1 := by omega
  have l1 : ((m : Int) + 1).natAbs.log2 < 9000 := logM (by omega)
  obtain ⟨sf, f1, f2⟩ := hf.few
  have sl := few_set f2
  have is := isort_ok (f := f) (by omega) (by omega)
  have hv : ∀ q x, x ∈ heavyL f q → x ∈ f ∧ (f.length : Int) < (f.count x : Int) * q := fun q x hx => by
    unfold heavyL at hx
    rw [List.mem_filter, setI_mem] at hx
    exact ⟨hx.1, of_decide_eq_true hx.2⟩
  have hvl : ∀ q, (heavyL f q).length ≤ 7 := fun q => Nat.le_trans (List.length_filter_le _ _) (by omega)
  have x0 : ex P18 CC (sat B18 0) [.own (.lst L), .val (.int m), .val (flD f), .no, .no, .no, .no, .no, .no, .no, .no] = .nx [.own (.lst L), .val (.int m), .val (flD f), .val (dkE TII (mg m f).1), .val (.int (mg m f).2), .no, .no, .no, .no, .no, .no] := by
    simp only [B18, sat, List.getD_cons_zero, List.getD_cons_succ]
    simp [eg]
  have x1 : ex P18 CC (sat B18 1) [.own (.lst L), .val (.int m), .val (flD f), .val (dkE TII (mg m f).1), .val (.int (mg m f).2), .no, .no, .no, .no, .no, .no] = .nx [.own (.lst L), .val (.int m), .val (flD f), .val (dkE TII (mg m f).1), .val (.int (mg m f).2), .no, .no, .no, .no, .no, .no] := by
    have hB : ∀ p ∈ (mg m f).1.mergeSort leII, p.1.natAbs < 10 ^ 12 ∧ p.2.natAbs < 10 ^ 12 := fun p hp => by
      have h := rows_of hm hfl
      have := h.key p hp; have := h.val p hp
      omega
    have hl : ((mg m f).1.mergeSort leII).length ≤ 1000 := by have := (rows_of hm hfl).len; omega
    obtain ⟨x, hx, hx2⟩ := told_iff (told_rows hB (k := (mg m f).2) (by omega) hl)
    have si := sitemsII (mg m f).1 _ (.inl rfl) (by have := hM.tab.len; omega)
    have rp := repr_ne2 (Φ := P18) (C := CC) (a := .call 7 [(.var 1), (.var 2)]) (b := .tup [.ty .tuple [.sitems (.var 3)], .fz 4]) (E := [.own (.lst L), .val (.int m), .val (flD f), .val (dkE TII (mg m f).1), .val (.int (mg m f).2), .no, .no, .no, .no, .no, .no]) (E1 := [.own (.lst L), .val (.int m), .val (flD f), .val (dkE TII (mg m f).1), .val (.int (mg m f).2), .no, .no, .no, .no, .no, .no]) (E2 := [.own (.lst L), .val (.int m), .val (flD f), .val (dkE TII (mg m f).1), .val (.int (mg m f).2), .no, .no, .no, .no, .no, .no]) (s := .val (.tup [rowsD (mg m f).1, .int (mg m f).2])) (t := .val (.tup [.tup (((mg m f).1.mergeSort leII).map prD), .int (mg m f).2])) hx2 (by simp [ec]) ((repr_pt _ _).trans hx) (by simp [si]) hx (o_else _ _ _ (by simp)) (o_else _ _ _ (by simp))
    simp only [B18, sat, List.getD_cons_zero, List.getD_cons_succ]
    simp [rp]
  have x2 : ex P18 CC (sat B18 2) [.own (.lst L), .val (.int m), .val (flD f), .val (dkE TII (mg m f).1), .val (.int (mg m f).2), .no, .no, .no, .no, .no, .no] = .nx [.own (.lst L), .val (.int m), .val (flD f), .val (dkE TII (mg m f).1), .val (.int (mg m f).2), .no, .no, .no, .no, .no, .no] := by
    simp only [B18, sat, List.getD_cons_zero, List.getD_cons_succ]
    simp [wk, em, lm, l0, l1]
  have x3 : ex P18 CC (sat B18 3) [.own (.lst L), .val (.int m), .val (flD f), .val (dkE TII (mg m f).1), .val (.int (mg m f).2), .no, .no, .no, .no, .no, .no] = .nx [.own (.lst L1), .val (.int m), .val (flD f), .val (dkE TII (mg m f).1), .val (.int (mg m f).2), .val (.int (1 + p)), .no, .no, .no, .no, .no] := by
    simp only [B18, sat, List.getD_cons_zero, List.getD_cons_succ]
    simp [e1]
  have x4 : ex P18 CC (sat B18 4) [.own (.lst L1), .val (.int m), .val (flD f), .val (dkE TII (mg m f).1), .val (.int (mg m f).2), .val (.int (1 + p)), .no, .no, .no, .no, .no] = .nx [.own (.lst L1), .val (.int m), .val (flD f), .val (dkE TII (mg m f).1), .val (.int (mg m f).2), .val (.int (1 + p)), .val (heavyD f (1 + p)), .no, .no, .no, .no] := by
    simp only [B18, sat, List.getD_cons_zero, List.getD_cons_succ]
    simp []
    rw [lc_flt (xs := setI f) (g := .int) (f := .int) (p := fun x => decide ((f.length : Int) < f.count x * (1 + p))) (E := [.own (.lst L1), .val (.int m), .val (flD f), .val (dkE TII (mg m f).1), .val (.int (mg m f).2), .val (.int (1 + p)), .no, .no, .no, .no, .no])]
    · simp [heavyD, heavyL]
    · simp [wk, is]
    · simp []
    · have := setI_le f; omega
    · intro x hx
      have tc := tcnt_ok f x
      have c1 : f.count x ≤ f.length := List.count_le_length
      have m1 : mulOk (f.count x) (1 + p) = true := mulM (by omega) (by omega)
      exact ⟨[.own (.lst L1), .val (.int m), .val (flD f), .val (dkE TII (mg m f).1), .val (.int (mg m f).2), .val (.int (1 + p)), .no, .val (.int x), .no, .no, .no], by simp [], by simp [wk, tc, m1], fun _ => ⟨.val (.int x), by simp [], rfl⟩, by simp []⟩
  have x5 : ex P18 CC (sat B18 5) [.own (.lst L1), .val (.int m), .val (flD f), .val (dkE TII (mg m f).1), .val (.int (mg m f).2), .val (.int (1 + p)), .val (heavyD f (1 + p)), .no, .no, .no, .no] = .nx [.own (.lst L1), .val (.int m), .val (flD f), .val (dkE TII (mg m f).1), .val (.int (mg m f).2), .val (.int (1 + p)), .val (heavyD f (1 + p)), .no, .no, .no, .no] := by
    have tr : told (heavyD f (1 + p)) = true := told_ints (fun x hx => by have := hf.rng x (hv _ x hx).1; omega) (by have := hvl (1 + p); omega)
    have rp := repr_ne (Φ := P18) (C := CC) (a := .call 10 [(.var 2), (.var 5)]) (b := .fz 6) (E := [.own (.lst L1), .val (.int m), .val (flD f), .val (dkE TII (mg m f).1), .val (.int (mg m f).2), .val (.int (1 + p)), .val (heavyD f (1 + p)), .no, .no, .no, .no]) (E1 := [.own (.lst L1), .val (.int m), .val (flD f), .val (dkE TII (mg m f).1), .val (.int (mg m f).2), .val (.int (1 + p)), .val (heavyD f (1 + p)), .no, .no, .no, .no]) (E2 := [.own (.lst L1), .val (.int m), .val (flD f), .val (dkE TII (mg m f).1), .val (.int (mg m f).2), .val (.int (1 + p)), .val (heavyD f (1 + p)), .no, .no, .no, .no]) (s := .val (heavyD f (1 + p))) (t := .val (heavyD f (1 + p))) tr (by simp [eh]) rfl (by simp []) rfl (o_else _ _ _ (by simp)) (o_else _ _ _ (by simp))
    have wh : weakD (heavyD f (1 + p)) = heavyD f (1 + p) := rfl
    obtain ⟨x, hx, hx2⟩ := told_iff tr
    have q := eqD_self hx2
    simp only [B18, sat, List.getD_cons_zero, List.getD_cons_succ]
    simp [eh, wh, hx, q]
  have x6 : ex P18 CC (sat B18 6) [.own (.lst L1), .val (.int m), .val (flD f), .val (dkE TII (mg m f).1), .val (.int (mg m f).2), .val (.int (1 + p)), .val (heavyD f (1 + p)), .no, .no, .no, .no] = .nx [.own (.lst L1), .val (.int m), .val (flD f), .val (dkE TII (mg m f).1), .val (.int (mg m f).2), .val (.int (1 + p)), .val (heavyD f (1 + p)), .no, .no, .no, .no] := by
    simp only [B18, sat, List.getD_cons_zero, List.getD_cons_succ]
    simp []
    rw [lc_map (xs := heavyL f (m + 1)) (g := .int) (f := fun _ => .bl true) (E := [.own (.lst L1), .val (.int m), .val (flD f), .val (dkE TII (mg m f).1), .val (.int (mg m f).2), .val (.int (1 + p)), .val (heavyD f (1 + p)), .no, .no, .no, .no])]
    · simp []
    · simp [eh2, heavyD]
    · simp []
    · have := hvl (m + 1); omega
    · intro x hx
      obtain ⟨h1, h2⟩ := hv _ x hx
      have h3 := hM.hi x
      have h4 : x ∈ (mg m f).1.map (·.1) := by
        refine (cn_pos hM.tab.pos).mp ?_
        have h5 := cn_nn hM.tab.pos x
        rcases Int.lt_or_le 0 (cn (mg m f).1 x) with z | z
        · exact z
        · have h6 : (f.count x : Int) * ((m : Int) + 1) ≤ (mg m f).2 * ((m : Int) + 1) := Int.mul_le_mul_of_nonneg_right (by omega) (by omega)
          omega
      exact ⟨[.own (.lst L1), .val (.int m), .val (flD f), .val (dkE TII (mg m f).1), .val (.int (mg m f).2), .val (.int (1 + p)), .val (heavyD f (1 + p)), .val (.int x), .no, .no, .no], by simp [], ⟨.val (.bl true), by simp [h4], rfl⟩, by simp []⟩
  have x7 : ∃ s6 s7 s8 s9 s10, ex P18 CC (sat B18 7) [.own (.lst L1), .val (.int m), .val (flD f), .val (dkE TII (mg m f).1), .val (.int (mg m f).2), .val (.int (1 + p)), .val (heavyD f (1 + p)), .no, .no, .no, .no] = .nx [.own (.lst L2), .val (.int m), .val (flD f), .val (dkE TII (mg m f).1), .val (.int (mg m f).2), .val (.int (1 + p)), s6, s7, s8, s9, s10] := by
    obtain ⟨E', e, s6, s7, s8, s9, s10, i⟩ := forI_fold (bt := bindT (.nm 7)) (b := exs P18 CC (S.body (sat B18 7))) (g := .int) (f := fun a _ => a) (fun (a : Unit) E => ∃ s6 s7 s8 s9 s10, E = [.own (.lst L2), .val (.int m), .val (flD f), .val (dkE TII (mg m f).1), .val (.int (mg m f).2), .val (.int (1 + p)), s6, s7, s8, s9, s10]) (setI f ++ [d])
      (fun x hx a E ⟨s6, s7, s8, s9, s10, hE⟩ => by
        subst hE
        have hx2 : 0 ≤ x ∧ x ≤ 1000 := by
          rcases List.mem_append.mp hx with h | h
          · exact hf.rng x (setI_mem.mp h)
          · simp at h; omega
        obtain ⟨t6, t8, t9, t10, e⟩ := turn18 (L2 := L2) (p := 1 + p) (s6 := s6) (s8 := s8) (s9 := s9) (s10 := s10) hm hf hx2
        exact ⟨[.own (.lst L2), .val (.int m), .val (flD f), .val (dkE TII (mg m f).1), .val (.int (mg m f).2), .val (.int (1 + p)), s6, .val (.int x), s8, s9, s10], _, by simp [], .inl e, _, _, _, _, _, rfl⟩) () [.own (.lst L2), .val (.int m), .val (flD f), .val (dkE TII (mg m f).1), .val (.int (mg m f).2), .val (.int (1 + p)), .val (heavyD f (1 + p)), .no, .no, .no, .no] ⟨_, _, _, _, _, rfl⟩
    subst i
    refine ⟨s6, s7, s8, s9, s10, (x_for (E1 := [.own (.lst L2), .val (.int m), .val (flD f), .val (dkE TII (mg m f).1), .val (.int (mg m f).2), .val (.int (1 + p)), .val (heavyD f (1 + p)), .no, .no, .no, .no]) (ds := (setI f ++ [d]).map .int) ?_).trans e⟩
    have hz : (setI f).length + 1 ≤ 16777216 := by omega
    simp [wk, is, e2, hz]
  obtain ⟨s6, s7, s8, s9, s10, x7⟩ := x7
  refine ⟨L2, by rw [show n + 2 = n + 1 + 1 by omega]; exact p2, ?_⟩
  unfold F18
  exact fn_rt (exs_step x0 (exs_step x1 (exs_step x2 (exs_step x3 (exs_step x4 (exs_step x5 (exs_step x6 (exs_step x7 (exs_rt (by simp []; rfl)))))))))) (by simp)
end Lw
end

section
set_option Elab.async false
set_option linter.all false
set_option maxRecDepth 100000
set_option maxHeartbeats 2000000
/-! Y94g: k94, what is refused -/
namespace Lw
open PySem L2
@[irreducible] def zer : List D := List.replicate 501 (D.int 0)
theorem zer_len : zer.length = 501 := by unfold zer; exact List.length_replicate
theorem zer_told : told (.tup zer) = true := by
  refine Sh.told (k := 1) (n := 500000) (Sh.tup (k := 0) (n := 40) (fun d hd => ?_) (by rw [zer_len]; omega)) (by omega) (by omega)
  unfold zer at hd
  rw [List.eq_of_mem_replicate hd]
  exact Sh.int (by decide)
theorem zer_is : bopS .Mult (.tup [.int 0]) (.int 501) = some (.val (.tup zer)) := by
  unfold zer
  rw [b_multt, if_pos (by decide)]
  congr 3
theorem ii_non (lo hi : Int) : F2 [.val .non, .val (.int lo), .val (.int hi)] = .ok (.val (.bl false)) [.val .non, .val (.int lo), .val (.int hi)] := by
  unfold F2 B2; simp []
theorem ii_str (x : Str) (lo hi : Int) : F2 [.val (.str x), .val (.int lo), .val (.int hi)] = .ok (.val (.bl false)) [.val (.str x), .val (.int lo), .val (.int hi)] := by
  unfold F2 B2; simp []
theorem ii_bl (b : Bool) (lo hi : Int) : F2 [.val (.bl b), .val (.int lo), .val (.int hi)] = .ok (.val (.bl false)) [.val (.bl b), .val (.int lo), .val (.int hi)] := by
  unfold F2 B2; simp []
def odd1 : List D := [.non, .lst [.int 1], .tup [.int (-1)], .tup [.int 1001], .tup [.bl true], .tup [.str "1"], .tup zer, .int 5]
theorem odd1_told : ∀ x ∈ odd1, told x = true := by
  intro x hx
  simp only [odd1, List.mem_cons, List.not_mem_nil, or_false] at hx
  rcases hx with rfl | rfl | rfl | rfl | rfl | rfl | rfl | rfl
  case inr.inr.inr.inr.inr.inr.inl => exact zer_told
  all_goals decide +kernel
theorem odd1_4 : ∀ x ∈ odd1, F4 [.val x] = .ok (.val (.bl false)) [.val x] := by
  intro x hx
  simp only [odd1, List.mem_cons, List.not_mem_nil, or_false] at hx
  rcases hx with rfl | rfl | rfl | rfl | rfl | rfl | rfl | rfl <;> unfold F4 B4
  case inr.inr.inr.inr.inr.inr.inl => simp [zer_len]
  all_goals simp [e_lc, lcI_0, lcI_1, ii_non, ii_str, ii_bl, ii_int, blsOf]
theorem odd1_5 : ∀ x ∈ odd1, F5 [.val x] = .exc "BadFlows" x [.val x] := fun x hx => by
  have h := odd1_4 x hx
  unfold F5 B5
  simp [h]
def odd2 : List D := [.non, .int (-1), .int 0, .int 10000000, .bl true, .str "1"]
theorem odd2_told : ∀ x ∈ odd2, told x = true := by
  have h : odd2.all told = true := by decide +kernel
  exact List.all_eq_true.mp h
theorem odd2_2 : ∀ x ∈ odd2, F2 [.val x, .val (.int 1), .val (.int 20)] = .ok (.val (.bl false)) [.val x, .val (.int 1), .val (.int 20)] ∧ F2 [.val x, .val (.int 1), .val (.int 21)] = .ok (.val (.bl false)) [.val x, .val (.int 1), .val (.int 21)] := by
  intro x hx
  simp only [odd2, List.mem_cons, List.not_mem_nil, or_false] at hx
  rcases hx with rfl | rfl | rfl | rfl | rfl | rfl <;> simp [ii_non, ii_str, ii_bl, ii_int]
theorem odd2_3 : ∀ x ∈ odd2, F3 [.val x] = .exc "BadNumber" x [.val x] := fun x hx => by
  have h := (odd2_2 x hx).1
  unfold F3 B3
  simp [h]
/-- odd if odd != 0 else -1 -/
def els (x : D) : D := match x with
  | .int 0 => .int (-1)
  | x => x
theorem odd2_els : ∀ x ∈ odd2, F2 [.val (els x), .val (.int 0), .val (.int 1000)] = .ok (.val (.bl false)) [.val (els x), .val (.int 0), .val (.int 1000)] ∧ F2 [.val (els x), .val (.int 0), .val (.int 1000000)] = .ok (.val (.bl false)) [.val (els x), .val (.int 0), .val (.int 1000000)] := by
  intro x hx
  simp only [odd2, List.mem_cons, List.not_mem_nil, or_false] at hx
  rcases hx with rfl | rfl | rfl | rfl | rfl | rfl <;> simp [els, ii_non, ii_str, ii_bl, ii_int]
theorem els_ev {Φ : Nat → M Sl} {x : D} (hx : x ∈ odd2) {a b c e f g h : Sl} : ev Φ CC (.ite (.cmp .NotEq (.var 3) (.int 0)) (.fz 3) (.neg (.int 1))) [a, b, c, .val x, e, f, g, h] = .ok (.val (els x)) [a, b, c, .val x, e, f, g, h] := by
  have q1 : eqD .non (.int 0) = some false := by decide +kernel
  have q2 : eqD (.bl true) (.int 0) = some false := by decide +kernel
  have q3 : eqD (.str "1") (.int 0) = some false := by decide +kernel
  simp only [odd2, List.mem_cons, List.not_mem_nil, or_false] at hx
  rcases hx with rfl | rfl | rfl | rfl | rfl | rfl <;> simp [q1, q2, q3, els]
def odd3 : List D := [.non, .lst [], .tup [.tup [.int 1]], .tup [.tup [.int 1, .int 0]], .tup [.tup [.int 2, .int 1], .tup [.int 1, .int 1]], .tup [.tup [.int 1, .int 1], .tup [.int 1, .int 2]], .tup [.tup [.int 1, .bl true]], .tup [.tup [.int 1001, .int 1]]]
theorem odd3_told : ∀ x ∈ odd3, told x = true := by
  have h : odd3.all told = true := by decide +kernel
  exact List.all_eq_true.mp h
theorem odd3_13 : ∀ x ∈ odd3, F13 [.val x] = .ok (.val (.bl false)) [.val x] := by
  intro x hx
  simp only [odd3, List.mem_cons, List.not_mem_nil, or_false] at hx
  rcases hx with rfl | rfl | rfl | rfl | rfl | rfl | rfl | rfl <;> unfold F13 B13 <;>
  simp [e_lc, lcI_0, lcI_1, ii_non, ii_str, ii_bl, ii_int, blsOf, zipD, cut_1]
theorem odd_weak : (∀ x ∈ odd1, weakD x = x) ∧ (∀ x ∈ odd2, weakD x = x) ∧ (∀ x ∈ odd3, weakD x = x) := by
  refine ⟨?_, ?_, ?_⟩ <;> intro x hx
  · simp only [odd1, List.mem_cons, List.not_mem_nil, or_false] at hx
    rcases hx with rfl | rfl | rfl | rfl | rfl | rfl | rfl | rfl <;> rfl
  · simp only [odd2, List.mem_cons, List.not_mem_nil, or_false] at hx
    rcases hx with rfl | rfl | rfl | rfl | rfl | rfl <;> rfl
  · simp only [odd3, List.mem_cons, List.not_mem_nil, or_false] at hx
    rcases hx with rfl | rfl | rfl | rfl | rfl | rfl | rfl | rfl <;> rfl
end Lw
end

section
set_option Elab.async false
set_option linter.all false
set_option maxRecDepth 100000
set_option maxHeartbeats 2000000
/-! Y94h: k94, the law -/
namespace Lw
open PySem L2
theorem pow7 : bopS .Pow (.int 10) (.int 7) = some (.val (.int 10000000)) := by
  rw [b_pow ⟨by decide, by decide +kernel⟩]; rfl
theorem rows0 : Rows [] := ⟨by simp, by simp, by simp, by simp⟩
theorem rows1 : Rows [(1, 1)] := ⟨by simp, by simp, by simp, by simp⟩
theorem rows2 : Rows [(1, 1), (2, 2)] := ⟨by simp, by simp, by simp, by simp⟩
theorem ac0 : F13 [.val (.tup [])] = .ok (.val (.bl true)) [.val (.tup [])] := are_counters_ok rows0
theorem ac1 : F13 [.val (.tup [.tup [.int 1, .int 1]])] = .ok (.val (.bl true)) [.val (.tup [.tup [.int 1, .int 1]])] := are_counters_ok rows1
theorem ac2 : F13 [.val (.tup [.tup [.int 1, .int 1], .tup [.int 2, .int 2]])] = .ok (.val (.bl true)) [.val (.tup [.tup [.int 1, .int 1], .tup [.int 2, .int 2]])] := are_counters_ok rows2
theorem refused_ok {n : Int} {L : List D} {m : Nat} (hn : n < 2 ^ 19) (hp : PotOk n L) (hm : 1 ≤ m ∧ m ≤ 20) {f : List Int} (hf : Dr f) :
    ∃ L', F15 [.own (.lst L), .val (.int m), .val (flD f)] = .ok (.val (.bl true)) [.own (.lst L'), .val (.int m), .val (flD f)] := by
  obtain ⟨w1, w2, w3⟩ := odd_weak
  have hfl := hf.fl
  have lf := look_flows_ok hfl
  have lm := many_ok (m := m) (by omega)
  have lm1 := many_ok (m := 1) (by omega)
  obtain ⟨x, L1, hx, p1, e1⟩ := of1 (s := .own (.lst odd1)) (by omega) hp (.inl rfl) (by simp [odd1]) (by simp [odd1])
  obtain ⟨y, L2, hy, p2, e2⟩ := of1 (s := .own (.lst odd2)) (by omega) p1 (.inl rfl) (by simp [odd2]) (by simp [odd2])
  obtain ⟨z, L3, hz, p3, e3⟩ := of1 (s := .own (.lst odd3)) (by omega) p2 (.inl rfl) (by simp [odd3]) (by simp [odd3])
  have wx := w1 x hx; have wy := w2 y hy; have wz := w3 z hz
  have x5 := odd1_5 x hx
  have y3 := odd2_3 y hy
  have y2 := odd2_2 y hy
  have ye := odd2_els y hy
  have z13 := odd3_13 z hz
  obtain ⟨tx, hx1, hx2⟩ := told_iff (odd1_told x hx)
  obtain ⟨ty, hy1, hy2⟩ := told_iff (odd2_told y hy)
  obtain ⟨tz, hz1, hz2⟩ := told_iff (odd3_told z hz)
  have sx := eqD_self hx2; have sz := eqD_self hz2
  have ry : ∃ t, reprD (els y) = some t ∧ (t = ty ∨ t = "-1") ∧ weakD (els y) = els y := by
    have h := hy
    simp only [odd2, List.mem_cons, List.not_mem_nil, or_false] at h
    rcases h with rfl | rfl | rfl | rfl | rfl | rfl
    case inr.inr.inl => exact ⟨"-1", by decide +kernel, .inr rfl, rfl⟩
    all_goals exact ⟨ty, hy1, .inl rfl, rfl⟩
  obtain ⟨te, re1, re2, re3⟩ := ry
  have k1 : F7 [.val (.int m), .val x] = .exc "BadFlows" x [.val (.int m), .val x] := by unfold F7 B7; simp [lm, x5]
  have k2 : F10 [.val x, .val .non] = .exc "BadFlows" x [.val x, .val .non] := by unfold F10 B10; simp [x5]
  have k3 : F11 [.val (.int m), .val x, .val .non] = .exc "BadFlows" x [.val (.int m), .val x, .val .non] := by unfold F11 B11; simp [lm, x5]
  have k4 : F7 [.val y, .val .non] = .exc "BadNumber" y [.val y, .val .non] := by unfold F7 B7; simp [y3]
  have k5 : F12 [.val y, .val .non] = .exc "BadNumber" y [.val y, .val .non] := by unfold F12 B12; simp [y3]
  have k6 : F12 [.val (.int m), .val (els y)] = .exc "BadNumber" (els y) [.val (.int m), .val (els y)] := by unfold F12 B12; simp [lm, ye.2]
  have k7 : F10 [.val (flD f), .val y] = .exc "BadNumber" y [.val (flD f), .val y] := by unfold F10 B10; simp [lf, y2.2]
  have k8 : F11 [.val y, .val .non, .val .non] = .exc "BadNumber" y [.val y, .val .non, .val .non] := by unfold F11 B11; simp [y3]
  have k9 : F11 [.val (.int m), .val (flD f), .val (els y)] = .exc "BadNumber" (els y) [.val (.int m), .val (flD f), .val (els y)] := by unfold F11 B11; simp [lm, lf, ye.1]
  have k10 : F14 [.val y, .val .non, .val .non] = .exc "BadNumber" y [.val y, .val .non, .val .non] := by unfold F14 B14; simp [y3]
  have k11 : F14 [.val (.int m), .val z, .val .non] = .exc "BadCounters" z [.val (.int m), .val z, .val .non] := by unfold F14 B14; simp [lm, z13, wz]
  have nm : ¬ ((m : Int) < 0) := by omega
  have k12 : F14 [.val (.int m), .val (.tup []), .val z] = .exc "BadCounters" z [.val (.int m), .val (.tup []), .val z] := by unfold F14 B14; simp [lm, ac0, z13, wz, nm]
  have k13 : F14 [.val (.int 1), .val (.tup [.tup [.int 1, .int 1]]), .val z] = .exc "BadCounters" z [.val (.int 1), .val (.tup [.tup [.int 1, .int 1]]), .val z] := by unfold F14 B14; simp [lm1, ac1, z13, wz]
  unfold odd1 at e1
  unfold odd2 at e2
  unfold odd3 at e3
  have zi := zer_is
  have x0 : ex P15 CC (sat B15 0) [.own (.lst L), .val (.int m), .val (flD f), .no, .no, .no, .no, .no] = .nx [.own (.lst L1), .val (.int m), .val (flD f), .val x, .no, .no, .no, .no] := by
    simp only [B15, sat, List.getD_cons_zero, List.getD_cons_succ]
    simp [zi, e1]
  have x1 : ex P15 CC (sat B15 1) [.own (.lst L1), .val (.int m), .val (flD f), .val x, .no, .no, .no, .no] = .nx [.own (.lst L1), .val (.int m), .val (flD f), .val x, .no, .own (.lst ([x, x, x].map (.exc "BadFlows"))), .no, .no] := by
    simp only [B15, sat, List.getD_cons_zero, List.getD_cons_succ]
    refine hears_is (E0 := [.own (.lst L1), .val (.int m), .val (flD f), .val x, .no, .no, .no, .no]) (by simp) (by simp) (by simp) (by simp) ?_
    simp only [evs1, evs0, ExcAll, and_true]
    exact ⟨by simp [k1], by simp [k2], by simp [k3]⟩
  have x2 : ex P15 CC (sat B15 2) [.own (.lst L1), .val (.int m), .val (flD f), .val x, .no, .own (.lst ([x, x, x].map (.exc "BadFlows"))), .no, .no] = .nx [.own (.lst L1), .val (.int m), .val (flD f), .val x, .no, .val (.lst ([x, x, x].map (.exc "BadFlows"))), .no, .no] := by
    simp only [B15, sat, List.getD_cons_zero, List.getD_cons_succ]
    simp [e_lc, lcI_0, lcI_1, hx1, sx, wx, blsOf]
  have x3 : ex P15 CC (sat B15 3) [.own (.lst L1), .val (.int m), .val (flD f), .val x, .no, .val (.lst ([x, x, x].map (.exc "BadFlows"))), .no, .no] = .nx [.own (.lst L2), .val (.int m), .val (flD f), .val y, .no, .val (.lst ([x, x, x].map (.exc "BadFlows"))), .no, .no] := by
    simp only [B15, sat, List.getD_cons_zero, List.getD_cons_succ]
    simp [pow7, e2]
  have x4 : ex P15 CC (sat B15 4) [.own (.lst L2), .val (.int m), .val (flD f), .val y, .no, .val (.lst ([x, x, x].map (.exc "BadFlows"))), .no, .no] = .nx [.own (.lst L2), .val (.int m), .val (flD f), .val y, .no, .own (.lst ([y, y, els y, y, y, els y, y].map (.exc "BadNumber"))), .no, .no] := by
    simp only [B15, sat, List.getD_cons_zero, List.getD_cons_succ]
    refine hears_is (E0 := [.own (.lst L2), .val (.int m), .val (flD f), .val y, .no, .val (.lst ([x, x, x].map (.exc "BadFlows"))), .no, .no]) (by simp) (by simp) (by simp) (by simp) ?_
    simp only [evs1, evs0, ExcAll, and_true]
    have ev := fun {Φ : Nat → M Sl} {a b c e f g h : Sl} => els_ev (Φ := Φ) hy (a := a) (b := b) (c := c) (e := e) (f := f) (g := g) (h := h)
    exact ⟨by simp [k4], by simp [k5], by simp [ev, k6], by simp [k7], by simp [k8], by simp [ev, k9], by simp [k10]⟩
  have x5 : ex P15 CC (sat B15 5) [.own (.lst L2), .val (.int m), .val (flD f), .val y, .no, .own (.lst ([y, y, els y, y, y, els y, y].map (.exc "BadNumber"))), .no, .no] = .nx [.own (.lst L2), .val (.int m), .val (flD f), .val y, .no, .val (.lst ([y, y, els y, y, y, els y, y].map (.exc "BadNumber"))), .no, .no] := by
    simp only [B15, sat, List.getD_cons_zero, List.getD_cons_succ]
    rcases re2 with rfl | rfl <;> simp [e_lc, lcI_0, lcI_1, hy1, re1, re3, wy, blsOf]
  have x6 : ex P15 CC (sat B15 6) [.own (.lst L2), .val (.int m), .val (flD f), .val y, .no, .val (.lst ([y, y, els y, y, y, els y, y].map (.exc "BadNumber"))), .no, .no] = .nx [.own (.lst L3), .val (.int m), .val (flD f), .val z, .no, .val (.lst ([y, y, els y, y, y, els y, y].map (.exc "BadNumber"))), .no, .no] := by
    simp only [B15, sat, List.getD_cons_zero, List.getD_cons_succ]
    simp [e3]
  have x7 : ex P15 CC (sat B15 7) [.own (.lst L3), .val (.int m), .val (flD f), .val z, .no, .val (.lst ([y, y, els y, y, y, els y, y].map (.exc "BadNumber"))), .no, .no] = .nx [.own (.lst L3), .val (.int m), .val (flD f), .val z, .no, .own (.lst ([z, z, z].map (.exc "BadCounters"))), .no, .no] := by
    simp only [B15, sat, List.getD_cons_zero, List.getD_cons_succ]
    refine hears_is (E0 := [.own (.lst L3), .val (.int m), .val (flD f), .val z, .no, .val (.lst ([y, y, els y, y, y, els y, y].map (.exc "BadNumber"))), .no, .no]) (by simp) (by simp) (by simp) (by simp) ?_
    simp only [evs1, evs0, ExcAll, and_true]
    exact ⟨by simp [k11], by simp [k12], by simp [k13]⟩
  have x8 : ex P15 CC (sat B15 8) [.own (.lst L3), .val (.int m), .val (flD f), .val z, .no, .own (.lst ([z, z, z].map (.exc "BadCounters"))), .no, .no] = .rt (.val (.bl true)) [.own (.lst L3), .val (.int m), .val (flD f), .val z, .no, .val (.lst ([z, z, z].map (.exc "BadCounters"))), .no, .no] := by
    simp only [B15, sat, List.getD_cons_zero, List.getD_cons_succ]
    simp [e_lc, lcI_0, lcI_1, hz1, sz, wz, blsOf]
  refine ⟨L3, ?_⟩
  unfold F15
  exact fn_rt (exs_step x0 (exs_step x1 (exs_step x2 (exs_step x3 (exs_step x4 (exs_step x5 (exs_step x6 (exs_step x7 (exs_rt x8))))))))) (by simp)
theorem right_ok : RightF F20 := by
  intro l hl
  obtain ⟨E', e, L, s1, s3, s4, hL, hs, i⟩ := forI_foldI (bt := bindT (.nm 1)) (b := exs P20 CC (S.body (sat B20 0))) (g := fun (i : Nat) => D.int i) (f := fun a _ => a) (fun i (a : Unit) E => ∃ (L : List D) (s1 s3 s4 : Sl), PotOk (300 * i) L ∧ (i = 0 ∨ ∃ (m : Nat) (f : List Int), (1 ≤ m ∧ m ≤ 20) ∧ Dr f ∧ s3 = .val (.int m) ∧ s4 = .val (flD f)) ∧ E = [.own (.lst L), s1, .no, s3, s4]) (List.range 3) 0
    (fun i x hx a E ⟨L, s1, s3, s4, hL, _, hE⟩ => by
      subst hE
      have hi : i < 3 := by have := (List.getElem?_eq_some_iff.mp hx).1; simpa using this
      obtain ⟨a, L1, ha, p1, e1⟩ := tk (u := 5) (by omega) hL (by omega)
      obtain ⟨f, L2, hf, p2, e2⟩ := drawn_ok (by omega) p1
      obtain ⟨m, hm⟩ : ∃ m : Nat, (m : Int) = 1 + a := ⟨(1 + a).toNat, by omega⟩
      obtain ⟨L3, p3, e3⟩ := is_right_ok (m := m) (by omega) p2 (by omega) hf
      obtain ⟨g, L4, hg, p4, e4⟩ := drawn_ok (by omega) p3
      have e5 := merged_right_ok (m := m) (by omega) hf hg
      rw [hm] at e3 e5
      refine ⟨[.own (.lst L), .val (.int x), .no, s3, s4], [.own (.lst L4), .val (.int x), .no, .val (.int (1 + a)), .val (flD f)], by simp [], .inl ?_, L4, _, _, _, p4.mono (by omega), .inr ⟨m, f, by omega, hf, by rw [hm], rfl⟩, rfl⟩
      simp only [B20, sat, S.body, List.getD_cons_zero, List.getD_cons_succ]
      simp [e1, e2, e3, e4, e5]) () [.own (.lst l), .no, .no, .no, .no] ⟨l, _, _, _, hl, .inl rfl, rfl⟩
  subst i
  obtain ⟨m, f, hm, hf, rfl, rfl⟩ := hs.resolve_left (by simp)
  obtain ⟨L', e5⟩ := refused_ok (by simp) hL hm hf
  have lm1 := many_ok (m := 1) (by omega)
  have k : F14 [.val (.int 1), .val (.tup [.tup [.int 1, .int 1], .tup [.int 2, .int 2]]), .val (.tup [])] = .exc "BadCounters" (.tup [.tup [.int 1, .int 1], .tup [.int 2, .int 2]]) [.val (.int 1), .val (.tup [.tup [.int 1, .int 1], .tup [.int 2, .int 2]]), .val (.tup [])] := by unfold F14 B14; simp [lm1, ac2]
  have rp : reprD (.tup [.tup [.int 1, .int 1], .tup [.int 2, .int 2]]) = some "((1, 1), (2, 2))" := by decide +kernel
  have sq : eqD (.str "((1, 1), (2, 2))") (.str "((1, 1), (2, 2))") = some true := by decide +kernel
  have r3 : rngD 0 3 = (List.range 3).map fun (i : Nat) => D.int i := rng_map _
  refine ⟨[.own (.lst L')], ?_⟩
  unfold F20
  exact fn_rt (exs_step ((x_for (by simp [r3])).trans e) (exs_step (E' := [.own (.lst L), s1, .val (.exc "BadCounters" (.tup [.tup [.int 1, .int 1], .tup [.int 2, .int 2]])), .val (.int m), .val (flD f)]) (by simp [k]) (exs_step (E' := [.own (.lst L), s1, .val (.exc "BadCounters" (.tup [.tup [.int 1, .int 1], .tup [.int 2, .int 2]])), .val (.int m), .val (flD f)]) (by simp [rp, sq]) (exs_rt (by simp [e5]; rfl))))) (by simp)
theorem plain (ns : List Int) (hz : ns.length ≤ 63) : ∃ E, F23 [.val (.scr ns)] = .ok (.val (.bl true)) E :=
  law_gen (Φ := P23) (C := CC) (r := 20) (p := 21) (c := 22) (k := 3) (by decide) right_ok (pot_gen P21 CC) (cells_gen P22 CC (by decide)) ns hz
end Lw
end

set_option Elab.async false
set_option linter.all false
set_option maxRecDepth 100000
set_option maxHeartbeats 0
open PySem PySem.W PySem.Calls PyProof.Rows
theorem PySem.Challenge.cw_howeveritpasses_k94_whole_counters_of_fl_holds : PySem.Challenge.rw_howeveritpasses_k94_whole_counters_of_fl.Holds := by
  w_on; o_law
  refine HandSHeadRun.head_any (r := OpenLaw.row PySem.Challenge.rw_howeveritpasses_k94_whole_counters_of_fl) (q := view (OpenLaw.row PySem.Challenge.rw_howeveritpasses_k94_whole_counters_of_fl).prog [38])
    (H := Lw.hk) (ob := Lw.ob) (M := 3000) (loose := Lw.loose) (d := HandSHeadRun.topDef (OpenLaw.row PySem.Challenge.rw_howeveritpasses_k94_whole_counters_of_fl).prog 38) (kwd := []) Lw.ob_eq
    (by kernel_rfl) (fun s => by kernel_rfl) Lw.run (by kernel_rfl) (by kernel_rfl) (by kernel_rfl) (by rfl) (by first | assumption | decide +kernel)
    (by decide +kernel) ⟨rfl, rfl, rfl, rfl, rfl, by decide +kernel⟩ ?hw ?hc
  case hw => w_witness2
  case hc =>
    haveI : Lw.TabInfo := ⟨[], fun _ => none⟩
    refine Lw.walk_endT (l := PySem.Challenge.rw_howeveritpasses_k94_whole_counters_of_fl) (n := 63) (k := 31) (x := "script") rfl (by decide) (by kernel_rfl) ⟨rfl, by decide, by decide⟩ ?F
    intro w mg fa h Y G hmg0
    obtain ⟨K, KX, c⟩ := Y
    have hmg : mg ("law" : PySem.Str) = some (.ref fa) := by
      have e : (HandSHeadRun.topDef (OpenLaw.row PySem.Challenge.rw_howeveritpasses_k94_whole_counters_of_fl).prog 38).name = ("law" : PySem.Str) := by kernel_rfl
      rw [← e]; exact hmg0
    obtain ⟨fd, hb, hF⟩ := Lw.facts (P := (PySem.Challenge.rw_howeveritpasses_k94_whole_counters_of_fl).prog) (w := w) rfl KX G hmg c.t.d c.more
    refine ⟨K, fd, Lw.F23, Lw.tfL.map (He.cT K), Lw.tlOf K Lw.tfL, Lw.xcOf Lw.XL K, KX, hb, fun ns hl => Lw.plain ns hl, ?_, ?_, ?_, ?_, hF⟩
    · intro p hp
      obtain ⟨q, hq, rfl⟩ := List.mem_map.mp hp
      exact c.empty q hq
    · intro p hp
      obtain ⟨q, hq, rfl⟩ := List.mem_map.mp hp
      exact c.out q hq
    · intro p hp
      obtain ⟨q, hq, rfl⟩ := List.mem_map.mp hp
      exact PySem.W.codeHd_of_K KX (c.hd q hq)
    · intro p hp
      obtain ⟨q, hq, rfl⟩ := List.mem_map.mp hp
      exact List.mem_map.mpr ⟨He.cT K q, List.mem_map.mpr ⟨q, hq, rfl⟩, rfl⟩
