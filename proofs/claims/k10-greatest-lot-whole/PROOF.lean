import PyProof.Rows.All
import Wide.All
import OpenK.AllK
import Wide.FinOn
import HandS.ForMost
import HandS.Defaults
import HandS.Head0
import HandS.Head1
import HandS.Head2
import HandS.HeadEnd
import HandS.HeadHook1
import HandS.HeadHook2
import KE.KStateDown
import HandS.Zip
import HandS.Style
import HandS.IsInst
import HandS.Property
import HandS.MakeKwOnly
import HandS.Deep
import KE.DataMinMax
import HandS.SortInts
import HandS.TupSets
import KE.GoesEnum
import HandS.SetFor
import HandS.Strs
import KE.DatumOrd
import KE.KOpsOwn
import HandS.SortOrd
import PySem.Challenge.RW_pegstreet_k10_greatest_lot_whole
set_option Elab.async false
set_option linter.all false
set_option maxRecDepth 100000
set_option maxHeartbeats 4100000
/-! the head: what the top leaves, found by names -/
namespace TL
open PySem PySem.Spec PyProof.Rows L2
def top (i : Nat) : Stmt := PySem.Challenge.pw_pegstreet_k10_greatest_lot_whole.main.body.getD i (.Pass ⟨0, 0, 0, 0⟩)
def inC (i j : Nat) : Stmt := inClass (top i) j
def dG (x : Str) (i : Nat) : He.DefD := ⟨(x, none), x, x, defArgs (top i), defBody (top i), defScope (top i), [], []⟩
def dM (C m qual : Str) (i j : Nat) : He.DefD := ⟨(C, some m), m, qual, defArgs (inC i j), defBody (inC i j), defScope (inC i j), [], []⟩
/-- Standing's __init__, with its keyword-only default -/
def dI : He.DefD := ⟨("Standing", some "__init__"), "__init__", "Standing.__init__", defArgs (inC 34 0), defBody (inC 34 0), defScope (inC 34 0), [], [("sure", .bl false)]⟩
def fnL0 : List He.DefD := [dG "frozen" 2, dG "is_number" 3, dG "ascending" 4, dG "homeward" 6, dG "stays_held" 7, dG "held_houses" 8, dG "is_stuck" 9, dG "waiting" 10, dG "greatest_lot" 11, dG "after" 13, dG "returns" 14, dG "check_pegs" 26, dG "check_lanes" 27, dG "is_way" 29, dG "checked_ways" 31, dG "hanging" 32, dG "check_loads" 33, dG "is_reason" 36, dG "is_taking_out" 37, dG "least_reason" 38, dG "next_pair" 39, dG "taking_out" 40, dG "_law_whole" 42, dG "_law_same" 43, dG "_law_cell" 44, dG "_law_digits" 45, dG "_law_partners" 46, dG "_law_spur" 47, dG "_law_town" 48, dG "_law_way_to" 49]
def fnL1 : List He.DefD := [dG "_law_load" 50, dG "_law_crowd" 51, dG "_law_build" 52, dG "_law_can_back" 53, dG "_law_can_lend" 54, dG "_law_done" 55, dG "_law_deed" 56, dG "_law_needs" 57, dG "_law_is_stuck" 58, dG "_law_greatest" 59, dG "_law_closure" 60, dG "_law_waiting" 61, dG "_law_waits" 62, dG "_law_next_out" 63, dG "_law_moment" 64, dG "_law_held" 65, dG "law" 66, dM "Street" "__init__" "Street.__init__" 28 1, dI, dM "Standing" "is_full" "Standing.is_full" 34 10, dM "Standing" "wanted" "Standing.wanted" 34 6, dM "Standing" "can_return" "Standing.can_return" 34 13, dM "Standing" "given_back" "Standing.given_back" 34 14, dM "Standing" "lent" "Standing.lent" 34 15, dM "Standing" "after_lending" "Standing.after_lending" 34 17, dM "Standing" "after_return" "Standing.after_return" 34 18, dM "Standing" "__rshift__" "Standing.__rshift__" 34 19, dM "Standing" "__len__" "Standing.__len__" 34 20]
def fnL : List He.DefD := fnL0 ++ (fnL1)
def faL0 : List He.Fa := [.glo "frozen", .glo "is_number", .glo "ascending", .glo "homeward", .glo "stays_held", .glo "held_houses", .glo "is_stuck", .glo "waiting", .glo "greatest_lot", .glo "after", .glo "returns", .glo "check_pegs", .glo "check_lanes", .glo "is_way", .glo "checked_ways", .glo "hanging", .glo "check_loads", .glo "is_reason", .glo "is_taking_out", .glo "least_reason", .glo "next_pair", .glo "taking_out", .glo "_law_whole", .glo "_law_same", .glo "_law_cell", .glo "_law_digits", .glo "_law_partners", .glo "_law_spur", .glo "_law_town", .glo "_law_way_to"]
def faL1 : List He.Fa := [.glo "_law_load", .glo "_law_crowd", .glo "_law_build", .glo "_law_can_back", .glo "_law_can_lend", .glo "_law_done", .glo "_law_deed", .glo "_law_needs", .glo "_law_is_stuck", .glo "_law_greatest", .glo "_law_closure", .glo "_law_waiting", .glo "_law_waits", .glo "_law_next_out", .glo "_law_moment", .glo "_law_held", .glo "law", .free "len", .free "range", .free "tuple", .free "list", .free "isinstance", .free "int", .free "bool", .free "str", .free "min", .free "max", .free "sum", .free "all", .free "any"]
def faL2 : List He.Fa := [.free "sorted", .free "set", .free "enumerate", .free "zip", .glo "Street", .glo "Standing", .cls "Street", .cls "Standing", .mkr "Street", .mkr "Standing", .noat "Street" "pegs", .noat "Street" "lanes", .noat "Street" "to_lists", .noat "Street" "from_lists", .noat "Standing" "street", .noat "Standing" "ways", .noat "Standing" "hung", .noat "Standing" "wants", .meth "Standing" "is_full", .meth "Standing" "wanted", .meth "Standing" "can_return", .meth "Standing" "given_back", .meth "Standing" "lent", .meth "Standing" "after_lending", .meth "Standing" "after_return", .meth "Standing" "__rshift__", .meth "Standing" "__len__"]
def faL : List He.Fa := faL0 ++ (faL1 ++ (faL2))
def looseL0 : List Str := ["_wall", "frozen", "is_number", "ascending", "homeward", "stays_held", "held_houses", "is_stuck", "waiting", "greatest_lot", "after", "returns", "StreetError", "BadPegs", "BadLane", "BadWay", "TooMany", "UnknownTool", "NoLane", "NoPeg", "AtHome", "check_pegs", "check_lanes", "Street", "is_way", "checked_ways", "hanging", "check_loads", "Standing", "is_reason"]
def looseL1 : List Str := ["is_taking_out", "least_reason", "next_pair", "taking_out", "_law_whole", "_law_same", "_law_cell", "_law_digits", "_law_partners", "_law_spur", "_law_town", "_law_way_to", "_law_load", "_law_crowd", "_law_build", "_law_can_back", "_law_can_lend", "_law_done", "_law_deed", "_law_needs", "_law_is_stuck", "_law_greatest", "_law_closure", "_law_waiting", "_law_waits", "_law_next_out", "_law_moment", "_law_held"]
def looseL : List Str := looseL0 ++ (looseL1)

/-! ### the property Street.houses -/
def hsP (K : PySem.W.Frag) : Addr := match PySem.W.findIn K (.ref (He.ga K "Street")) "houses" with
  | some (some (.ref p)) => p
  | _ => 0
def hsG (K : PySem.W.Frag) : Addr := match PySem.W.recIn K (hsP K) "property" with
  | some (.ref g :: _) => g
  | _ => 0
def hsHead (K : PySem.W.Frag) : Bool := match PySem.W.recIn K (hsP K) "property" with
  | some (.ref g :: _) => decide (g = hsG K)
  | _ => false
def hsFn (K : PySem.W.Frag) : He.FnW := match K.lookup (hsG K) with
  | some ⟨_, _, .func fd, _⟩ => some (fd.name, fd.qualname, fd.params, fd.body, fd.scope, fd.globals, fd.closure, fd.builtins)
  | _ => none
def hsCode (K : PySem.W.Frag) : Bool := match K.lookup (hsG K) with
  | some ⟨_, _, .func fd, _⟩ => PySem.W.codeIn K fd.code "Street.houses" && (He.dflB K fd.defaults [] && He.kwdB K fd.kwdefaults [])
  | _ => false
def more (K : PySem.W.Frag) : Bool := He.eqO (PySem.W.findIn K (.ref (He.ga K "Street")) "houses") (some (some (.ref (hsP K)))) && (He.eqO (PySem.W.specialIn K (.ref (hsP K)) "__get__") (some (some (.builtin "property.__get__"))) &&
  (decide (PySem.W.takesIn K (.ref (hsP K)) = some true) && (hsHead K && (hsCode K && (PySem.W.keepIn K (.ref (hsG K)) && PySem.W.selfFirst K (He.ga K "Standing"))))))
def hsVal : He.FnW := some ("houses", "Street.houses", defArgs (inC 28 2), .stmts (defBody (inC 28 2)), defScope (inC 28 2), mainGlobals, [], builtinsNs)
abbrev AlP : Type := He.AlD × Bool × He.FnW
def obsP (K : PySem.W.Frag) : AlP := (He.obsD faL fnL K, more K, hsFn K)
def valP : AlP := (He.valD fnL, true, hsVal)
/-- what an object leads to: a def's code and keyword defaults, a class's names, a dict's values, a property's getter -/
def kin (o : Obj) : List Addr := match o.data with
  | .func fd => He.refV fd.code ++ He.refV fd.kwdefaults
  | .cls cd => [cd.ns]
  | .dict es _ => es.toList.flatMap fun e => He.refV e.val
  | .fields vs => (match o.cls == .type "property" with
    | true => vs.toList.flatMap He.refV
    | false => [])
  | _ => []
def lev (g : Addr → Option Obj) : Nat → List Addr → List Addr
  | 0, as => as
  | n + 1, as => as ++ lev g n (as.flatMap fun a => match g a with
    | some o => kin o
    | none => [])
def obsG (n : Nat) (g : Addr → Option Obj) : AlP := obsP (He.frG g (lev g n [mainGlobals]))
def hk : PySem.W.Hook where
  α := AlP
  obs := fun s => obsG 6 s.heap.get?
  val := fun _ => valP
  says := fun _ h => ∃ K : PySem.W.Frag, K.In h ∧ obsP K = valP
  of := fun _ _ e => ⟨_, He.frG_in, e⟩
  keeps := fun _ _ _ ⟨K, hK, c⟩ k => ⟨K, PySem.W.Frag.In.keeps hK k, c⟩
def obT (s : PySem.W.SharedT) : AlP := obsG 6 (HandSHeadRun.getT s)
theorem obT_eq (s : PySem.W.SharedT) : obT s = hk.obs s.abs := congrArg (obsG 6) (funext (HandSHeadRun.getT_eq s))
abbrev RR : PySem.W.OpenRow := PySem.W.OpenLaw.row PySem.Challenge.rw_pegstreet_k10_greatest_lot_whole
abbrev qv : Program := PySem.W.view RR.prog [66]
set_option maxHeartbeats 0 in
theorem run (w : World) : HandSHeadRun.RunEq RR qv hk obT 6000 looseL w := by
  intro os
  kernel_rfl
end TL

/-! TL: judgements over whole values (trees), the heap hidden. -/
namespace TL
open PySem L2

/-- a whole value -/
inductive T where
  | non | bl (b : Bool) | int (i : Int) | str (x : Str)
  | tup (ts : List T) | lst (ts : List T)
  | ins (C : Addr) (ns : List Str) (ts : List T)
  | rng (lo hi : Int)
  | ty (n : String)

mutual
def Rep (K : PySem.W.Frag) (H : Hp) : T → V → Prop
  | .non, v => v = .non
  | .bl b, v => v = .bl b
  | .int i, v => v = .int i
  | .str x, v => v = .str x
  | .ty n, v => v = .ty n
  | .tup ts, v => ∃ a vs, v = .ref a ∧ H a = some (.tup vs) ∧ Reps K H ts vs
  | .lst ts, v => ∃ a vs, v = .ref a ∧ H a = some (.lst vs) ∧ Reps K H ts vs
  | .ins C ns ts, v => ∃ a dx vs, v = .ref a ∧ H a = some (.ins C dx (ns.zip vs)) ∧ Reps K H ts vs
  | .rng lo hi, v => ∃ a, v = .ref a ∧ H a = some (.rng lo hi)
def Reps (K : PySem.W.Frag) (H : Hp) : List T → List V → Prop
  | [], vs => vs = []
  | t :: ts, vs => ∃ v r, vs = v :: r ∧ Rep K H t v ∧ Reps K H ts r
end

section
variable {K : PySem.W.Frag} {H H' M M' : Hp}
mutual
theorem Rep.mono (e : Same H H') : ∀ {t : T} {v : V}, Rep K H t v → Rep K H' t v
  | .non, _, h => h
  | .bl _, _, h => h
  | .int _, _, h => h
  | .str _, _, h => h
  | .ty _, _, h => h
  | .tup _, _, ⟨a, vs, h1, h2, h3⟩ => ⟨a, vs, h1, e _ _ h2, Reps.mono e h3⟩
  | .lst _, _, ⟨a, vs, h1, h2, h3⟩ => ⟨a, vs, h1, e _ _ h2, Reps.mono e h3⟩
  | .ins _ _ _, _, ⟨a, dx, vs, h1, h2, h3⟩ => ⟨a, dx, vs, h1, e _ _ h2, Reps.mono e h3⟩
  | .rng _ _, _, ⟨a, h1, h2⟩ => ⟨a, h1, e _ _ h2⟩
theorem Reps.mono (e : Same H H') : ∀ {ts : List T} {vs : List V}, Reps K H ts vs → Reps K H' ts vs
  | [], _, h => h
  | _ :: _, _, ⟨v, r, h1, h2, h3⟩ => ⟨v, r, h1, Rep.mono e h2, Reps.mono e h3⟩
end
theorem Reps.len : ∀ {ts : List T} {vs : List V}, Reps K H ts vs → ts.length = vs.length
  | [], _, h => by cases h; rfl
  | _ :: _, _, ⟨v, r, h1, h2, h3⟩ => by subst h1; simp [Reps.len h3]
theorem Reps.get : ∀ {ts : List T} {vs : List V} {i : Nat} {t : T}, Reps K H ts vs → ts[i]? = some t → ∃ v, vs[i]? = some v ∧ Rep K H t v
  | _ :: _, _, 0, t, ⟨v, r, h1, h2, h3⟩, e => by
    subst h1
    simp at e; subst e
    exact ⟨v, rfl, h2⟩
  | _ :: _, _, i + 1, t, ⟨v, r, h1, h2, h3⟩, e => by
    subst h1
    obtain ⟨w, a, b⟩ := Reps.get (i := i) (t := t) h3 (by simpa using e)
    exact ⟨w, by simpa using a, b⟩
theorem Reps.back : ∀ {ts : List T} {vs : List V} {i : Nat} {v : V}, Reps K H ts vs → vs[i]? = some v → ∃ t, ts[i]? = some t ∧ Rep K H t v := by
  intro ts vs i v h e
  have hl := h.len
  have hi : i < ts.length := by rw [hl]; exact (List.getElem?_eq_some_iff.mp e).1
  obtain ⟨w, a, b⟩ := h.get (List.getElem?_eq_getElem hi)
  rw [e] at a; cases a
  exact ⟨_, List.getElem?_eq_getElem hi, b⟩
theorem Reps.append : ∀ {ts us : List T} {vs ws : List V}, Reps K H ts vs → Reps K H us ws → Reps K H (ts ++ us) (vs ++ ws)
  | [], _, _, _, h, h' => by cases h; exact h'
  | _ :: _, _, _, _, ⟨v, r, h1, h2, h3⟩, h' => by subst h1; exact ⟨v, r ++ _, rfl, h2, Reps.append h3 h'⟩
theorem Reps.one {t : T} {v : V} (h : Rep K H t v) : Reps K H [t] [v] := ⟨v, [], rfl, h, rfl⟩
theorem Reps.take : ∀ {ts : List T} {vs : List V} (n : Nat), Reps K H ts vs → Reps K H (ts.take n) (vs.take n)
  | _, _, 0, _ => rfl
  | [], _, n + 1, h => by cases h; rfl
  | _ :: _, _, n + 1, ⟨v, r, h1, h2, h3⟩ => by subst h1; exact ⟨v, _, rfl, h2, Reps.take n h3⟩
theorem Reps.drop : ∀ {ts : List T} {vs : List V} (n : Nat), Reps K H ts vs → Reps K H (ts.drop n) (vs.drop n)
  | _, _, 0, h => h
  | [], _, n + 1, h => by cases h; rfl
  | _ :: _, _, n + 1, ⟨v, r, h1, h2, h3⟩ => by subst h1; exact Reps.drop n h3
theorem Reps.set {t : T} {v : V} (q : Rep K H t v) : ∀ {ts : List T} {vs : List V} (i : Nat), Reps K H ts vs → Reps K H (ts.set i t) (vs.set i v)
  | [], _, _, h => by cases h; rfl
  | _ :: _, _, 0, ⟨w, r, h1, h2, h3⟩ => by subst h1; exact ⟨v, r, rfl, q, h3⟩
  | _ :: _, _, i + 1, ⟨w, r, h1, h2, h3⟩ => by subst h1; exact ⟨w, _, rfl, h2, Reps.set q i h3⟩
theorem Reps.inv_cons {t : T} {ts : List T} {vs : List V} (h : Reps K H (t :: ts) vs) : ∃ v r, vs = v :: r ∧ Rep K H t v ∧ Reps K H ts r := h

/-- the world grows: M what is known to stand for ever, H all that stands -/
structure Ext (M H M' H' : Hp) : Prop where
  m : Same M M'
  h : Same H H'
  s : Same M' H'
  n : ∀ p o, H p = some o → M p = none → M' p = none
theorem Ext.refl (s : Same M H) : Ext M H M H := ⟨Same.refl _, Same.refl _, s, fun _ _ _ h => h⟩
theorem Ext.trans {M1 H1 M2 H2 : Hp} (a : Ext M H M1 H1) (b : Ext M1 H1 M2 H2) : Ext M H M2 H2 :=
  ⟨a.m.trans b.m, a.h.trans b.h, b.s, fun p o h1 h2 => b.n p o (a.h p o h1) (a.n p o h1 h2)⟩
theorem sNew {p : Addr} {o : HO} (h : H p = none) : Same H (upd H p o) := fun a u e => by
  rw [upd_ne (ne_of_none e h)]; exact e
theorem sUpds {M H : Hp} {p : Addr} {o : HO} (s : Same M H) : Same (upd M p o) (upd H p o) := fun a u e => by
  by_cases q : a = p
  · subst q; rw [upd_same] at e ⊢; exact e
  · rw [upd_ne q] at e ⊢; exact s a u e
/-- a new object that will stand for ever -/
theorem Ext.new {p : Addr} {o : HO} (s : Same M H) (h : H p = none) : Ext M H (upd M p o) (upd H p o) := by
  have hm : M p = none := s.free h
  refine ⟨sNew hm, sNew h, sUpds s, fun q u e n => ?_⟩
  rw [upd_ne (ne_of_none e h)]; exact n
/-- a new object of one's own -/
theorem Ext.own {p : Addr} {o : HO} (s : Same M H) (h : H p = none) : Ext M H M (upd H p o) := 
  ⟨Same.refl _, sNew h, fun a u e => sNew h a u (s a u e), fun _ _ _ n => n⟩
/-- what was one's own is let go -/
theorem Ext.give {M1 H1 : Hp} {p : Addr} {o : HO} (e : Ext M H M1 H1) (h : H p = none) (q : H1 p = some o) (n : M1 p = none) : Ext M H (upd M1 p o) H1 := by
  refine ⟨fun a u z => sNew n a u (e.m a u z), e.h, fun a u z => ?_, fun a u z w => ?_⟩
  · by_cases c : a = p
    · subst c; rw [upd_same] at z; cases z; exact q
    · rw [upd_ne c] at z; exact e.s a u z
  · rw [upd_ne (ne_of_none z h)]; exact e.n a u z w
end

/-- what a slot holds: a value that stands for ever; a list to be read; a list of one's own; an instance being made -/
inductive Sl where
  | im (t : T) | ro (ts : List T) | ow (ts : List T) | oi (p C : Addr) (ns : List Str) (ts : List T)
def Sl.own : Sl → Bool
  | .ow _ => true
  | .oi _ _ _ _ => true
  | _ => false
abbrev Rho := List (Option Sl)

def SlOk (K : PySem.W.Frag) (H0 M H : Hp) : Sl → V → Prop
  | .im t, v => Rep K M t v
  | .ro ts, v => ∃ p vs, v = .ref p ∧ SqL K H0 p vs ∧ Reps K M ts vs
  | .ow ts, v => ∃ p vs, v = .ref p ∧ M p = none ∧ H p = some (.lst vs) ∧ Reps K M ts vs
  | .oi p C ns ts, v => ∃ dx vs, v = .ref p ∧ M p = none ∧ H p = some (.ins C dx (ns.zip vs)) ∧ ns.length = vs.length ∧ Reps K M ts vs
section
variable {K : PySem.W.Frag} {H0 M H M' H' : Hp}
theorem SlOk.ext (e : Ext M H M' H') : ∀ {s : Sl} {v : V}, SlOk K H0 M H s v → SlOk K H0 M' H' s v
  | .im _, _, h => Rep.mono e.m h
  | .ro _, _, ⟨p, vs, h1, h2, h3⟩ => ⟨p, vs, h1, h2, Reps.mono e.m h3⟩
  | .ow _, _, ⟨p, vs, h1, h2, h3, h4⟩ => ⟨p, vs, h1, e.n _ _ h3 h2, e.h _ _ h3, Reps.mono e.m h4⟩
  | .oi _ _ _ _, _, ⟨dx, vs, h1, h2, h3, h5, h4⟩ => ⟨dx, vs, h1, e.n _ _ h3 h2, e.h _ _ h3, h5, Reps.mono e.m h4⟩
end

/-- the state of a def: M0, H0 its entry -/
structure Wd (K : PySem.W.Frag) (M0 H0 : Hp) (r : Rho) (σ : L2.St) (M H : Hp) : Prop where
  ext : Ext M0 H0 M H
  len : r.length = σ.length
  at_ : ∀ (i : Nat) (s : Sl), r[i]? = some (some s) → ∃ v, σ[i]? = some (some v) ∧ SlOk K H0 M H s v
  own : ∀ (i : Nat) (s : Sl) (p : Addr), r[i]? = some (some s) → s.own = true → σ[i]? = some (some (.ref p)) → H0 p = none
  sep : ∀ (i j : Nat) (s t : Sl) (p : Addr), i ≠ j → r[i]? = some (some s) → s.own = true → r[j]? = some (some t) → t.own = true → σ[i]? = some (some (.ref p)) → σ[j]? = some (some (.ref p)) → False
section
variable {K : PySem.W.Frag} {M0 H0 M H M' H' : Hp} {r : Rho} {σ : L2.St}
theorem Wd.s (w : Wd K M0 H0 r σ M H) : Same M H := w.ext.s
theorem Wd.up (w : Wd K M0 H0 r σ M H) (e : Ext M H M' H') : Wd K M0 H0 r σ M' H' :=
  ⟨w.ext.trans e, w.len, fun i s h => let ⟨v, a, b⟩ := w.at_ i s h; ⟨v, a, b.ext e⟩, w.own, w.sep⟩
/-- the entry moved to where one stands -/
theorem Wd.rebase (w : Wd K M0 H0 r σ M H) : Wd K M H0 r σ M H :=
  ⟨⟨Same.refl _, w.ext.h, w.ext.s, fun _ _ _ h => h⟩, w.len, w.at_, w.own, w.sep⟩
theorem Ext.unbase {M1 H1 : Hp} (a : Ext M0 H0 M H) (b : Ext M H0 M1 H1) : Ext M0 H0 M1 H1 :=
  ⟨a.m.trans b.m, b.h, b.s, fun p o h1 h2 => b.n p o h1 (a.n p o h1 h2)⟩
theorem Wd.unbase {M1 H1 : Hp} {r' : Rho} {σ' : L2.St} (a : Ext M0 H0 M H) (w : Wd K M H0 r' σ' M1 H1) : Wd K M0 H0 r' σ' M1 H1 :=
  ⟨a.unbase w.ext, w.len, w.at_, w.own, w.sep⟩
theorem getSet {α : Type} {l : List α} {i j : Nat} {x y : α} (h : (l.set i x)[j]? = some y) : (j = i ∧ y = x) ∨ (j ≠ i ∧ l[j]? = some y) := by
  by_cases e : j = i
  · subst e
    by_cases hl : j < l.length
    · rw [List.getElem?_set_self hl] at h; exact .inl ⟨rfl, (Option.some.inj h).symm⟩
    · rw [List.getElem?_eq_none (by simpa using hl)] at h; cases h
  · rw [List.getElem?_set_ne (Ne.symm e)] at h; exact .inr ⟨e, h⟩
/-- a slot gets a value that stands for ever -/
theorem Wd.set (w : Wd K M0 H0 r σ M H) {i : Nat} {t : T} {v : V} (q : Rep K M t v) : Wd K M0 H0 (r.set i (some (.im t))) (σ.set i (some v)) M H := by
  refine ⟨w.ext, by rw [List.length_set, List.length_set]; exact w.len, fun j s h => ?_, fun j s p h1 h2 h3 => ?_, fun j k s t' p hne h1 h2 h3 h4 h5 h6 => ?_⟩
  · rcases getSet h with ⟨rfl, e⟩ | ⟨hn, e⟩
    · cases e
      have hl : j < σ.length := by
        have := (List.getElem?_eq_some_iff.mp h).1
        rw [List.length_set] at this
        rw [← w.len]; exact this
      exact ⟨v, List.getElem?_set_self hl, q⟩
    · obtain ⟨u, a, b⟩ := w.at_ j s e
      exact ⟨u, by rw [List.getElem?_set_ne (Ne.symm hn)]; exact a, b⟩
  · rcases getSet h1 with ⟨rfl, e⟩ | ⟨hn, e⟩
    · cases e; cases h2
    · rw [List.getElem?_set_ne (Ne.symm hn)] at h3
      exact w.own j s p e h2 h3
  · rcases getSet h1 with ⟨rfl, e⟩ | ⟨hn, e⟩
    · cases e; cases h2
    · rcases getSet h3 with ⟨rfl, e'⟩ | ⟨hn', e'⟩
      · cases e'; cases h4
      · rw [List.getElem?_set_ne (Ne.symm hn)] at h5
        rw [List.getElem?_set_ne (Ne.symm hn')] at h6
        exact w.sep j k s t' p hne e h2 e' h4 h5 h6
/-- a slot is forgotten -/
theorem Wd.drop (w : Wd K M0 H0 r σ M H) {i : Nat} {o : Option V} : Wd K M0 H0 (r.set i none) (σ.set i o) M H := by
  refine ⟨w.ext, by rw [List.length_set, List.length_set]; exact w.len, fun j s h => ?_, fun j s p h1 h2 h3 => ?_, fun j k s t' p hne h1 h2 h3 h4 h5 h6 => ?_⟩
  · rcases getSet h with ⟨rfl, e⟩ | ⟨hn, e⟩
    · cases e
    · obtain ⟨u, a, b⟩ := w.at_ j s e
      exact ⟨u, by rw [List.getElem?_set_ne (Ne.symm hn)]; exact a, b⟩
  · rcases getSet h1 with ⟨rfl, e⟩ | ⟨hn, e⟩
    · cases e
    · rw [List.getElem?_set_ne (Ne.symm hn)] at h3
      exact w.own j s p e h2 h3
  · rcases getSet h1 with ⟨rfl, e⟩ | ⟨hn, e⟩
    · cases e
    · rcases getSet h3 with ⟨rfl, e'⟩ | ⟨hn', e'⟩
      · cases e'
      · rw [List.getElem?_set_ne (Ne.symm hn)] at h5
        rw [List.getElem?_set_ne (Ne.symm hn')] at h6
        exact w.sep j k s t' p hne e h2 e' h4 h5 h6
/-- a slot gets a new list of one's own -/
theorem Wd.setOw (w : Wd K M0 H0 r σ M H) {i : Nat} {ts : List T} {p : Addr} {vs : List V} (hp : H0 p = none) (hm : M p = none) (hh : H p = some (.lst vs)) (q : Reps K M ts vs)
    (ne : ∀ (j : Nat) (s : Sl), j ≠ i → r[j]? = some (some s) → s.own = true → σ[j]? = some (some (.ref p)) → False) : Wd K M0 H0 (r.set i (some (.ow ts))) (σ.set i (some (.ref p))) M H := by
  refine ⟨w.ext, by rw [List.length_set, List.length_set]; exact w.len, fun j s h => ?_, fun j s p' h1 h2 h3 => ?_, fun j k s t' p' hne h1 h2 h3 h4 h5 h6 => ?_⟩
  · rcases getSet h with ⟨rfl, e⟩ | ⟨hn, e⟩
    · cases e
      have hl : j < σ.length := by
        have := (List.getElem?_eq_some_iff.mp h).1
        rw [List.length_set] at this
        rw [← w.len]; exact this
      exact ⟨_, List.getElem?_set_self hl, p, vs, rfl, hm, hh, q⟩
    · obtain ⟨u, a, b⟩ := w.at_ j s e
      exact ⟨u, by rw [List.getElem?_set_ne (Ne.symm hn)]; exact a, b⟩
  · rcases getSet h1 with ⟨rfl, e⟩ | ⟨hn, e⟩
    · have hl : j < σ.length := by
        have := (List.getElem?_eq_some_iff.mp h1).1
        rw [List.length_set] at this
        rw [← w.len]; exact this
      rw [List.getElem?_set_self hl] at h3
      cases h3; exact hp
    · rw [List.getElem?_set_ne (Ne.symm hn)] at h3
      exact w.own j s p' e h2 h3
  · have hl : ∀ {a}, (∃ s, (r.set i (some (.ow ts)))[a]? = some (some s)) → a < σ.length := fun {a} ⟨s, z⟩ => by
      have := (List.getElem?_eq_some_iff.mp z).1
      rw [List.length_set] at this
      rw [← w.len]; exact this
    rcases getSet h1 with ⟨rfl, e⟩ | ⟨hn, e⟩
    · rw [List.getElem?_set_self (hl ⟨_, h1⟩)] at h5
      cases h5
      rcases getSet h3 with ⟨rfl, e'⟩ | ⟨hn', e'⟩
      · exact hne rfl
      · rw [List.getElem?_set_ne (Ne.symm hn')] at h6
        exact ne k t' hn' e' h4 h6
    · rw [List.getElem?_set_ne (Ne.symm hn)] at h5
      rcases getSet h3 with ⟨rfl, e'⟩ | ⟨hn', e'⟩
      · rw [List.getElem?_set_self (hl ⟨_, h3⟩)] at h6
        cases h6
        exact ne j s hn e h2 h5
      · rw [List.getElem?_set_ne (Ne.symm hn')] at h6
        exact w.sep j k s t' p' hne e h2 e' h4 h5 h6
/-- a list of one's own changes -/
theorem Wd.mut (w : Wd K M0 H0 r σ M H) {i : Nat} {s0 s1 : Sl} {p : Addr} {o : HO} (h1 : r[i]? = some (some s0)) (h2 : s0.own = true) (h3 : σ[i]? = some (some (.ref p))) (h4 : M p = none) (h5 : s1.own = true) (h6 : SlOk K H0 M (upd H p o) s1 (.ref p)) :
    Wd K M0 H0 (r.set i (some s1)) σ M (upd H p o) := by
  have hp : H0 p = none := w.own i s0 p h1 h2 h3
  have keepM : Same M (upd H p o) := fun a u z => by
    rw [upd_ne (ne_of_none z h4)]; exact w.ext.s a u z
  refine ⟨⟨w.ext.m, fun a u z => ?_, keepM, w.ext.n⟩, by rw [List.length_set]; exact w.len, fun j s h => ?_, fun j s q g1 g2 g3 => ?_, fun j k s t' q hne g1 g2 g3 g4 g5 g6 => ?_⟩
  · rw [upd_ne (ne_of_none z hp)]; exact w.ext.h a u z
  · rcases getSet h with ⟨rfl, e⟩ | ⟨hn, e⟩
    · cases e
      exact ⟨_, h3, h6⟩
    · obtain ⟨v, a, b⟩ := w.at_ j s e
      refine ⟨v, a, ?_⟩
      cases s with
      | im t => exact b
      | ro ts => exact b
      | ow ts =>
        obtain ⟨q, vs, rfl, b1, b2, b3⟩ := b
        have hq : q ≠ p := fun z => by subst z; exact w.sep i j s0 _ q (Ne.symm hn) h1 h2 e rfl h3 a
        exact ⟨q, vs, rfl, b1, by rw [upd_ne hq]; exact b2, b3⟩
      | oi q C ns ts =>
        obtain ⟨dx, vs, rfl, b1, b2, b3⟩ := b
        have hq : q ≠ p := fun z => by subst z; exact w.sep i j s0 _ q (Ne.symm hn) h1 h2 e rfl h3 a
        exact ⟨dx, vs, rfl, b1, by rw [upd_ne hq]; exact b2, b3⟩
  · rcases getSet g1 with ⟨rfl, e⟩ | ⟨hn, e⟩
    · cases e
      exact w.own j s0 q h1 h2 g3
    · exact w.own j s q e g2 g3
  · rcases getSet g1 with ⟨rfl, e⟩ | ⟨hn, e⟩
    · rcases getSet g3 with ⟨rfl, e'⟩ | ⟨hn', e'⟩
      · exact hne rfl
      · exact w.sep j k s0 t' q hne h1 h2 e' g4 g5 g6
    · rcases getSet g3 with ⟨rfl, e'⟩ | ⟨hn', e'⟩
      · exact w.sep j k s s0 q hne e g2 h1 h2 g5 g6
      · exact w.sep j k s t' q hne e g2 e' g4 g5 g6
/-- a list of one's own is let go -/
theorem Wd.give (w : Wd K M0 H0 r σ M H) {i : Nat} {ts : List T} (h : r[i]? = some (some (.ow ts))) : ∃ M', Same M M' ∧ Wd K M0 H0 (r.set i (some (.im (.lst ts)))) σ M' H := by
  obtain ⟨v, a, p, vs, rfl, h2, h3, h4⟩ := w.at_ i _ h
  have hp : H0 p = none := w.own i _ p h rfl a
  have sm : Same M (upd M p (.lst vs)) := sNew h2
  refine ⟨upd M p (.lst vs), sm, w.ext.give hp h3 h2, by rw [List.length_set]; exact w.len, fun j s g => ?_, fun j s q g1 g2 g3 => ?_, fun j k s t' q hne g1 g2 g3 g4 g5 g6 => ?_⟩
  · rcases getSet g with ⟨rfl, e⟩ | ⟨hn, e⟩
    · cases e
      exact ⟨_, a, p, vs, rfl, upd_same, Reps.mono sm h4⟩
    · obtain ⟨v, a', b⟩ := w.at_ j s e
      refine ⟨v, a', ?_⟩
      cases s with
      | im t => exact Rep.mono sm b
      | ro us =>
        obtain ⟨q, ws, b0, b1, b2⟩ := b
        exact ⟨q, ws, b0, b1, Reps.mono sm b2⟩
      | ow us =>
        obtain ⟨q, ws, rfl, b1, b2, b3⟩ := b
        have hq : q ≠ p := fun z => by subst z; exact w.sep i j _ _ q (Ne.symm hn) h rfl e rfl a a'
        exact ⟨q, ws, rfl, by rw [upd_ne hq]; exact b1, b2, Reps.mono sm b3⟩
      | oi q C ns us =>
        obtain ⟨dx, ws, rfl, b1, b2, b4, b3⟩ := b
        have hq : q ≠ p := fun z => by subst z; exact w.sep i j _ _ q (Ne.symm hn) h rfl e rfl a a'
        exact ⟨dx, ws, rfl, by rw [upd_ne hq]; exact b1, b2, b4, Reps.mono sm b3⟩
  · rcases getSet g1 with ⟨rfl, e⟩ | ⟨hn, e⟩
    · cases e; cases g2
    · exact w.own j s q e g2 g3
  · rcases getSet g1 with ⟨rfl, e⟩ | ⟨hn, e⟩
    · cases e; cases g2
    · rcases getSet g3 with ⟨rfl, e'⟩ | ⟨hn', e'⟩
      · cases e'; cases g4
      · exact w.sep j k s t' q hne e g2 e' g4 g5 g6
end
end TL

/-! TL, part b: expressions. -/
namespace TL
open PySem L2 PySem.Spec PyProof.Rows

/-! ### the judgements -/
def tE (K : PySem.W.Frag) (M0 H0 : Hp) (r : Rho) (t : T) : TE := fun σ H Q => ∃ M, Wd K M0 H0 r σ M H ∧ ∀ v M' H', Ext M H M' H' → Rep K M' t v → Q v H'
/-- a value of which P is known -/
def tP (K : PySem.W.Frag) (M0 H0 : Hp) (r : Rho) (P : T → Prop) : TE := fun σ H Q => ∃ M, Wd K M0 H0 r σ M H ∧ ∀ t v M' H', P t → Ext M H M' H' → Rep K M' t v → Q v H'
/-- a list or tuple to be read -/
def SeqO (K : PySem.W.Frag) (M H : Hp) (ts : List T) (v : V) : Prop := ∃ p vs, v = .ref p ∧ (SqL K H p vs ∨ SqT K H p vs) ∧ Reps K M ts vs
def tQ (K : PySem.W.Frag) (M0 H0 : Hp) (r : Rho) (ts : List T) : TE := fun σ H Q => ∃ M, Wd K M0 H0 r σ M H ∧ ∀ v M' H', Ext M H M' H' → SeqO K M' H' ts v → Q v H'
/-- a list to be read -/
def tO (K : PySem.W.Frag) (M0 H0 : Hp) (r : Rho) (ts : List T) : TE := fun σ H Q => ∃ M, Wd K M0 H0 r σ M H ∧ ∀ p vs M' H', Ext M H M' H' → SqL K H' p vs → Reps K M' ts vs → Q (.ref p) H'
/-- a new list -/
def tL (K : PySem.W.Frag) (M0 H0 : Hp) (r : Rho) (ts : List T) : TE := fun σ H Q => ∃ M, Wd K M0 H0 r σ M H ∧ ∀ p vs M' H', Ext M H M' H' → H p = none → M' p = none → H' p = some (.lst vs) → Reps K M' ts vs → Q (.ref p) H'
def tT (K : PySem.W.Frag) (M0 H0 : Hp) (r : Rho) (b : Bool) : TT := fun σ H Q => ∃ M, Wd K M0 H0 r σ M H ∧ ∀ M' H', Ext M H M' H' → Q b H'
/-- an argument: a value for ever, or a list to be read -/
def ArgOk (K : PySem.W.Frag) (M H : Hp) (s : Sl) (v : V) : Prop := SlOk K H M H s v
inductive ArgsOk (K : PySem.W.Frag) (M H : Hp) : List Sl → List V → Prop
  | nil : ArgsOk K M H [] []
  | cons {s : Sl} {v : V} {ss : List Sl} {vs : List V} (hs : s.own = false) (h : ArgOk K M H s v) (t : ArgsOk K M H ss vs) : ArgsOk K M H (s :: ss) (v :: vs)
def tAs (K : PySem.W.Frag) (M0 H0 : Hp) (r : Rho) (ss : List Sl) : TA := fun σ H Q => ∃ M, Wd K M0 H0 r σ M H ∧ ∀ vs M' H', Ext M H M' H' → ArgsOk K M' H' ss vs → Q vs H'

def EV (X : Cx) (r : Rho) (e : Expr) (t : T) : Prop := ∀ M0 H0, PE X e (tE X.K M0 H0 r t)
def EP (X : Cx) (r : Rho) (e : Expr) (P : T → Prop) : Prop := ∀ M0 H0, PE X e (tP X.K M0 H0 r P)
def EQ (X : Cx) (r : Rho) (e : Expr) (ts : List T) : Prop := ∀ M0 H0, PE X e (tQ X.K M0 H0 r ts)
def EO (X : Cx) (r : Rho) (e : Expr) (ts : List T) : Prop := ∀ M0 H0, PE X e (tO X.K M0 H0 r ts)
def EL (X : Cx) (r : Rho) (e : Expr) (ts : List T) : Prop := ∀ M0 H0, PE X e (tL X.K M0 H0 r ts)
def ET (X : Cx) (r : Rho) (e : Expr) (b : Bool) : Prop := ∀ M0 H0, PT X e (tT X.K M0 H0 r b)
def EW (X : Cx) (r : Rho) (e : Expr) (b : Bool) : Prop := ∀ M0 H0, PW X e (tT X.K M0 H0 r b)
def EA (X : Cx) (r : Rho) (es : List Expr) (ss : List Sl) : Prop := ∀ M0 H0, PA X es (tAs X.K M0 H0 r ss)

section
variable {K : PySem.W.Frag} {X : Cx} {e : Expr} {M H M' H' : Hp}
theorem pe_weak {t t' : TE} (h : PE X e t) (f : ∀ σ H Q, t' σ H Q → t σ H Q) : PE X e t' := ⟨fun pins s σ H Q I q => h.run pins s σ H Q I (f σ H Q q)⟩
theorem pt_weak {t t' : TT} (h : PT X e t) (f : ∀ σ H Q, t' σ H Q → t σ H Q) : PT X e t' := ⟨fun pins s σ H Q I q => h.run pins s σ H Q I (f σ H Q q)⟩
theorem pw_weak {t t' : TT} (h : PW X e t) (f : ∀ σ H Q, t' σ H Q → t σ H Q) : PW X e t' := ⟨fun wh pins s σ H Q I q => h.run wh pins s σ H Q I (f σ H Q q)⟩
theorem pa_weak {es : List Expr} {t t' : TA} (h : PA X es t) (f : ∀ σ H Q, t' σ H Q → t σ H Q) : PA X es t' := ⟨fun pos pins s σ H Q I q => h.run pos pins s σ H Q I (f σ H Q q)⟩
theorem pe_ex {α : Type} {P : α → Prop} {t : α → TE} (h : ∀ a, P a → PE X e (t a)) : PE X e (fun σ H Q => ∃ a, P a ∧ t a σ H Q) := ⟨fun pins s σ H Q I ⟨a, p, q⟩ => (h a p).run pins s σ H Q I q⟩
theorem ArgOk.ext (e : Ext M H M' H') : ∀ {s : Sl} {v : V}, s.own = false → ArgOk K M H s v → ArgOk K M' H' s v
  | .im _, _, _, h => Rep.mono e.m h
  | .ro _, _, _, ⟨p, vs, h1, h2, h3⟩ => ⟨p, vs, h1, Same.seq e.h h2, Reps.mono e.m h3⟩
theorem ArgsOk.ext (e : Ext M H M' H') : ∀ {ss : List Sl} {vs : List V}, ArgsOk K M H ss vs → ArgsOk K M' H' ss vs
  | _, _, .nil => .nil
  | _, _, .cons hs h t => .cons hs (ArgOk.ext e hs h) (ArgsOk.ext e t)
theorem SeqO.ext (e : Ext M H M' H') {ts : List T} {v : V} : SeqO K M H ts v → SeqO K M' H' ts v
  | ⟨p, vs, h1, h2, h3⟩ => ⟨p, vs, h1, h2.imp (Same.seq e.h) (fun z => by
      rcases z with (z | ⟨o, z⟩) | z
      · exact .inl (.inl (e.h _ _ z))
      · exact .inl (.inr ⟨o, e.h _ _ z⟩)
      · exact .inr z), Reps.mono e.m h3⟩
theorem SqT.sm {a : Addr} {vs : List V} (s : Same M H) (h : SqT K M a vs) : SqT K H a vs := by
  rcases h with (z | ⟨o, z⟩) | z
  · exact .inl (.inl (s _ _ z))
  · exact .inl (.inr ⟨o, s _ _ z⟩)
  · exact .inr z
def T.seq : T → Option (List T)
  | .tup ts => some ts
  | .lst ts => some ts
  | _ => none
theorem SeqO.of {t : T} {ts : List T} {v : V} (s : Same M H) (e : t.seq = some ts) (h : Rep K M t v) : SeqO K M H ts v := by
  cases t with
  | tup us =>
    cases e
    obtain ⟨a, vs, h1, h2, h3⟩ := h
    exact ⟨a, vs, h1, .inr (.inl (.inl (s _ _ h2))), h3⟩
  | lst us =>
    cases e
    obtain ⟨a, vs, h1, h2, h3⟩ := h
    exact ⟨a, vs, h1, .inl (SqL.of (s _ _ h2)), h3⟩
  | _ => cases e
end

section
variable {X : Cx} {r : Rho} {e a b c : Expr} {t : T} {ts us : List T} {pos : Pos} {x y : Str}

theorem EV.p {P : T → Prop} (h : EV X r e t) (p : P t) : EP X r e P := fun M0 H0 => pe_weak (h M0 H0) fun σ H Q ⟨M, w, k⟩ => ⟨M, w, fun v M' H' e r => k t v M' H' p e r⟩
theorem EP.v (h : EP X r e (fun u => u = t)) : EV X r e t := fun M0 H0 => pe_weak (h M0 H0) fun σ H Q ⟨M, w, k⟩ => ⟨M, w, fun u v M' H' p e r => k v M' H' e (p ▸ r)⟩
theorem EP.imp {P P' : T → Prop} (h : EP X r e P) (i : ∀ t, P t → P' t) : EP X r e P' := fun M0 H0 => pe_weak (h M0 H0) fun σ H Q ⟨M, w, k⟩ => ⟨M, w, fun u v M' H' p e r => k u v M' H' (i u p) e r⟩
theorem EV.to {t' : T} (h : EV X r e t) (q : t = t') : EV X r e t' := q ▸ h
theorem ET.to {b b' : Bool} (h : ET X r e b) (q : b = b') : ET X r e b' := q ▸ h
theorem EL.to {us : List T} (h : EL X r e ts) (q : ts = us) : EL X r e us := q ▸ h
theorem EV.q (h : EV X r e t) (q : t.seq = some ts) : EQ X r e ts := fun M0 H0 => pe_weak (h M0 H0) fun σ H Q ⟨M, w, k⟩ => ⟨M, w, fun v M' H' e r => k v M' H' e (SeqO.of e.s q r)⟩
theorem EO.q (h : EO X r e ts) : EQ X r e ts := fun M0 H0 => pe_weak (h M0 H0) fun σ H Q ⟨M, w, k⟩ => ⟨M, w, fun p vs M' H' e h1 h2 => k _ M' H' e ⟨p, vs, rfl, .inl h1, h2⟩⟩
theorem EV.o (h : EV X r e (.lst ts)) : EO X r e ts := fun M0 H0 => pe_weak (h M0 H0) fun σ H Q ⟨M, w, k⟩ => ⟨M, w, fun v M' H' e ⟨p, vs, h1, h2, h3⟩ => by
  subst h1
  exact k p vs M' H' e (SqL.of (e.s _ _ h2)) h3⟩
theorem EL.o (h : EL X r e ts) : EO X r e ts := fun M0 H0 => pe_weak (h M0 H0) fun σ H Q ⟨M, w, k⟩ => ⟨M, w, fun p vs M' H' e _ _ h1 h2 => k p vs M' H' e (SqL.of h1) h2⟩
/-- a new list, let go -/
theorem EL.v (h : EL X r e ts) : EV X r e (.lst ts) := fun M0 H0 => pe_weak (h M0 H0) fun σ H Q ⟨M, w, k⟩ => ⟨M, w, fun p vs M' H' e h0 h1 h2 h3 =>
  k _ _ H' (e.give h0 h2 h1) ⟨p, vs, rfl, upd_same, Reps.mono (sNew h1) h3⟩⟩
theorem EL.q (h : EL X r e ts) : EQ X r e ts := h.o.q

/-! ### names, constants -/
theorem ev_var (i : Nat) (h : r[i]? = some (some (.im t))) (hN : X.N[i]? = some x := by rfl) (hv : Vis X.env.scope x := by first | exact Or.inl rfl | exact Or.inr (Or.inl rfl) | exact Or.inr (Or.inr rfl)) (hd : (x == ("__debug__" : Str)) = false := by decide)
    (hcd : (x == ("__classdict__" : Str)) = false := by decide) : EV X r (.Name x pos) t := fun M0 H0 => pe_weak (pv i hN hv hd hcd) fun σ H Q ⟨M, w, k⟩ => by
  obtain ⟨v, p, q⟩ := w.at_ i _ h
  exact ⟨v, p, k v M H (Ext.refl w.s) q⟩
/-- a list that one only reads, or one's own list -/
theorem eo_ro (i : Nat) (h : r[i]? = some (some (.ro ts))) (hN : X.N[i]? = some x := by rfl) (hv : Vis X.env.scope x := by first | exact Or.inl rfl | exact Or.inr (Or.inl rfl) | exact Or.inr (Or.inr rfl)) (hd : (x == ("__debug__" : Str)) = false := by decide)
    (hcd : (x == ("__classdict__" : Str)) = false := by decide) : EO X r (.Name x pos) ts := fun M0 H0 => pe_weak (pv i hN hv hd hcd) fun σ H Q ⟨M, w, k⟩ => by
  obtain ⟨v, a, p, vs, rfl, h2, h3⟩ := w.at_ i _ h
  exact ⟨_, a, k p vs M H (Ext.refl w.s) (Same.seq w.ext.h h2) h3⟩
theorem eo_ow (i : Nat) (h : r[i]? = some (some (.ow ts))) (hN : X.N[i]? = some x := by rfl) (hv : Vis X.env.scope x := by first | exact Or.inl rfl | exact Or.inr (Or.inl rfl) | exact Or.inr (Or.inr rfl)) (hd : (x == ("__debug__" : Str)) = false := by decide)
    (hcd : (x == ("__classdict__" : Str)) = false := by decide) : EO X r (.Name x pos) ts := fun M0 H0 => pe_weak (pv i hN hv hd hcd) fun σ H Q ⟨M, w, k⟩ => by
  obtain ⟨v, a, p, vs, rfl, _, h2, h3⟩ := w.at_ i _ h
  exact ⟨_, a, k p vs M H (Ext.refl w.s) (SqL.of h2) h3⟩
theorem ev_c {v : V} (h : PE X e (tC v)) (q : ∀ K H, Rep K H t v) : EV X r e t := fun M0 H0 => pe_weak h fun σ H Q ⟨M, w, k⟩ => k v M H (Ext.refl w.s) (q _ _)
theorem ev_int {i : Int} {j : Nat} : EV X r (.Constant (.int i) j pos) (.int i) := ev_c pe_int fun _ _ => rfl
theorem ev_bl {b : Bool} {j : Nat} : EV X r (.Constant (.bool b) j pos) (.bl b) := ev_c pe_bl fun _ _ => rfl
theorem ev_non {j : Nat} : EV X r (.Constant .none j pos) .non := ev_c pe_non fun _ _ => rfl
theorem ev_str {s : Str} {j : Nat} : EV X r (.Constant (.str s) j pos) (.str s) := ev_c pe_str fun _ _ => rfl
theorem ev_ty {n : String} (hg : Gl X x) (hm : X.mg x = none) (hv : bootBuiltins x = some (.type n)) (hn : x ≠ "__name__" := by decide) (hd : (x == ("__debug__" : Str)) = false := by decide) : EV X r (.Name x pos) (.ty n) :=
  ev_c (pe_bltn (v := .ty n) hg hm hv rfl hn hd) fun _ _ => rfl

/-! ### ints -/
/-- a two-place operation by values -/
theorem ev_op2 {op : Operator} {r2 : R2} {ta tb : T} (ho : OpR X (binaryOp op) r2) (ha : EV X r a ta) (hb : EV X r b tb)
    (hr : ∀ (M H : Hp) (v u : V) (Q : VK), Same M H → Rep X.K M ta v → Rep X.K M tb u → (∀ z M' H', Ext M H M' H' → Rep X.K M' t z → Q z H') → r2 v u H Q) : EV X r (.BinOp a op b pos) t := fun M0 H0 =>
  pe_weak (pe_op ho (ha M0 H0) (hb M0 H0)) fun σ H Q ⟨M, w, k⟩ => ⟨M, w, fun v M1 H1 e1 r1 => ⟨M1, w.up e1, fun u M2 H2 e2 r2' =>
    hr M2 H2 v u Q e2.s (Rep.mono e2.m r1) r2' fun z M3 H3 e3 r3 => k z M3 H3 ((e1.trans e2).trans e3) r3⟩⟩
theorem ev_cmp2 {op : CmpOp} {r2 : R2} {ta tb : T} (ho : OpR X (compareOp op) r2) (ha : EV X r a ta) (hb : EV X r b tb) (hm : behindInMarks op b = false)
    (hr : ∀ (M H : Hp) (v u : V) (Q : VK), Same M H → Rep X.K M ta v → Rep X.K M tb u → (∀ z M' H', Ext M H M' H' → Rep X.K M' t z → Q z H') → r2 v u H Q) : EV X r (.Compare a [op] [b] pos) t := fun M0 H0 =>
  pe_weak (pe_cmpR ho (ha M0 H0) (hb M0 H0) hm) fun σ H Q ⟨M, w, k⟩ => ⟨M, w, fun v M1 H1 e1 r1 => ⟨M1, w.up e1, fun u M2 H2 e2 r2' =>
    hr M2 H2 v u Q e2.s (Rep.mono e2.m r1) r2' fun z M3 H3 e3 r3 => k z M3 H3 ((e1.trans e2).trans e3) r3⟩⟩
theorem et_cmp2 {op : CmpOp} {r2 : R2} {ta tb : T} {k' : Bool} (ho : OpR X (compareOp op) r2) (ha : EV X r a ta) (hb : EV X r b tb) (hm : behindInMarks op b = false)
    (hr : ∀ (M H : Hp) (v u : V) (Q : VK), Same M H → Rep X.K M ta v → Rep X.K M tb u → Q (.bl k') H → r2 v u H Q) : ET X r (.Compare a [op] [b] pos) k' := fun M0 H0 =>
  pt_weak (pt_cmpR ho (ha M0 H0) (hb M0 H0) hm) fun σ H Q ⟨M, w, k⟩ => ⟨M, w, fun v M1 H1 e1 r1 => ⟨M1, w.up e1, fun u M2 H2 e2 r2' =>
    hr M2 H2 v u _ e2.s (Rep.mono e2.m r1) r2' ⟨k', rfl, k M2 H2 (e1.trans e2)⟩⟩⟩
variable {i j : Int}
theorem ev_add (ha : EV X r a (.int i)) (hb : EV X r b (.int j)) : EV X r (.BinOp a .Add b pos) (.int (i + j)) :=
  ev_op2 op_add ha hb fun M H v u Q s h1 h2 k => ⟨i, j, h1, h2, k _ M H (Ext.refl s) rfl⟩
theorem ev_sub (ha : EV X r a (.int i)) (hb : EV X r b (.int j)) : EV X r (.BinOp a .Sub b pos) (.int (i - j)) :=
  ev_op2 op_sub ha hb fun M H v u Q s h1 h2 k => ⟨i, j, h1, h2, k _ M H (Ext.refl s) rfl⟩
theorem ev_mul (ha : EV X r a (.int i)) (hb : EV X r b (.int j)) (hc : CMul i j) : EV X r (.BinOp a .Mult b pos) (.int (i * j)) :=
  ev_op2 op_mul ha hb fun M H v u Q s h1 h2 k => ⟨i, j, h1, h2, hc, k _ M H (Ext.refl s) rfl⟩
theorem ev_mod (ha : EV X r a (.int i)) (hb : EV X r b (.int j)) (hc : 0 < j) : EV X r (.BinOp a .Mod b pos) (.int (i % j)) :=
  ev_op2 op_mod ha hb fun M H v u Q s h1 h2 k => ⟨i, j, h1, h2, hc, k _ M H (Ext.refl s) rfl⟩
theorem ev_fdiv (ha : EV X r a (.int i)) (hb : EV X r b (.int j)) (hc : CDiv i j) : EV X r (.BinOp a .FloorDiv b pos) (.int (i / j)) :=
  ev_op2 op_fdiv ha hb fun M H v u Q s h1 h2 k => ⟨i, j, h1, h2, hc, k _ M H (Ext.refl s) rfl⟩
theorem ev_pow (ha : EV X r a (.int i)) (hb : EV X r b (.int j)) (hc : CPow i j) : EV X r (.BinOp a .Pow b pos) (.int (i ^ j.toNat)) :=
  ev_op2 op_pow ha hb fun M H v u Q s h1 h2 k => ⟨i, j, h1, h2, hc, k _ M H (Ext.refl s) rfl⟩
theorem ev_neg (ha : EV X r a (.int i)) : EV X r (.UnaryOp .USub a pos) (.int (-i)) := fun M0 H0 =>
  pe_weak (pe_un un_neg (ha M0 H0)) fun σ H Q ⟨M, w, k⟩ => ⟨M, w, fun v M1 H1 e1 r1 => ⟨i, r1, k _ M1 H1 e1 rfl⟩⟩
theorem ev_lt (ha : EV X r a (.int i)) (hb : EV X r b (.int j)) : EV X r (.Compare a [.Lt] [b] pos) (.bl (decide (i < j))) :=
  ev_cmp2 op_lt ha hb (nomark _) fun M H v u Q s h1 h2 k => ⟨i, j, h1, h2, k _ M H (Ext.refl s) rfl⟩
theorem ev_le (ha : EV X r a (.int i)) (hb : EV X r b (.int j)) : EV X r (.Compare a [.LtE] [b] pos) (.bl (decide (i ≤ j))) :=
  ev_cmp2 op_le ha hb (nomark _) fun M H v u Q s h1 h2 k => ⟨i, j, h1, h2, k _ M H (Ext.refl s) rfl⟩
theorem ev_gt (ha : EV X r a (.int i)) (hb : EV X r b (.int j)) : EV X r (.Compare a [.Gt] [b] pos) (.bl (decide (j < i))) :=
  ev_cmp2 op_gt ha hb (nomark _) fun M H v u Q s h1 h2 k => ⟨i, j, h1, h2, k _ M H (Ext.refl s) rfl⟩
theorem ev_ge (ha : EV X r a (.int i)) (hb : EV X r b (.int j)) : EV X r (.Compare a [.GtE] [b] pos) (.bl (decide (j ≤ i))) :=
  ev_cmp2 op_ge ha hb (nomark _) fun M H v u Q s h1 h2 k => ⟨i, j, h1, h2, k _ M H (Ext.refl s) rfl⟩
theorem et_lt (ha : EV X r a (.int i)) (hb : EV X r b (.int j)) : ET X r (.Compare a [.Lt] [b] pos) (decide (i < j)) :=
  et_cmp2 op_lt ha hb (nomark _) fun M H v u Q s h1 h2 k => ⟨i, j, h1, h2, k⟩
theorem et_le (ha : EV X r a (.int i)) (hb : EV X r b (.int j)) : ET X r (.Compare a [.LtE] [b] pos) (decide (i ≤ j)) :=
  et_cmp2 op_le ha hb (nomark _) fun M H v u Q s h1 h2 k => ⟨i, j, h1, h2, k⟩
theorem et_gt (ha : EV X r a (.int i)) (hb : EV X r b (.int j)) : ET X r (.Compare a [.Gt] [b] pos) (decide (j < i)) :=
  et_cmp2 op_gt ha hb (nomark _) fun M H v u Q s h1 h2 k => ⟨i, j, h1, h2, k⟩
theorem et_ge (ha : EV X r a (.int i)) (hb : EV X r b (.int j)) : ET X r (.Compare a [.GtE] [b] pos) (decide (j ≤ i)) :=
  et_cmp2 op_ge ha hb (nomark _) fun M H v u Q s h1 h2 k => ⟨i, j, h1, h2, k⟩

/-! ### == of scalars -/
/-- None and ints, or texts -/
def T.eqS : T → T → Option Bool
  | .non, .non => some true
  | .non, .int _ => some false
  | .int _, .non => some false
  | .int i, .int j => some (decide (i = j))
  | .str x, .str y => some (decide (x = y))
  | _, _ => none
theorem eqS_rEq {K : PySem.W.Frag} {M H : Hp} {t u : T} {k : Bool} {v z : V} {Q : VK} (e : t.eqS u = some k) (h1 : Rep K M t v) (h2 : Rep K M u z) (q : Q (.bl k) H) : rEq v z H Q := by
  cases t <;> cases u <;> cases e
  all_goals (cases h1; cases h2; refine ⟨rfl, ?_⟩)
  · exact q
  · exact q
  · exact q
  · rename_i i j
    have : decide (V.int i = V.int j) = decide (i = j) := by by_cases h : i = j <;> simp [h]
    rw [this]; exact q
  · rename_i i j
    have : decide (V.str i = V.str j) = decide (i = j) := by by_cases h : i = j <;> simp [h]
    rw [this]; exact q
theorem eqS_rNe {K : PySem.W.Frag} {M H : Hp} {t u : T} {k : Bool} {v z : V} {Q : VK} (e : t.eqS u = some k) (h1 : Rep K M t v) (h2 : Rep K M u z) (q : Q (.bl (!k)) H) : rNe v z H Q := by
  cases t <;> cases u <;> cases e
  all_goals (cases h1; cases h2; refine ⟨rfl, ?_⟩)
  · exact q
  · exact q
  · exact q
  · rename_i i j
    have : decide (V.int i = V.int j) = decide (i = j) := by by_cases h : i = j <;> simp [h]
    rw [this]; exact q
  · rename_i i j
    have : decide (V.str i = V.str j) = decide (i = j) := by by_cases h : i = j <;> simp [h]
    rw [this]; exact q
variable {ta tb : T} {k : Bool}
theorem ev_eq (ha : EV X r a ta) (hb : EV X r b tb) (e : ta.eqS tb = some k) : EV X r (.Compare a [.Eq] [b] pos) (.bl k) :=
  ev_cmp2 op_eq ha hb (nomark _) fun M H v u Q s h1 h2 q => eqS_rEq e h1 h2 (q _ M H (Ext.refl s) rfl)
theorem et_eq (ha : EV X r a ta) (hb : EV X r b tb) (e : ta.eqS tb = some k) : ET X r (.Compare a [.Eq] [b] pos) k :=
  et_cmp2 op_eq ha hb (nomark _) fun M H v u Q s h1 h2 q => eqS_rEq e h1 h2 q
theorem ev_ne (ha : EV X r a ta) (hb : EV X r b tb) (e : ta.eqS tb = some k) : EV X r (.Compare a [.NotEq] [b] pos) (.bl (!k)) :=
  ev_cmp2 op_ne ha hb (nomark _) fun M H v u Q s h1 h2 q => eqS_rNe e h1 h2 (q _ M H (Ext.refl s) rfl)
theorem et_ne (ha : EV X r a ta) (hb : EV X r b tb) (e : ta.eqS tb = some k) : ET X r (.Compare a [.NotEq] [b] pos) (!k) :=
  et_cmp2 op_ne ha hb (nomark _) fun M H v u Q s h1 h2 q => eqS_rNe e h1 h2 q

/-! ### is None -/
def T.isN : T → Bool
  | .non => true
  | _ => false
theorem isN_of {K : PySem.W.Frag} {M : Hp} {t : T} {v : V} (h : Rep K M t v) : decide (v = .non) = t.isN := by
  cases t with
  | non => cases h; rfl
  | bl _ => cases h; rfl
  | int _ => cases h; rfl
  | str _ => cases h; rfl
  | ty _ => cases h; rfl
  | tup _ => obtain ⟨_, _, rfl, _⟩ := h; rfl
  | lst _ => obtain ⟨_, _, rfl, _⟩ := h; rfl
  | ins _ _ _ => obtain ⟨_, _, _, rfl, _⟩ := h; rfl
  | rng _ _ => obtain ⟨_, rfl, _⟩ := h; rfl
theorem ev_isN (ha : EV X r a t) {j : Nat} {p : Pos} : EV X r (.Compare a [.Is] [.Constant .none j p] pos) (.bl t.isN) :=
  ev_cmp2 op_isN ha ev_non (nomark _) fun M H v u Q s h1 h2 k => ⟨h2, by rw [isN_of h1]; exact k _ M H (Ext.refl s) rfl⟩
theorem et_isN (ha : EV X r a t) {j : Nat} {p : Pos} : ET X r (.Compare a [.Is] [.Constant .none j p] pos) t.isN :=
  et_cmp2 op_isN ha ev_non (nomark _) fun M H v u Q s h1 h2 k => ⟨h2, by rw [isN_of h1]; exact k⟩
theorem ev_notN (ha : EV X r a t) {j : Nat} {p : Pos} : EV X r (.Compare a [.IsNot] [.Constant .none j p] pos) (.bl (!t.isN)) :=
  ev_cmp2 op_notN ha ev_non (nomark _) fun M H v u Q s h1 h2 k => ⟨h2, by rw [isN_of h1]; exact k _ M H (Ext.refl s) rfl⟩
theorem et_notN (ha : EV X r a t) {j : Nat} {p : Pos} : ET X r (.Compare a [.IsNot] [.Constant .none j p] pos) (!t.isN) :=
  et_cmp2 op_notN ha ev_non (nomark _) fun M H v u Q s h1 h2 k => ⟨h2, by rw [isN_of h1]; exact k⟩

/-! ### and, or, not, if -/
theorem et_val (h : EV X r a (.bl k)) (he : ∀ whole, isTrue a X.env whole = (do let v ← whole; standAt a.pos; holding [v] (truthy v)) := by intro _; rfl) : ET X r a k := fun M0 H0 =>
  pt_weak (pt_val (h M0 H0) he) fun σ H Q ⟨M, w, q⟩ => ⟨M, w, fun v M' H' e r => ⟨k, r, q M' H' e⟩⟩
variable {rest : List Expr} {k1 k2 : Bool}
theorem EW.et (h : EW X r a k) : ET X r a k := fun M0 H0 => (h M0 H0).pt
theorem ew_and1 (h : ET X r a k) : EW X r (.BoolOp .And [a] pos) k := fun M0 H0 => pw_and1 (h M0 H0)
theorem ew_or1 (h : ET X r a k) : EW X r (.BoolOp .Or [a] pos) k := fun M0 H0 => pw_or1 (h M0 H0)
theorem ew_and (h1 : ET X r a k1) (h2 : k1 = true → EW X r (.BoolOp .And (b :: rest) pos) k2) : EW X r (.BoolOp .And (a :: b :: rest) pos) (k1 && k2) := fun M0 H0 => by
  cases k1 with
  | true => exact pw_weak (pw_and (h1 M0 H0) (h2 rfl M0 H0)) fun σ H Q ⟨M, w, q⟩ => ⟨M, w, fun M1 H1 e1 => iteT ⟨M1, w.up e1, fun M2 H2 e2 => q M2 H2 (e1.trans e2)⟩⟩
  | false => exact pw_weak (pw_and (tB' := fun _ _ _ => False) (h1 M0 H0) ⟨fun _ _ _ _ _ _ _ h => h.elim⟩) fun σ H Q ⟨M, w, q⟩ => ⟨M, w, fun M1 H1 e1 => iteF (q M1 H1 e1)⟩
theorem ew_or (h1 : ET X r a k1) (h2 : k1 = false → EW X r (.BoolOp .Or (b :: rest) pos) k2) : EW X r (.BoolOp .Or (a :: b :: rest) pos) (k1 || k2) := fun M0 H0 => by
  cases k1 with
  | false => exact pw_weak (pw_or (h1 M0 H0) (h2 rfl M0 H0)) fun σ H Q ⟨M, w, q⟩ => ⟨M, w, fun M1 H1 e1 => iteF ⟨M1, w.up e1, fun M2 H2 e2 => q M2 H2 (e1.trans e2)⟩⟩
  | true => exact pw_weak (pw_or (tB' := fun _ _ _ => False) (h1 M0 H0) ⟨fun _ _ _ _ _ _ _ h => h.elim⟩) fun σ H Q ⟨M, w, q⟩ => ⟨M, w, fun M1 H1 e1 => iteT (q M1 H1 e1)⟩
theorem et_not (h : ET X r a k) : ET X r (.UnaryOp .Not a pos) (!k) := fun M0 H0 => pt_weak (pt_not (h M0 H0)) fun σ H Q ⟨M, w, q⟩ => ⟨M, w, fun M1 H1 e1 => q M1 H1 e1⟩
theorem ev_one {op : BoolOp} (h : EV X r a t) : EV X r (.BoolOp op [a] pos) t := fun M0 H0 => pe_one (h M0 H0)
theorem ev_and (h1 : EV X r a (.bl k1)) (h2 : k1 = true → EV X r (.BoolOp .And (b :: rest) pos) (.bl k2)) : EV X r (.BoolOp .And (a :: b :: rest) pos) (.bl (k1 && k2)) := fun M0 H0 => by
  cases k1 with
  | true => exact pe_weak (pe_and (h1 M0 H0) (h2 rfl M0 H0)) fun σ H Q ⟨M, w, q⟩ => ⟨M, w, fun v M1 H1 e1 r1 => ⟨true, r1, iteT ⟨M1, w.up e1, fun v2 M2 H2 e2 r2 => q v2 M2 H2 (e1.trans e2) r2⟩⟩⟩
  | false => exact pe_weak (pe_and (tb := fun _ _ _ => False) (h1 M0 H0) ⟨fun _ _ _ _ _ _ h => h.elim⟩) fun σ H Q ⟨M, w, q⟩ => ⟨M, w, fun v M1 H1 e1 r1 => ⟨false, r1, iteF (q _ M1 H1 e1 rfl)⟩⟩
theorem ev_or (h1 : EV X r a (.bl k1)) (h2 : k1 = false → EV X r (.BoolOp .Or (b :: rest) pos) (.bl k2)) : EV X r (.BoolOp .Or (a :: b :: rest) pos) (.bl (k1 || k2)) := fun M0 H0 => by
  cases k1 with
  | false => exact pe_weak (pe_or (h1 M0 H0) (h2 rfl M0 H0)) fun σ H Q ⟨M, w, q⟩ => ⟨M, w, fun v M1 H1 e1 r1 => ⟨false, r1, iteF ⟨M1, w.up e1, fun v2 M2 H2 e2 r2 => q v2 M2 H2 (e1.trans e2) r2⟩⟩⟩
  | true => exact pe_weak (pe_or (tb := fun _ _ _ => False) (h1 M0 H0) ⟨fun _ _ _ _ _ _ h => h.elim⟩) fun σ H Q ⟨M, w, q⟩ => ⟨M, w, fun v M1 H1 e1 r1 => ⟨true, r1, iteT (q _ M1 H1 e1 rfl)⟩⟩
theorem ev_not (h : EV X r a (.bl k)) : EV X r (.UnaryOp .Not a pos) (.bl (!k)) := fun M0 H0 =>
  pe_weak (pe_not (h M0 H0)) fun σ H Q ⟨M, w, q⟩ => ⟨M, w, fun v M1 H1 e1 r1 => ⟨k, r1, q _ M1 H1 e1 rfl⟩⟩
theorem ev_if (hc : ET X r c k) (h1 : k = true → EV X r a t) (h2 : k = false → EV X r b t) : EV X r (.IfExp c a b pos) t := fun M0 H0 => by
  cases k with
  | true => exact pe_weak (pe_ifExp (tb := fun _ _ _ => False) (hc M0 H0) (h1 rfl M0 H0) ⟨fun _ _ _ _ _ _ h => h.elim⟩) fun σ H Q ⟨M, w, q⟩ => ⟨M, w, fun M1 H1 e1 => iteT ⟨M1, w.up e1, fun v2 M2 H2 e2 r2 => q v2 M2 H2 (e1.trans e2) r2⟩⟩
  | false => exact pe_weak (pe_ifExp (ta := fun _ _ _ => False) (hc M0 H0) ⟨fun _ _ _ _ _ _ h => h.elim⟩ (h2 rfl M0 H0)) fun σ H Q ⟨M, w, q⟩ => ⟨M, w, fun M1 H1 e1 => iteF ⟨M1, w.up e1, fun v2 M2 H2 e2 r2 => q v2 M2 H2 (e1.trans e2) r2⟩⟩
/-- both branches, the value by cases -/
theorem ev_ite (hc : ET X r c k) (h1 : k = true → EV X r a ta) (h2 : k = false → EV X r b tb) : EV X r (.IfExp c a b pos) (if k = true then ta else tb) :=
  ev_if hc (fun z => by rw [if_pos z]; exact h1 z) (fun z => by rw [if_neg (by rw [z]; exact Bool.false_ne_true)]; exact h2 z)

/-! ### arguments, displays -/
theorem ea_nil : EA X r [] [] := fun M0 H0 => pa_weak pa_nil fun σ H Q ⟨M, w, q⟩ => q [] M H (Ext.refl w.s) .nil
variable {es : List Expr} {ss : List Sl}
theorem ea_cons (h : EV X r e t) (hr : EA X r es ss) (hs : starEach (e :: es) X.env = (false, eval e X.env) :: starEach es X.env := by rfl) : EA X r (e :: es) (.im t :: ss) := fun M0 H0 =>
  pa_weak (pa_cons (h M0 H0) (hr M0 H0) hs) fun σ H Q ⟨M, w, q⟩ => ⟨M, w, fun v M1 H1 e1 r1 => ⟨M1, w.up e1, fun vs M2 H2 e2 r2 => q _ M2 H2 (e1.trans e2) (.cons rfl (Rep.mono e2.m r1) r2)⟩⟩
theorem ea_consO (h : EO X r e ts) (hr : EA X r es ss) (hs : starEach (e :: es) X.env = (false, eval e X.env) :: starEach es X.env := by rfl) : EA X r (e :: es) (.ro ts :: ss) := fun M0 H0 =>
  pa_weak (pa_cons (h M0 H0) (hr M0 H0) hs) fun σ H Q ⟨M, w, q⟩ => ⟨M, w, fun p vs M1 H1 e1 h1 r1 => ⟨M1, w.up e1, fun us M2 H2 e2 r2 => q _ M2 H2 (e1.trans e2) (.cons rfl ⟨p, vs, rfl, Same.seq e2.h h1, Reps.mono e2.m r1⟩ r2)⟩⟩
/-- all for ever -/
theorem ArgsOk.reps {K : PySem.W.Frag} {M H : Hp} : ∀ {ts : List T} {vs : List V}, ArgsOk K M H (ts.map .im) vs → Reps K M ts vs
  | [], _, .nil => rfl
  | _ :: _, _, .cons _ h t => ⟨_, _, rfl, h, ArgsOk.reps t⟩
theorem ev_tup {n : Nat} (h : EA X r es (ts.map .im)) (hl : ts.length ≤ 1000) : EV X r (.Tuple es n pos) (.tup ts) := fun M0 H0 =>
  pe_weak (pe_tup (h M0 H0)) fun σ H Q ⟨M, w, q⟩ => ⟨M, w, fun vs M1 H1 e1 r1 => by
    have rr := ArgsOk.reps r1
    refine ⟨?_, fun p hp => q _ _ _ (e1.trans (Ext.new e1.s hp)) ⟨p, vs, rfl, upd_same, Reps.mono (sNew (e1.s.free hp)) rr⟩⟩
    rw [← rr.len]; exact Nat.le_trans hl (by decide)⟩
theorem el_lst (h : EA X r es (ts.map .im)) (hl : ts.length ≤ 1000) : EL X r (.List es pos) ts := fun M0 H0 =>
  pe_weak (pe_lst (h M0 H0)) fun σ H Q ⟨M, w, q⟩ => ⟨M, w, fun vs M1 H1 e1 r1 => by
    have rr := ArgsOk.reps r1
    refine ⟨?_, fun p hp => q p vs M1 _ (e1.trans (Ext.own e1.s hp)) (Same.free e1.h hp) (e1.s.free hp) upd_same rr⟩
    rw [← rr.len]; exact Nat.le_trans hl (by decide)⟩
end
end TL

/-! TL, part c: subscripts, slices, built-in calls, fields. -/
namespace TL
open PySem L2 PySem.Spec PyProof.Rows

section
variable {K : PySem.W.Frag} {M H M' H' : Hp}
theorem Reps.atI {ts : List T} {vs : List V} {i : Int} {t : T} (h : Reps K M ts vs) (e : L2.atI ts i = some t) : ∃ v, L2.atI vs i = some v ∧ Rep K M t v := by
  unfold L2.atI at e ⊢
  rw [← h.len]
  cases q : ixN ts.length i with
  | none => rw [q] at e; cases e
  | some j =>
    rw [q] at e
    obtain ⟨v, a, b⟩ := h.get (show ts[j]? = some t from e)
    exact ⟨v, a, b⟩
def cut (ts : List T) (lo hi : Option Int) : List T := (ts.drop (HT.sIx ts.length 0 lo)).take (HT.sIx ts.length ts.length hi - HT.sIx ts.length 0 lo)
theorem Reps.cut {ts : List T} {vs : List V} (h : Reps K M ts vs) (lo hi : Option Int) : Reps K M (TL.cut ts lo hi) (cutV vs lo hi) := by
  unfold TL.cut cutV
  rw [h.len]
  exact (h.drop _).take _
/-- the places of a list by an encoding -/
theorem at_map {α : Type} {xs : List α} {f : α → T} {j : Nat} {x : α} (h : xs[j]? = some x) : L2.atI (xs.map f) (j : Int) = some (f x) := atI_nat (by rw [List.getElem?_map, h]; rfl)
theorem at_get {xs : List T} {j : Nat} {t : T} (h : xs[j]? = some t) : L2.atI xs (j : Int) = some t := atI_nat h
end

section
variable {X : Cx} {r : Rho} {e a b c : Expr} {t : T} {ts us : List T} {pos p p2 : Pos} {x y : Str} {i j : Int}

/-! ### items -/
theorem ev_ix (ha : EQ X r a ts) (hb : EV X r b (.int i)) (hi : L2.atI ts i = some t) (hs : PlainIx b := by exact fun _ _ => rfl) : EV X r (.Subscript a b pos) t := fun M0 H0 =>
  pe_weak (pe_ix ix_seq (ha M0 H0) (hb M0 H0) hs) fun σ H Q ⟨M, w, k⟩ => ⟨M, w, fun v M1 H1 e1 r1 => ⟨M1, w.up e1, fun u M2 H2 e2 r2 => by
    obtain ⟨q, vs, rfl, h2, h3⟩ := SeqO.ext e2 r1
    obtain ⟨z, z1, z2⟩ := h3.atI hi
    rcases h2 with h2 | h2
    · exact .inl ⟨q, vs, i, z, rfl, r2, h2, z1, k z M2 H2 (e1.trans e2) z2⟩
    · exact .inr (.inl ⟨q, vs, i, z, rfl, r2, h2, z1, k z M2 H2 (e1.trans e2) z2⟩)⟩⟩
def tPt (K : PySem.W.Frag) (M0 H0 : Hp) (r : Rho) (o : Option Int) : TO := fun σ H Q => ∃ M, Wd K M0 H0 r σ M H ∧ ∀ M' H', Ext M H M' H' → Q o H'
def EPt (X : Cx) (r : Rho) (o : Option Expr) (i : Option Int) : Prop := ∀ M0 H0, PO X o (tPt X.K M0 H0 r i)
theorem po_weak {o : Option Expr} {t t' : TO} (h : PO X o t) (f : ∀ σ H Q, t' σ H Q → t σ H Q) : PO X o t' := by
  obtain ⟨h⟩ := h
  exact ⟨fun pins s σ H Q I q => h pins s σ H Q I (f σ H Q q)⟩
theorem ept_none : EPt X r none none := fun M0 H0 => po_weak po_none fun σ H Q ⟨M, w, k⟩ => k M H (Ext.refl w.s)
theorem ept_some (h : EV X r e (.int i)) : EPt X r (some e) (some i) := fun M0 H0 => po_weak (po_some (h M0 H0)) fun σ H Q ⟨M, w, k⟩ => ⟨M, w, fun v M1 H1 e1 r1 => ⟨i, r1, k M1 H1 e1⟩⟩
variable {lo hi : Option Expr} {l u : Option Int}
theorem el_slice (ha : EO X r a ts) (hl : EPt X r lo l) (hu : EPt X r hi u) : EL X r (.Subscript a (.Slice lo hi none p2) pos) (cut ts l u) := fun M0 H0 =>
  pe_weak (pe_slice sl_list (ha M0 H0) (hl M0 H0) (hu M0 H0)) fun σ H Q ⟨M, w, k⟩ => ⟨M, w, fun q vs M1 H1 e1 h1 r1 => ⟨M1, w.up e1, fun M2 H2 e2 => ⟨M2, (w.up e1).up e2, fun M3 H3 e3 =>
    ⟨q, vs, rfl, Same.seq (e2.trans e3).h h1, fun n hn => k n _ M3 _ (((e1.trans e2).trans e3).trans (Ext.own e3.s hn)) (Same.free ((e1.trans e2).trans e3).h hn) (e3.s.free hn) upd_same (Reps.cut (Reps.mono (e2.trans e3).m r1) l u)⟩⟩⟩⟩
theorem ev_slice (ha : EV X r a (.tup ts)) (hl : EPt X r lo l) (hu : EPt X r hi u) (hw : ¬ (HT.sIx ts.length 0 l = 0 ∧ HT.sIx ts.length ts.length u = ts.length)) : EV X r (.Subscript a (.Slice lo hi none p2) pos) (.tup (cut ts l u)) := fun M0 H0 =>
  pe_weak (pe_slice sl_tup (ha M0 H0) (hl M0 H0) (hu M0 H0)) fun σ H Q ⟨M, w, k⟩ => ⟨M, w, fun v M1 H1 e1 r1 => ⟨M1, w.up e1, fun M2 H2 e2 => ⟨M2, (w.up e1).up e2, fun M3 H3 e3 => by
    obtain ⟨q, vs, rfl, h2, h3⟩ := r1
    have hl := h3.len
    have e23 := e2.trans e3
    refine ⟨q, vs, rfl, SqT.of (e3.s _ _ (e23.m _ _ h2)), by rw [← hl]; exact hw, fun n hn => k _ _ _ ((e1.trans e23).trans (Ext.new e3.s hn)) ⟨n, _, rfl, upd_same, Reps.mono (sNew (e3.s.free hn)) (Reps.cut (Reps.mono e23.m h3) l u)⟩⟩⟩⟩⟩

/-! ### len, tuple, list, +, * -/
theorem ev_len (ha : EQ X r a ts) (hm : X.mg "len" = none) (hg : Gl X "len" := by rfl) (hst : starEach [a] X.env = (false, eval a X.env) :: starEach [] X.env := by rfl) (hpl : (backTo pos (starEach [] X.env)).any (·.1) = false := by rfl) : EV X r (.Call (.Name "len" p) [a] [] pos) (.int ts.length) := fun M0 H0 =>
  pe_weak (pe_callB call_len_seq hg hm PySem.boot_len (pa_cons (ha M0 H0) pa_nil hst) (he := hst)) fun σ H Q ⟨M, w, k⟩ => ⟨M, w, fun v M1 H1 e1 r1 => by
    obtain ⟨q, vs, rfl, h2, h3⟩ := r1
    refine ⟨q, vs, rfl, h2, ?_⟩
    rw [← h3.len]
    exact k _ M1 H1 e1 rfl⟩
theorem ev_tupL (ha : EO X r a ts) (hm : X.mg "tuple" = none) (hg : Gl X "tuple" := by rfl) (hst : starEach [a] X.env = (false, eval a X.env) :: starEach [] X.env := by rfl) : EV X r (.Call (.Name "tuple" p) [a] [] pos) (.tup ts) := fun M0 H0 =>
  pe_weak (pe_callTy call_tuple_of hg hm (by decide +kernel) (pa_cons (ha M0 H0) pa_nil hst) (he := hst)) fun σ H Q ⟨M, w, k⟩ => ⟨M, w, fun q vs M1 H1 e1 h1 r1 =>
    ⟨q, vs, rfl, .inl ⟨h1, fun n hn => k _ _ _ (e1.trans (Ext.new e1.s hn)) ⟨n, vs, rfl, upd_same, Reps.mono (sNew (e1.s.free hn)) r1⟩⟩⟩⟩
theorem ev_tupT (ha : EV X r a (.tup ts)) (hm : X.mg "tuple" = none) (hg : Gl X "tuple" := by rfl) (hst : starEach [a] X.env = (false, eval a X.env) :: starEach [] X.env := by rfl) : EV X r (.Call (.Name "tuple" p) [a] [] pos) (.tup ts) := fun M0 H0 =>
  pe_weak (pe_callTy call_tuple_of hg hm (by decide +kernel) (pa_cons (ha M0 H0) pa_nil hst) (he := hst)) fun σ H Q ⟨M, w, k⟩ => ⟨M, w, fun v M1 H1 e1 r1 => by
    obtain ⟨q, vs, rfl, h2, h3⟩ := id r1
    exact ⟨q, vs, rfl, .inr ⟨SqT.of (e1.s _ _ h2), k _ M1 H1 e1 r1⟩⟩⟩
theorem el_list (ha : EQ X r a ts) (hm : X.mg "list" = none) (hg : Gl X "list" := by rfl) (hst : starEach [a] X.env = (false, eval a X.env) :: starEach [] X.env := by rfl) : EL X r (.Call (.Name "list" p) [a] [] pos) ts := fun M0 H0 =>
  pe_weak (pe_callTy call_list_of hg hm (by decide +kernel) (pa_cons (ha M0 H0) pa_nil hst) (he := hst)) fun σ H Q ⟨M, w, k⟩ => ⟨M, w, fun v M1 H1 e1 r1 => by
    obtain ⟨q, vs, rfl, h2, h3⟩ := r1
    exact ⟨q, vs, rfl, h2, fun n hn => k n vs M1 _ (e1.trans (Ext.own e1.s hn)) (Same.free e1.h hn) (e1.s.free hn) upd_same h3⟩⟩
/-- a list that is known as an object -/
def tK (K : PySem.W.Frag) (M0 H0 : Hp) (r : Rho) (ts : List T) : TE := fun σ H Q => ∃ M, Wd K M0 H0 r σ M H ∧ ∀ p vs M' H', Ext M H M' H' → H' p = some (.lst vs) → Reps K M' ts vs → Q (.ref p) H'
def EK (X : Cx) (r : Rho) (e : Expr) (ts : List T) : Prop := ∀ M0 H0, PE X e (tK X.K M0 H0 r ts)
theorem EV.k (h : EV X r e (.lst ts)) : EK X r e ts := fun M0 H0 => pe_weak (h M0 H0) fun σ H Q ⟨M, w, k⟩ => ⟨M, w, fun v M' H' e ⟨p, vs, h1, h2, h3⟩ => by
  subst h1
  exact k p vs M' H' e (e.s _ _ h2) h3⟩
theorem EL.k (h : EL X r e ts) : EK X r e ts := fun M0 H0 => pe_weak (h M0 H0) fun σ H Q ⟨M, w, k⟩ => ⟨M, w, fun p vs M' H' e _ _ h1 h2 => k p vs M' H' e h1 h2⟩
theorem ek_ow (i : Nat) (h : r[i]? = some (some (.ow ts))) (hN : X.N[i]? = some x := by rfl) (hv : Vis X.env.scope x := by first | exact Or.inl rfl | exact Or.inr (Or.inl rfl) | exact Or.inr (Or.inr rfl)) (hd : (x == ("__debug__" : Str)) = false := by decide)
    (hcd : (x == ("__classdict__" : Str)) = false := by decide) : EK X r (.Name x pos) ts := fun M0 H0 => pe_weak (pv i hN hv hd hcd) fun σ H Q ⟨M, w, k⟩ => by
  obtain ⟨v, a, p, vs, rfl, _, h2, h3⟩ := w.at_ i _ h
  exact ⟨_, a, k p vs M H (Ext.refl w.s) h2 h3⟩
theorem el_cat (ha : EK X r a ts) (hb : EK X r b us) (hl : ts.length + us.length ≤ 10000) : EL X r (.BinOp a .Add b pos) (ts ++ us) := fun M0 H0 =>
  pe_weak (pe_op op_cat (ha M0 H0) (hb M0 H0)) fun σ H Q ⟨M, w, k⟩ => ⟨M, w, fun q vs M1 H1 e1 h1 r1 => ⟨M1, w.up e1, fun q2 vs2 M2 H2 e2 h2 r2 =>
    ⟨q, q2, vs, vs2, rfl, rfl, e2.h _ _ h1, h2, by rw [← r1.len, ← r2.len]; exact Nat.le_trans hl (by decide), fun n hn => k n _ M2 _ ((e1.trans e2).trans (Ext.own e2.s hn)) (Same.free (e1.trans e2).h hn) (e2.s.free hn) upd_same (Reps.append (Reps.mono e2.m r1) r2)⟩⟩⟩
theorem Reps.rep1 {K : PySem.W.Frag} {M : Hp} {t : T} {v : V} (h : Rep K M t v) : ∀ n, Reps K M (List.replicate n t) (List.replicate n [v]).flatten
  | 0 => rfl
  | n + 1 => ⟨v, _, by simp [List.replicate_succ], h, Reps.rep1 h n⟩
/-- [x] * n -/
theorem el_rep (ha : EK X r a [t]) (hb : EV X r b (.int i)) (h1 : -10000 ≤ i) (h2 : i ≤ 10000) : EL X r (.BinOp a .Mult b pos) (List.replicate i.toNat t) := fun M0 H0 =>
  pe_weak (pe_op op_rep (ha M0 H0) (hb M0 H0)) fun σ H Q ⟨M, w, k⟩ => ⟨M, w, fun q vs M1 H1 e1 z1 r1 => ⟨M1, w.up e1, fun v M2 H2 e2 r2 => by
    obtain ⟨u, _, rfl, g1, rfl⟩ := r1
    refine ⟨q, i, [u], rfl, r2, e2.h _ _ z1, by omega, by omega, ?_, fun n hn => k n _ M2 _ ((e1.trans e2).trans (Ext.own e2.s hn)) (Same.free (e1.trans e2).h hn) (e2.s.free hn) upd_same (Reps.rep1 (Rep.mono e2.m g1) _)⟩
    have : ([u] : List V).length * i.toNat ≤ 10000 := by simp; omega
    exact Nat.le_trans this (by decide)⟩⟩
theorem ev_catT (ha : EV X r a (.tup ts)) (hb : EV X r b (.tup us)) (hn : ts ≠ []) (hl : ts.length + us.length ≤ 10000) : EV X r (.BinOp a .Add b pos) (.tup (ts ++ us)) := fun M0 H0 =>
  pe_weak (pe_op op_catT (ha M0 H0) (hb M0 H0)) fun σ H Q ⟨M, w, k⟩ => ⟨M, w, fun v M1 H1 e1 r1 => ⟨M1, w.up e1, fun u M2 H2 e2 r2 => by
    obtain ⟨q, vs, rfl, h2, h3⟩ := id r1
    obtain ⟨q', vs', rfl, h2', h3'⟩ := id r2
    refine ⟨q, q', vs, vs', rfl, rfl, SqT.of (e2.s _ _ (e2.m _ _ h2)), SqT.of (e2.s _ _ h2'), fun z => ?_, by rw [← h3.len, ← h3'.len]; exact Nat.le_trans hl (by decide), fun z => ?_, fun _ n hn => ?_⟩
    · subst z
      have := h3.len
      cases ts with
      | nil => exact hn rfl
      | cons _ _ => cases this
    · subst z
      have := h3'.len
      cases us with
      | nil => exact k _ M2 H2 (e1.trans e2) (by rw [List.append_nil]; exact Rep.mono e2.m r1)
      | cons _ _ => cases this
    · exact k _ _ _ ((e1.trans e2).trans (Ext.new e2.s hn)) ⟨n, _, rfl, upd_same, Reps.mono (sNew (e2.s.free hn)) (Reps.append (Reps.mono e2.m h3) h3')⟩⟩⟩

/-! ### in, not in: None and ints -/
def T.flat : T → Bool
  | .non => true
  | .int _ => true
  | .str _ => true
  | _ => false
def T.eqF : T → T → Bool
  | .non, .non => true
  | .int i, .int j => decide (i = j)
  | .str x, .str y => decide (x = y)
  | _, _ => false
def inT (t : T) (ts : List T) : Bool := ts.any fun u => u.eqF t
theorem flat_of {K : PySem.W.Frag} {M : Hp} {t : T} {v : V} (h : Rep K M t v) (f : t.flat = true) : flatV v = true := by
  cases t <;> cases f <;> (cases h; rfl)
theorem eqF_of {K : PySem.W.Frag} {M : Hp} {t u : T} {v w : V} (h : Rep K M t v) (f : t.flat = true) (h' : Rep K M u w) (f' : u.flat = true) : eqV v w = t.eqF u := by
  cases t <;> cases f <;> cases u <;> cases f' <;> cases h <;> cases h' <;> rfl
theorem flats_of {K : PySem.W.Frag} {M : Hp} : ∀ {ts : List T} {vs : List V}, Reps K M ts vs → ts.all T.flat = true → vs.all flatV = true
  | [], _, h, _ => by cases h; rfl
  | _ :: _, _, ⟨v, r, h1, h2, h3⟩, f => by
    subst h1
    rw [List.all_cons, Bool.and_eq_true] at f
    rw [List.all_cons, flat_of h2 f.1, flats_of h3 f.2]; rfl
theorem inV_of {K : PySem.W.Frag} {M : Hp} {t : T} {v : V} (h : Rep K M t v) (f : t.flat = true) : ∀ {ts : List T} {vs : List V}, Reps K M ts vs → ts.all T.flat = true → inV v vs = inT t ts
  | [], _, h, _ => by cases h; rfl
  | u :: ts, _, ⟨w, r, h1, h2, h3⟩, f' => by
    subst h1
    rw [List.all_cons, Bool.and_eq_true] at f'
    show (eqV w v || inV v r) = (u.eqF t || inT t ts)
    rw [eqF_of h2 f'.1 h f, inV_of h f h3 f'.2]
/-- x in xs, whatever kind of sequence -/
theorem in2 {op : CmpOp} {neg : Bool} (ho : OpR X (compareOp op) (rIn X.K neg)) (ha : EV X r a t) (hb : EQ X r b ts) (f : t.flat = true) (f' : ts.all T.flat = true) (hm : behindInMarks op b = false) :
    EV X r (.Compare a [op] [b] pos) (.bl (if neg then !inT t ts else inT t ts)) := fun M0 H0 =>
  pe_weak (pe_cmpR ho (ha M0 H0) (hb M0 H0) hm) fun σ H Q ⟨M, w, k⟩ => ⟨M, w, fun v M1 H1 e1 r1 => ⟨M1, w.up e1, fun u M2 H2 e2 r2 => by
    obtain ⟨q, vs, rfl, h2, h3⟩ := r2
    have h1 := Rep.mono e2.m r1
    refine ⟨q, vs, rfl, h2, flat_of h1 f, flats_of h3 f', ?_⟩
    rw [inV_of h1 f h3 f']
    exact k _ M2 H2 (e1.trans e2) rfl⟩⟩
theorem in2t {op : CmpOp} {neg : Bool} (ho : OpR X (compareOp op) (rIn X.K neg)) (ha : EV X r a t) (hb : EQ X r b ts) (f : t.flat = true) (f' : ts.all T.flat = true) (hm : behindInMarks op b = false) :
    ET X r (.Compare a [op] [b] pos) (if neg then !inT t ts else inT t ts) := fun M0 H0 =>
  pt_weak (pt_cmpR ho (ha M0 H0) (hb M0 H0) hm) fun σ H Q ⟨M, w, k⟩ => ⟨M, w, fun v M1 H1 e1 r1 => ⟨M1, w.up e1, fun u M2 H2 e2 r2 => by
    obtain ⟨q, vs, rfl, h2, h3⟩ := r2
    have h1 := Rep.mono e2.m r1
    refine ⟨q, vs, rfl, h2, flat_of h1 f, flats_of h3 f', _, ?_, k M2 H2 (e1.trans e2)⟩
    rw [inV_of h1 f h3 f']⟩⟩
theorem ev_in (ha : EV X r a t) (hb : EQ X r b ts) (f : t.flat = true) (f' : ts.all T.flat = true) (hm : behindInMarks .In b = false := by rfl) : EV X r (.Compare a [.In] [b] pos) (.bl (inT t ts)) := in2 (neg := false) op_in_seq ha hb f f' hm
theorem ev_ni (ha : EV X r a t) (hb : EQ X r b ts) (f : t.flat = true) (f' : ts.all T.flat = true) (hm : behindInMarks .NotIn b = false := by rfl) : EV X r (.Compare a [.NotIn] [b] pos) (.bl (!inT t ts)) := in2 (neg := true) op_notIn_seq ha hb f f' hm
theorem et_in (ha : EV X r a t) (hb : EQ X r b ts) (f : t.flat = true) (f' : ts.all T.flat = true) (hm : behindInMarks .In b = false := by rfl) : ET X r (.Compare a [.In] [b] pos) (inT t ts) := in2t (neg := false) op_in_seq ha hb f f' hm
theorem et_ni (ha : EV X r a t) (hb : EQ X r b ts) (f : t.flat = true) (f' : ts.all T.flat = true) (hm : behindInMarks .NotIn b = false := by rfl) : ET X r (.Compare a [.NotIn] [b] pos) (!inT t ts) := in2t (neg := true) op_notIn_seq ha hb f f' hm
theorem inT_ints {α : Type} {f : α → Int} {xs : List α} {n : Int} : inT (.int n) (xs.map fun x => .int (f x)) = xs.any fun x => decide (f x = n) := by
  unfold inT
  rw [List.any_map]
  rfl

/-! ### == and in of data -/
mutual
def T.dat : T → PyData
  | .non => .none
  | .bl b => .bool b
  | .int i => .int i
  | .str x => .str x
  | .tup ts => .tuple (T.dats ts)
  | .lst ts => .list (T.dats ts)
  | _ => .none
def T.dats : List T → List PyData
  | [] => []
  | t :: ts => t.dat :: T.dats ts
end
mutual
def T.isD : T → Bool
  | .tup ts => T.isDs ts
  | .lst ts => T.isDs ts
  | .ins _ _ _ => false
  | .rng _ _ => false
  | .ty _ => false
  | _ => true
def T.isDs : List T → Bool
  | [] => true
  | t :: ts => t.isD && T.isDs ts
end
mutual
theorem dp_of {K : PySem.W.Frag} {M H : Hp} (s : Same M H) : ∀ {t : T} {v : V}, t.isD = true → Rep K M t v → Dp K H v t.dat
  | .non, _, _, h => by cases h; exact .non
  | .bl _, _, _, h => by cases h; exact .bl _
  | .int _, _, _, h => by cases h; exact .int _
  | .str _, _, _, h => by cases h; exact .str _
  | .tup _, _, d, ⟨a, vs, h1, h2, h3⟩ => by subst h1; exact .tup (SqT.of (s _ _ h2)) (dps_of s d h3)
  | .lst _, _, d, ⟨a, vs, h1, h2, h3⟩ => by subst h1; exact .lst (SqL.of (s _ _ h2)) (dps_of s d h3)
  | .ins _ _ _, _, d, _ => by cases d
  | .rng _ _, _, d, _ => by cases d
  | .ty _, _, d, _ => by cases d
theorem dps_of {K : PySem.W.Frag} {M H : Hp} (s : Same M H) : ∀ {ts : List T} {vs : List V}, T.isDs ts = true → Reps K M ts vs → DpAll K H vs (T.dats ts)
  | [], _, _, h => by cases h; exact .nil
  | _ :: _, _, d, ⟨v, r, h1, h2, h3⟩ => by
    subst h1
    have d' := Bool.and_eq_true_iff.mp d
    exact .cons (dp_of s d'.1 h2) (dps_of s d'.2 h3)
end
variable {ta tb : T} {k : Bool}
structure DatOk (ta tb : T) : Prop where
  d1 : ta.isD = true
  d2 : tb.isD = true
  s1 : SeqAt.shaped ta.dat = true
  s2 : SeqAt.shaped tb.dat = true
theorem ev_eqD (ha : EV X r a ta) (hb : EV X r b tb) (d : DatOk ta tb) (hu : X.A.units + 64 < cLine) : EV X r (.Compare a [.Eq] [b] pos) (.bl (PyData.eqv ta.dat tb.dat)) :=
  ev_cmp2 (op_eqD hu) ha hb (nomark _) fun M H v u Q s h1 h2 k => ⟨_, _, dp_of s d.d1 h1, dp_of s d.d2 h2, d.s1, d.s2, k _ M H (Ext.refl s) rfl⟩
theorem et_eqD (ha : EV X r a ta) (hb : EV X r b tb) (d : DatOk ta tb) (hu : X.A.units + 64 < cLine) : ET X r (.Compare a [.Eq] [b] pos) (PyData.eqv ta.dat tb.dat) :=
  et_cmp2 (op_eqD hu) ha hb (nomark _) fun M H v u Q s h1 h2 k => ⟨_, _, dp_of s d.d1 h1, dp_of s d.d2 h2, d.s1, d.s2, k⟩
theorem et_neD (ha : EV X r a ta) (hb : EV X r b tb) (d : DatOk ta tb) (hu : X.A.units + 64 < cLine) : ET X r (.Compare a [.NotEq] [b] pos) (!PyData.eqv ta.dat tb.dat) :=
  et_cmp2 (op_neD hu) ha hb (nomark _) fun M H v u Q s h1 h2 k => ⟨_, _, dp_of s d.d1 h1, dp_of s d.d2 h2, d.s1, d.s2, k⟩
theorem ev_inD (ha : EV X r a ta) (hb : EV X r b (.lst ts)) (d : DatOk ta (.lst ts)) (hu : X.A.units + 65 < cLine) (hm : behindInMarks .In b = false := by rfl) : EV X r (.Compare a [.In] [b] pos) (.bl ((T.dats ts).any fun z => PyData.eqv z ta.dat)) :=
  ev_cmp2 (op_inD hu) ha hb hm fun M H v u Q s h1 h2 k => ⟨_, _, dp_of s d.d1 h1, dp_of (t := .lst ts) s d.d2 h2, d.s1, d.s2, k _ M H (Ext.refl s) rfl⟩

/-! ### built-ins of numbers -/
theorem ev_int1 (ha : EV X r a (.int i)) (hm : X.mg "int" = none) (hg : Gl X "int" := by rfl) (hst : starEach [a] X.env = (false, eval a X.env) :: starEach [] X.env := by rfl) : EV X r (.Call (.Name "int" p) [a] [] pos) (.int i) := fun M0 H0 =>
  pe_weak (pe_callTy call_int1 hg hm (by decide +kernel) (pa_cons (ha M0 H0) pa_nil hst) (he := hst)) fun σ H Q ⟨M, w, k⟩ => ⟨M, w, fun v M1 H1 e1 r1 => .inl ⟨i, by rw [show v = V.int i from r1], k _ M1 H1 e1 rfl⟩⟩
theorem ev_intB (ha : EV X r a (.bl k)) (hm : X.mg "int" = none) (hg : Gl X "int" := by rfl) (hst : starEach [a] X.env = (false, eval a X.env) :: starEach [] X.env := by rfl) : EV X r (.Call (.Name "int" p) [a] [] pos) (.int (if k then 1 else 0)) := fun M0 H0 =>
  pe_weak (pe_callTy call_int1 hg hm (by decide +kernel) (pa_cons (ha M0 H0) pa_nil hst) (he := hst)) fun σ H Q ⟨M, w, q⟩ => ⟨M, w, fun v M1 H1 e1 r1 => .inr ⟨k, by rw [show v = V.bl k from r1], q _ M1 H1 e1 rfl⟩⟩
theorem ev_max2 (ha : EV X r a (.int i)) (hb : EV X r b (.int j)) (hc : X.calm = true) (hm : X.mg "max" = none) (hg : Gl X "max" := by rfl) (hs1 : starEach [a, b] X.env = (false, eval a X.env) :: starEach [b] X.env := by rfl) (hs2 : starEach [b] X.env = (false, eval b X.env) :: starEach [] X.env := by rfl)
    (hpl : (backTo pos (starEach [b] X.env)).any (·.1) = false := by rfl) : EV X r (.Call (.Name "max" p) [a, b] [] pos) (.int (if j > i then j else i)) := fun M0 H0 =>
  pe_weak (pe_callB (call_max2 hc) hg hm (by decide +kernel) (pa_cons (ha M0 H0) (pa_cons (hb M0 H0) pa_nil hs2) hs1) (he := hs1) (hpl := hpl)) fun σ H Q ⟨M, w, k⟩ => ⟨M, w, fun v M1 H1 e1 r1 => ⟨M1, w.up e1, fun u M2 H2 e2 r2 => ⟨i, j, by rw [show v = V.int i from r1, show u = V.int j from r2], k _ M2 H2 (e1.trans e2) rfl⟩⟩⟩
theorem ev_min2 (ha : EV X r a (.int i)) (hb : EV X r b (.int j)) (hc : X.calm = true) (hm : X.mg "min" = none) (hg : Gl X "min" := by rfl) (hs1 : starEach [a, b] X.env = (false, eval a X.env) :: starEach [b] X.env := by rfl) (hs2 : starEach [b] X.env = (false, eval b X.env) :: starEach [] X.env := by rfl)
    (hpl : (backTo pos (starEach [b] X.env)).any (·.1) = false := by rfl) : EV X r (.Call (.Name "min" p) [a, b] [] pos) (.int (if j < i then j else i)) := fun M0 H0 =>
  pe_weak (pe_callB (call_min2 hc) hg hm (by decide +kernel) (pa_cons (ha M0 H0) (pa_cons (hb M0 H0) pa_nil hs2) hs1) (he := hs1) (hpl := hpl)) fun σ H Q ⟨M, w, k⟩ => ⟨M, w, fun v M1 H1 e1 r1 => ⟨M1, w.up e1, fun u M2 H2 e2 r2 => ⟨i, j, by rw [show v = V.int i from r1, show u = V.int j from r2], k _ M2 H2 (e1.trans e2) rfl⟩⟩⟩
theorem reps_ints {K : PySem.W.Frag} {M : Hp} : ∀ {ns : List Int} {vs : List V}, Reps K M (ns.map .int) vs → vs = ns.map V.int
  | [], _, h => h
  | _ :: _, _, ⟨v, r, h1, h2, h3⟩ => by
    subst h1
    rw [reps_ints h3, show v = V.int _ from h2]; rfl
theorem reps_of_ints {K : PySem.W.Frag} {M : Hp} : ∀ {ns : List Int}, Reps K M (ns.map .int) (ns.map V.int)
  | [] => rfl
  | _ :: _ => ⟨_, _, rfl, rfl, reps_of_ints⟩
theorem reps_bls {K : PySem.W.Frag} {M : Hp} : ∀ {ns : List Bool} {vs : List V}, Reps K M (ns.map .bl) vs → vs = ns.map V.bl
  | [], _, h => h
  | _ :: _, _, ⟨v, r, h1, h2, h3⟩ => by
    subst h1
    rw [reps_bls h3, show v = V.bl _ from h2]; rfl
variable {ns : List Int} {bs : List Bool}
theorem ev_sum (ha : EO X r a (ns.map .int)) (hc : X.calm = true) (hm : X.mg "sum" = none) (hg : Gl X "sum" := by rfl) (hst : starEach [a] X.env = (false, eval a X.env) :: starEach [] X.env := by rfl) (hpl : (backTo pos (starEach [] X.env)).any (·.1) = false := by rfl) : EV X r (.Call (.Name "sum" p) [a] [] pos) (.int ns.sum) := fun M0 H0 =>
  pe_weak (pe_callB (cr_sum hc) hg hm (by decide +kernel) (pa_cons (ha M0 H0) pa_nil hst) (he := hst)) fun σ H Q ⟨M, w, k⟩ => ⟨M, w, fun q vs M1 H1 e1 h1 r1 => by
    rw [reps_ints r1] at h1
    exact ⟨q, ns, rfl, h1, k _ M1 H1 e1 rfl⟩⟩
theorem ev_all (ha : EO X r a (bs.map .bl)) (hc : X.calm = true) (hm : X.mg "all" = none) (hg : Gl X "all" := by rfl) (hst : starEach [a] X.env = (false, eval a X.env) :: starEach [] X.env := by rfl) (hpl : (backTo pos (starEach [] X.env)).any (·.1) = false := by rfl) : EV X r (.Call (.Name "all" p) [a] [] pos) (.bl (bs.all id)) := fun M0 H0 =>
  pe_weak (pe_callB (cr_all hc) hg hm (by decide +kernel) (pa_cons (ha M0 H0) pa_nil hst) (he := hst)) fun σ H Q ⟨M, w, k⟩ => ⟨M, w, fun q vs M1 H1 e1 h1 r1 => by
    rw [reps_bls r1] at h1
    exact ⟨q, bs, rfl, h1, k _ M1 H1 e1 rfl⟩⟩
theorem ev_any (ha : EO X r a (bs.map .bl)) (hc : X.calm = true) (hm : X.mg "any" = none) (hg : Gl X "any" := by rfl) (hst : starEach [a] X.env = (false, eval a X.env) :: starEach [] X.env := by rfl) (hpl : (backTo pos (starEach [] X.env)).any (·.1) = false := by rfl) : EV X r (.Call (.Name "any" p) [a] [] pos) (.bl (bs.any id)) := fun M0 H0 =>
  pe_weak (pe_callB (cr_any hc) hg hm (by decide +kernel) (pa_cons (ha M0 H0) pa_nil hst) (he := hst)) fun σ H Q ⟨M, w, k⟩ => ⟨M, w, fun q vs M1 H1 e1 h1 r1 => by
    rw [reps_bls r1] at h1
    exact ⟨q, bs, rfl, h1, k _ M1 H1 e1 rfl⟩⟩
/-- sorted of ints: any list of the same, ascending -/
def tLP (K : PySem.W.Frag) (M0 H0 : Hp) (r : Rho) (P : List T → Prop) : TE := fun σ H Q => ∃ M, Wd K M0 H0 r σ M H ∧ ∀ ts p vs M' H', P ts → Ext M H M' H' → H p = none → M' p = none → H' p = some (.lst vs) → Reps K M' ts vs → Q (.ref p) H'
def ELP (X : Cx) (r : Rho) (e : Expr) (P : List T → Prop) : Prop := ∀ M0 H0, PE X e (tLP X.K M0 H0 r P)
theorem ELP.v {P : List T → Prop} (h : ELP X r e P) (u : ∀ us, P us → us = ts) : EL X r e ts := fun M0 H0 => pe_weak (h M0 H0) fun σ H Q ⟨M, w, k⟩ => ⟨M, w, fun us p vs M' H' pu e1 h1 h2 h3 h4 => k p vs M' H' e1 h1 h2 h3 (u us pu ▸ h4)⟩
theorem elp_sorted (ha : EO X r a (ns.map .int)) (hm : X.mg "sorted" = none) (hg : Gl X "sorted" := by rfl) (hst : starEach [a] X.env = (false, eval a X.env) :: starEach [] X.env := by rfl) (hpl : (backTo pos (starEach [] X.env)).any (·.1) = false := by rfl) :
    ELP X r (.Call (.Name "sorted" p) [a] [] pos) (fun us => ∃ ns' : List Int, us = ns'.map .int ∧ ns'.Perm ns ∧ ns'.Pairwise (· ≤ ·)) := fun M0 H0 =>
  pe_weak (pe_callB cr_sortedI hg hm (by decide +kernel) (pa_cons (ha M0 H0) pa_nil hst) (he := hst)) fun σ H Q ⟨M, w, k⟩ => ⟨M, w, fun q vs M1 H1 e1 h1 r1 => by
    rw [reps_ints r1] at h1
    exact ⟨q, ns, rfl, h1, fun ns' n hp hs hn => k _ n _ M1 _ ⟨ns', rfl, hp, hs⟩ (e1.trans (Ext.own e1.s hn)) (Same.free e1.h hn) (e1.s.free hn) upd_same reps_of_ints⟩⟩
/-- .. and there is one such list alone -/
theorem el_sorted {ms : List Int} (ha : EO X r a (ns.map .int)) (hp : ms.Perm ns) (hs : ms.Pairwise (· ≤ ·)) (hm : X.mg "sorted" = none) (hg : Gl X "sorted" := by rfl) (hst : starEach [a] X.env = (false, eval a X.env) :: starEach [] X.env := by rfl) (hpl : (backTo pos (starEach [] X.env)).any (·.1) = false := by rfl) :
    EL X r (.Call (.Name "sorted" p) [a] [] pos) (ms.map .int) := (elp_sorted ha hm hg hst hpl).v fun us ⟨ns', e, p', s'⟩ => by
  rw [e, List.Perm.eq_of_pairwise (le := fun x y => x ≤ y) (fun a b _ _ h1 h2 => Int.le_antisymm h1 h2) s' hs (p'.trans hp.symm)]

/-! ### fields -/
theorem lookup_zip {K : PySem.W.Frag} {M : Hp} {f : Str} : ∀ {ns : List Str} {ts : List T} {vs : List V} {i : Nat} {t : T}, ns.Nodup → ns[i]? = some f → ts[i]? = some t → Reps K M ts vs → ∃ v, (ns.zip vs).lookup f = some v ∧ Rep K M t v
  | n :: ns, _ :: ts, _, 0, t, nd, h1, h2, ⟨v, r, e1, e2, e3⟩ => by
    subst e1
    simp at h1 h2
    subst h1; subst h2
    refine ⟨v, ?_, e2⟩
    rw [List.zip_cons_cons, List.lookup_cons]
    simp
  | n :: ns, _ :: ts, _, i + 1, t, nd, h1, h2, ⟨v, r, e1, e2, e3⟩ => by
    subst e1
    have h1' : ns[i]? = some f := by simpa using h1
    obtain ⟨z, z1, z2⟩ := lookup_zip (i := i) (List.nodup_cons.mp nd).2 h1' (by simpa using h2) e3
    refine ⟨z, ?_, z2⟩
    rw [List.zip_cons_cons, List.lookup_cons]
    have : (f == n) = false := by
      rw [beq_eq_false_iff_ne]
      rintro rfl
      exact (List.nodup_cons.mp nd).1 (List.mem_of_getElem? h1')
    rw [this]
    exact z1
theorem ev_fld {C : Addr} {fs : List Str} (i : Nat) (h : EV X r e (.ins C fs ts)) (nd : fs.Nodup) (hc : Cls X.K C) (hn : NoAttr X.K C x) (h1 : fs[i]? = some x) (h2 : ts[i]? = some t) (hb : attributeBase e x X.env (eval e X.env) = eval e X.env := by rfl) : EV X r (.Attribute e x pos) t := fun M0 H0 =>
  pe_weak (pe_fld (h M0 H0) hb) fun σ H Q ⟨M, w, k⟩ => ⟨M, w, fun v M1 H1 e1 r1 => by
    obtain ⟨a, dx, vs, rfl, g2, g3⟩ := r1
    obtain ⟨v, l, q⟩ := lookup_zip nd h1 h2 g3
    exact ⟨a, C, dx, _, v, rfl, e1.s _ _ g2, hc, hn, l, k v M1 H1 e1 q⟩⟩
/-- a field of the instance that is being made -/
theorem ev_sfld {C : Addr} {fs : List Str} {sx : Str} (o i : Nat) {q : Addr} (h : r[o]? = some (some (.oi q C fs ts))) (nd : fs.Nodup) (hc : Cls X.K C) (hn : NoAttr X.K C x) (h1 : fs[i]? = some x) (h2 : ts[i]? = some t) (hN : X.N[o]? = some sx := by rfl) (hv : Vis X.env.scope sx := by first | exact Or.inl rfl | exact Or.inr (Or.inl rfl) | exact Or.inr (Or.inr rfl)) (hd : (sx == ("__debug__" : Str)) = false := by decide)
    (hcd : (sx == ("__classdict__" : Str)) = false := by decide) (hb : attributeBase (.Name sx p) x X.env (eval (.Name sx p) X.env) = eval (.Name sx p) X.env := by rfl) : EV X r (.Attribute (.Name sx p) x pos) t := fun M0 H0 =>
  pe_weak (pe_fld (pv o hN hv hd hcd) hb) fun σ H Q ⟨M, w, k⟩ => by
    obtain ⟨v, z, dx, vs, rfl, g1, g2, g3, g4⟩ := w.at_ o _ h
    obtain ⟨u, l, q'⟩ := lookup_zip nd h1 h2 g4
    exact ⟨_, z, q, C, dx, _, u, rfl, g2, hc, hn, l, k u M H (Ext.refl w.s) q'⟩
end
end TL

/-! TL, part d: what is walked, targets, comprehensions. -/
namespace TL
open PySem L2 PySem.Spec PyProof.Rows

/-! ### enumerate of a tuple, a range object walked -/
open AutoSeq1 (wpAny_loadPart') in
/-- enumerate(v) of anything that begins an iterator -/
theorem enum_new {v : Value} {o : Obj} {Hh : Heap → Prop} (B : Begins v o Hh) :
    Meets (Builtin.«enumerate.__new__» ⟨[.type "enumerate", v], []⟩) (fun _ R s => Hh s.heap ∧
      R (.ok (.ret (.ref (s.heap.push o).objs.size))) { s with heap := (s.heap.push o).push { cls := .type "enumerate", data := .fields #[.none, .bool false, .ref s.heap.objs.size, rawInt 0, .none, .none] } }) :=
  .of_wp fun prog w A R s h => by
    obtain ⟨hp, g, d, tk, os⟩ := s
    obtain ⟨hb, hr⟩ := h
    have isSub := sub_enumerate
    have it0 : ∀ {A' : Around} {E : Value → Shared → Prop} {Q : Value → Shared → Prop}, Q (.ref hp.objs.size) ⟨hp.push o, g, d, tk, os⟩ → wpAny (model prog w) A' (pyIter v) Q E ⟨hp, g, d, tk, os⟩ :=
      fun z => B.iter prog w _ _ ⟨hp, g, d, tk, os⟩ _ hb z
    wp_walk using it0
    refine wpAny_stack_any fun st => wpAny_pure ?_
    split
    · rename_i c _ _ _ _ _
      cases (c == Value.type "enumerate") <;> (wp_walk using it0; exact ⟨_, rfl, hr⟩)
    · wp_walk using it0
      exact ⟨_, rfl, hr⟩
theorem enum_make {prog : Program} {w : World} {A : Around} {E : Value → Shared → Prop} {s : Shared} {v : Value} {o : Obj} {Hh : Heap → Prop} {Q : Value → Shared → Prop} (B : Begins v o Hh) (h1 : Hh s.heap)
    (h : ∀ h', IsEnum h' (s.heap.objs.size + 1) s.heap.objs.size 0 .none → h'.get? s.heap.objs.size = some o → (∀ b u, s.heap.get? b = some u → h'.get? b = some u) → Q (.ref (s.heap.objs.size + 1)) { s with heap := h' }) :
    wpAny (model prog w) A (call (.type "enumerate") [v]) Q E s := by
  have hz : (s.heap.push o).objs.size = s.heap.objs.size + 1 := Heap.size_push ..
  have he : IsEnum ((s.heap.push o).push { cls := .type "enumerate", data := .fields #[.none, .bool false, .ref s.heap.objs.size, rawInt 0, .none, .none] }) (s.heap.objs.size + 1) s.heap.objs.size 0 .none := by
    have e := Heap.get?_push_size (s.heap.push o) (o := { cls := .type "enumerate", data := .fields #[.none, .bool false, .ref s.heap.objs.size, rawInt 0, .none, .none] }) rfl
    rw [hz] at e
    exact e
  refine callType_new F.called_enumerate (by decide) (F.typeCall_enumerate_1 _) (F.newCall_enumerate_1 _) (fun obj => F.args_object_init_2 obj _) F.entry_enumerate_new (enum_new B) ⟨h1, ?_⟩
  show _ ∧ _
  rw [hz]
  exact ⟨⟨_, he, rfl⟩, h _ he (Heap.get?_push_of_some _ (Heap.get?_push_size _ B.free)) fun b u x => Heap.get?_push_of_some _ (Heap.get?_push_of_some _ x)⟩

/-- the tuple at a, each item in a new pair with its place -/
def ItE (K : PySem.W.Frag) (a : Addr) : It where
  go i H := ∃ (xs : List V) (x : V), SqT K H a xs ∧ xs[i]? = some x
  yld i H v H' := ∃ t x, v = .ref t ∧ H t = none ∧ H' = upd H t (.tup [.int (i : Nat), x]) ∧ ∀ xs, SqT K H a xs → xs[i]? = some x
  stop i H := ∃ xs : List V, SqT K H a xs ∧ xs.length ≤ i
theorem turn_enT {P : Program} {w : World} {K : PySem.W.Frag} {elts : List Expr} {kk : Nat} {tp : Pos} (a e it : Addr) :
    Turn P w K (.Tuple elts kk tp) (ItE K a) [e, it] e (fun i h => (∃ old, IsEnum h e it ((i : Nat) : Int) old) ∧ h.IsTupleIter it a i ∧ e ≠ it ∧ a ≠ it ∧ a ≠ e) where
  mem := by simp
  obj := by
    rintro i h ⟨⟨old, he⟩, ⟨o, ho, hc, hd⟩, _⟩ b hb
    simp only [List.mem_cons, List.not_mem_nil, or_false] at hb
    rcases hb with rfl | rfl
    · exact ⟨_, he, fun v q => nomatch q⟩
    · exact ⟨o, ho, fun v q => by rw [hd] at q; cases q⟩
  keep := by
    rintro i h h' ⟨⟨old, he⟩, hi, hne⟩ k
    exact ⟨⟨old, k e (by simp) _ he⟩, hi.at fun o q => k it (by simp) o q, hne⟩
  item := by
    rintro X rfl rfl rfl hc i pins s σ H E I hf ⟨⟨old, he⟩, hit, hne, hai, hae⟩ ⟨xs, x, hq, hx⟩
    obtain ⟨us, rv, ht, hz⟩ := I.tuple hq
    obtain ⟨u, hu, ru⟩ := rv.get hx
    have el : e < s.heap.objs.size := Heap.lt_size he
    have il : it < s.heap.objs.size := by obtain ⟨_, q, _⟩ := hit; exact Heap.lt_size q
    have hlt : i < us.toArray.size := by
      have := (List.getElem?_eq_some_iff.mp hu).1
      simpa using this
    refine wpAny_pyNext_enum_itemD (Draws.tuple (prog := X.prog) (w := X.w) (A := X.A.in1) (I.ok.hd hc) it a hai us.toArray) he ⟨hit, (show s.heap.IsTuple a us.toArray from ht)⟩ hlt hne (by simp [hne, Ne.symm hae]) fun y h' tk hy ho hs' hT hsz hk => ?_
    have ey : y = u := by
      have h1 : us[i]? = some y := by simpa using hy
      rw [hu] at h1
      exact (Option.some.inj h1).symm
    subst ey
    refine ⟨_, rfl, wpAny_letOwnedTupleGo_enum (s := { s with heap := h', toks := tk + 1 }) ho fun h2 he2 sb => ?_⟩
    have hT2 : h2.get? s.heap.objs.size = some { cls := .type "tuple", data := .seq #[.int i tk, y] } := (sb.2 _ (Nat.ne_of_gt el)).trans hT
    have I1 : Inv X pins σ (upd H s.heap.objs.size (.tup [.int (i : Nat), x])) { s with heap := h2, toks := tk + 1 } :=
      I.turnedNew (ch := [e, it]) (fun b ob hb q => (sb.2 b fun z => hb (by simp [z])).trans (hk b ob (fun z => hb (by simp [z])) (fun z => hb (by simp [z])) q)) hf (Nat.le_refl _)
        ⟨by show 2 ≤ sizeLine; decide, [.int i tk, y], .cons ⟨_, rfl⟩ (.cons ru .nil), ⟨_, hT2, rfl, _, rfl⟩⟩
    refine ⟨.ref s.heap.objs.size, _, I1, rfl, ⟨_, x, rfl, I.hok.fresh (Nat.le_refl _), rfl, fun ys hy' => by rw [I.tuple_inj hy' hq]; exact hx⟩, ⟨⟨y, ?_⟩, hs'.1.at fun o q => (sb.2 it (Ne.symm hne)).trans q, hne, hai, hae⟩, fun b hb => ?_⟩
    · rw [show ((i + 1 : Nat) : Int) = (i : Int) + 1 by omega]; exact he2
    · have hb' : b < s.heap.objs.size := by
        simp only [List.mem_cons, List.not_mem_nil, or_false] at hb
        rcases hb with rfl | rfl
        · exact el
        · exact il
      rw [upd_ne (Nat.ne_of_lt hb')]
      exact (hf b hb).1
  done := by
    rintro X rfl rfl rfl hc i pins s σ H E I hf ⟨⟨old, he⟩, hit, hne, hai, hae⟩ ⟨xs, hq, hx⟩
    obtain ⟨us, rv, ht, hz⟩ := I.tuple hq
    obtain ⟨f0, f1, f2, f3, f4, f5⟩ := hf it (by simp)
    have hl := rv.length
    have D := Draws.tuple (prog := X.prog) (w := X.w) (A := X.A.in1) (I.ok.hd hc) it a hai us.toArray
    -- past the end it stands as at the end
    by_cases hi : i = us.toArray.size
    · subst hi
      exact wpAny_pyNext_enum_endD D he ⟨hit, (show s.heap.IsTuple a us.toArray from ht)⟩ fun h' eb => ⟨rfl, I.turned (t' := s.toks) (fun b o hb q => eb b o hb q) f0 f1 f3 f4 f5⟩
    · have D' : Draws X.prog X.w X.A.in1 it [it, a] i (fun _ _ => False) (fun j h => j = i ∧ h.IsTupleIter it a i ∧ h.IsTuple a us.toArray) :=
        ⟨fun _ _ st => let ⟨o, ho, _⟩ := st.2.1; ⟨o, ho⟩, fun _ _ _ st hk => ⟨st.1, st.2.1.at fun o e => hk it (by simp) o e, st.2.2.at fun o e => hk a (by simp) o e⟩,
          fun j s' Q E' hj st _ => absurd st.1 (Nat.ne_of_lt hj), fun s' Q E' st hE => wpAny_nextOf_tuple_end (I.ok.hd hc) st.2.1 st.2.2 (by simp; omega) hE⟩
      exact wpAny_pyNext_enum_endD D' he ⟨rfl, hit, (show s.heap.IsTuple a us.toArray from ht)⟩ fun h' eb => ⟨rfl, I.turned (t' := s.toks) (fun b o hb q => eb b o hb q) f0 f1 f3 f4 f5⟩
  self := fun A i s Q E st h => wpAny_pyIter_enum st.1.choose_spec h
def iEnT (K : PySem.W.Frag) (ta : TA) : TI := fun σ H R => ta σ H fun vs H1 => ∃ a xs, vs = [.ref a] ∧ SqT K H1 a xs ∧ R (ItE K a) H1
theorem pi_enT {X : Cx} {e : Expr} {ta : TA} {p pos tp : Pos} {elts : List Expr} {kk : Nat} (hg : Gl X "enumerate") (hm : X.mg "enumerate" = none) (ha : PA X [e] ta) (hs : starEach [e] X.env = [(false, eval e X.env)] := by rfl) :
    PI X (.Tuple elts kk tp) (.Call (.Name "enumerate" p) [e] [] pos) (iEnT X.K ta) := by
  refine ⟨fun pins s σ H R I h => Call_ (ld_blt I hg hm boot_enumerate (PyProof.Rows.callWith_type1 (thn (ha.run pos pins s σ H _ I h) fun us s1 ⟨vs, H1, I1, r1, a, xs, ex, hq, q⟩ => ?_) hs rfl))⟩
  subst ex
  rw [Vals.ref1 r1]
  obtain ⟨ws, rv, ht, hz⟩ := I1.tuple hq
  have hT : s1.heap.IsTuple a ws.toArray := ht
  refine enum_make (begins_tuple a ws.toArray) hT fun h' he hit hk => wpAny_pyIter_enum he ?_
  have hal : a < s1.heap.objs.size := by obtain ⟨o, q, _⟩ := hT; exact Heap.lt_size q
  refine ⟨s1.heap.objs.size + 1, [s1.heap.objs.size + 1, s1.heap.objs.size], _, _, H1, rfl, I1.kept (t' := s1.toks) hk, turn_enT a (s1.heap.objs.size + 1) s1.heap.objs.size, ⟨⟨.none, he⟩, ⟨_, hit, rfl, rfl⟩, Nat.succ_ne_self _, Nat.ne_of_lt hal, Nat.ne_of_lt (Nat.lt_succ_of_lt hal)⟩, fun b hb => ?_, q⟩
  have hle : s1.heap.objs.size ≤ b := by
    simp only [List.mem_cons, List.not_mem_nil, or_false] at hb
    rcases hb with rfl | rfl
    · exact Nat.le_succ _
    · exact Nat.le_refl _
  exact I1.fpOk hle (I1.hok.fresh hle)

def iRg (te : TE) : TI := fun σ H R => te σ H fun x H1 => ∃ a lo hi, x = .ref a ∧ H1 a = some (.rng lo hi) ∧ (-(2 ^ 62) ≤ lo ∧ lo < 2 ^ 62 ∧ -(2 ^ 62) ≤ hi ∧ hi < 2 ^ 62) ∧ R (Itr lo (hi - lo).toNat) H1
theorem pi_rg {X : Cx} {tg e : Expr} {te : TE} (he : PE X e te) : PI X tg e (iRg te) := by
  refine ⟨fun pins s σ H R I h => thn (he.run pins s σ H _ I h) fun v s1 ⟨x, H1, I1, r1, a, lo, hi, ex, ha, ⟨b1, b2, b3, b4⟩, q⟩ => ?_⟩
  subst ex
  cases r1
  obtain ⟨t, u, v, hr⟩ := (show ObjOk X.prog X.w H1 s1.heap a (.rng lo hi) from I1.hok a _ ha)
  refine wpAny_pyIter_range (show IsRange s1.heap a lo hi 1 t u v from hr) (small_one b1 b2 b3 b4) ?_
  refine ⟨s1.heap.objs.size, [s1.heap.objs.size], _, _, H1, rfl, I1.kept (t' := s1.toks) fun b o e => Heap.get?_push_of_some _ e, turn_range _ lo (hi - lo).toNat, ?_, fun b hb => ?_, q⟩
  · have e1 : lo + ((0 : Nat) : Int) * 1 = lo := by simp
    have e2 : (((hi - lo).toNat : Nat) : Int) - ((0 : Nat) : Int) = Builtin.Range.rangeSize lo hi 1 := by rw [rangeSize_one]; split <;> omega
    show IsRangeIter _ _ (lo + ((0 : Nat) : Int) * 1) ((((hi - lo).toNat : Nat) : Int) - ((0 : Nat) : Int)) 1
    rw [e1, e2]
    exact Heap.get?_push_size _ rfl
  · rw [List.mem_singleton.mp hb]
    exact I1.fpOk (Nat.le_refl _) (I1.hok.fresh (Nat.le_refl _))
theorem cr_rng1 {X : Cx} : CallR X (.type "range") (fun vs H Q => ∃ j, vs = [V.int j] ∧ ∀ p, H p = none → Q (.ref p) (upd H p (.rng 0 j))) := by
  intro pins s σ H vs us Q I r h
  obtain ⟨j, rfl, q⟩ := h
  obtain ⟨u1, rfl, ri⟩ := vals1 r
  obtain ⟨t, rfl⟩ := ri
  refine call_range_1 ⟨.ref s.heap.objs.size, upd H s.heap.objs.size (.rng 0 j), ?_, rfl, q _ (I.hok.fresh (Nat.le_refl _))⟩
  exact I.laid (fun b o e => Heap.get?_push_of_some _ e) (Nat.le_refl _) ⟨_, _, _, Heap.get?_push_size _ rfl⟩

/-! ### what is walked -/
structure Walks (K : PySem.W.Frag) (M1 H0 : Hp) (J : It) (ts : List T) : Prop where
  go : ∀ i M H, Same M1 M → Same M H → Same H0 H → i < ts.length → J.go i H
  stop : ∀ M H, Same M1 M → Same M H → Same H0 H → J.stop ts.length H
  yld : ∀ i x M H H', Same M1 M → Same M H → Same H0 H → i < ts.length → J.yld i H x H' → ∃ t M', ts[i]? = some t ∧ Ext M H M' H' ∧ Rep K M' t x
def tI (K : PySem.W.Frag) (M0 H0 : Hp) (r : Rho) (ts : List T) : TI := fun σ H R => ∃ M, Wd K M0 H0 r σ M H ∧ ∀ J M' H', Ext M H M' H' → Walks K M' H0 J ts → R J H'
def EI (X : Cx) (r : Rho) (tg e : Expr) (ts : List T) : Prop := ∀ M0 H0, PI X tg e (tI X.K M0 H0 r ts)
theorem pi_weak {X : Cx} {tg e : Expr} {t t' : TI} (h : PI X tg e t) (f : ∀ σ H Q, t' σ H Q → t σ H Q) : PI X tg e t' := ⟨fun pins s σ H Q I q => h.run pins s σ H Q I (f σ H Q q)⟩
section
variable {X : Cx} {r : Rho} {tg e a b : Expr} {ts us : List T} {p pos : Pos} {x : Str} {n : Int}
theorem sqL_at {K : PySem.W.Frag} {M H : Hp} {a : Addr} {vs : List V} {i : Nat} (h : SqL K H a vs) (hi : i < vs.length) : ∃ xs x, SqL K H a xs ∧ xs[i]? = some x := ⟨vs, vs[i], h, List.getElem?_eq_getElem hi⟩
theorem walks_list {K : PySem.W.Frag} {M1 H0 : Hp} {a : Addr} {vs : List V} (h : ∀ M H, Same M1 M → Same M H → Same H0 H → SqL K H a vs) (q : Reps K M1 ts vs) : Walks K M1 H0 (Itl K a) ts where
  go := fun i M H s1 s2 s3 hi => ⟨vs, vs[i]'(by rw [← q.len]; exact hi), h M H s1 s2 s3, List.getElem?_eq_getElem _⟩
  stop := fun M H s1 s2 s3 => ⟨vs, h M H s1 s2 s3, by rw [q.len]; exact Nat.le_refl _⟩
  yld := fun i x M H H' s1 s2 s3 hi ⟨e, y⟩ => by
    subst e
    obtain ⟨t, h1, h2⟩ := q.back (y vs (h M _ s1 s2 s3))
    exact ⟨t, M, h1, Ext.refl s2, Rep.mono s1 h2⟩
theorem walks_tup {K : PySem.W.Frag} {M1 H0 : Hp} {a : Addr} {vs : List V} (h : M1 a = some (.tup vs)) (q : Reps K M1 ts vs) : Walks K M1 H0 (Itt K a) ts where
  go := fun i M H s1 s2 s3 hi => ⟨vs, vs[i]'(by rw [← q.len]; exact hi), SqT.of (s2 _ _ (s1 _ _ h)), List.getElem?_eq_getElem _⟩
  stop := fun M H s1 s2 s3 => ⟨vs, SqT.of (s2 _ _ (s1 _ _ h)), by rw [q.len]; exact Nat.le_refl _⟩
  yld := fun i x M H H' s1 s2 s3 hi ⟨e, y⟩ => by
    subst e
    obtain ⟨t, h1, h2⟩ := q.back (y vs (SqT.of (s2 _ _ (s1 _ _ h))))
    exact ⟨t, M, h1, Ext.refl s2, Rep.mono s1 h2⟩
theorem ei_list (h : EV X r e (.lst ts)) : EI X r tg e ts := fun M0 H0 => pi_weak (pi_list (h M0 H0)) fun σ H R ⟨M, w, k⟩ => ⟨M, w, fun v M1 H1 e1 ⟨a, vs, h1, h2, h3⟩ =>
  ⟨a, h1, ⟨vs, SqL.of (e1.s _ _ h2)⟩, k _ M1 H1 e1 (walks_list (fun M H s1 s2 _ => SqL.of (s2 _ _ (s1 _ _ h2))) h3)⟩⟩
theorem ei_tup (h : EV X r e (.tup ts)) : EI X r tg e ts := fun M0 H0 => pi_weak (pi_tup (h M0 H0)) fun σ H R ⟨M, w, k⟩ => ⟨M, w, fun v M1 H1 e1 ⟨a, vs, h1, h2, h3⟩ =>
  ⟨a, h1, ⟨vs, SqT.of (e1.s _ _ h2)⟩, k _ M1 H1 e1 (walks_tup h2 h3)⟩⟩
/-- a list that one only reads -/
theorem ei_ro (i : Nat) (h : r[i]? = some (some (.ro ts))) (hN : X.N[i]? = some x := by rfl) (hv : Vis X.env.scope x := by first | exact Or.inl rfl | exact Or.inr (Or.inl rfl) | exact Or.inr (Or.inr rfl)) (hd : (x == ("__debug__" : Str)) = false := by decide)
    (hcd : (x == ("__classdict__" : Str)) = false := by decide) : EI X r tg (.Name x pos) ts := fun M0 H0 => pi_weak (pi_list (pv i hN hv hd hcd)) fun σ H R ⟨M, w, k⟩ => by
  obtain ⟨v, z, p, vs, rfl, h2, h3⟩ := w.at_ i _ h
  exact ⟨_, z, p, rfl, ⟨vs, Same.seq w.ext.h h2⟩, k _ M H (Ext.refl w.s) (walks_list (fun M' H' _ _ s3 => Same.seq s3 h2) h3)⟩
def rgT (lo : Int) (n : Nat) : List T := (List.range n).map fun k => .int (lo + (k : Nat))
theorem rgT_len (lo : Int) (n : Nat) : (rgT lo n).length = n := by unfold rgT; simp
theorem rgT_get {lo : Int} {n i : Nat} (h : i < n) : (rgT lo n)[i]? = some (.int (lo + (i : Nat))) := by unfold rgT; rw [List.getElem?_map, List.getElem?_range h]; rfl
theorem walks_rng {K : PySem.W.Frag} {M1 H0 : Hp} {lo : Int} {n : Nat} : Walks K M1 H0 (Itr lo n) (rgT lo n) where
  go := fun i M H _ _ _ hi => by rw [rgT_len] at hi; exact hi
  stop := fun M H _ _ _ => by rw [rgT_len]; exact Nat.le_refl n
  yld := fun i x M H H' s1 s2 s3 hi ⟨e, y⟩ => by
    subst e y
    rw [rgT_len] at hi
    exact ⟨_, M, rgT_get hi, Ext.refl s2, rfl⟩
theorem ei_range (ha : EV X r a (.int n)) (h1 : -1000000 ≤ n) (h2 : n ≤ 1000000) (hm : X.mg "range" = none) (hg : Gl X "range" := by rfl) (hs : starEach [a] X.env = [(false, eval a X.env)] := by rfl) : EI X r tg (.Call (.Name "range" p) [a] [] pos) (rgT 0 n.toNat) := fun M0 H0 =>
  pi_weak (pi_range1 hg hm (pa_cons (ha M0 H0) pa_nil hs) hs) fun σ H R ⟨M, w, k⟩ => ⟨M, w, fun v M1 H1 e1 r1 => ⟨n, by rw [show v = V.int n from r1], by omega, by omega, k _ M1 H1 e1 walks_rng⟩⟩
theorem ei_rg {lo hi : Int} (h : EV X r e (.rng lo hi)) (b : -1000000 ≤ lo ∧ lo ≤ 1000000 ∧ -1000000 ≤ hi ∧ hi ≤ 1000000) : EI X r tg e (rgT lo (hi - lo).toNat) := fun M0 H0 => pi_weak (pi_rg (h M0 H0)) fun σ H R ⟨M, w, k⟩ => ⟨M, w, fun v M1 H1 e1 ⟨a, h1, h2⟩ =>
  ⟨a, lo, hi, h1, e1.s _ _ h2, ⟨by omega, by omega, by omega, by omega⟩, k _ M1 H1 e1 walks_rng⟩⟩
theorem ev_rng (ha : EV X r a (.int n)) (hm : X.mg "range" = none) (hg : Gl X "range" := by rfl) (hst : starEach [a] X.env = (false, eval a X.env) :: starEach [] X.env := by rfl) : EV X r (.Call (.Name "range" p) [a] [] pos) (.rng 0 n) := fun M0 H0 =>
  pe_weak (pe_callTy cr_rng1 hg hm (by decide +kernel) (pa_cons (ha M0 H0) pa_nil hst) (he := hst)) fun σ H Q ⟨M, w, k⟩ => ⟨M, w, fun v M1 H1 e1 r1 => ⟨n, by rw [show v = V.int n from r1], fun q hq => k _ _ _ (e1.trans (Ext.new e1.s hq)) ⟨q, rfl, upd_same⟩⟩⟩
/-- the items with their places -/
def enT (ts : List T) : List T := ts.mapIdx fun i t => .tup [.int (i : Nat), t]
theorem enT_len (ts : List T) : (enT ts).length = ts.length := by unfold enT; simp
theorem enT_get {ts : List T} {i : Nat} {t : T} (h : ts[i]? = some t) : (enT ts)[i]? = some (.tup [.int (i : Nat), t]) := by unfold enT; rw [List.getElem?_mapIdx, h]; rfl
theorem yld_new {K : PySem.W.Frag} {M H : Hp} {q : Addr} {ts : List T} {vs : List V} (s : Same M H) (hq : H q = none) (h : Reps K M ts vs) : Ext M H (upd M q (.tup vs)) (upd H q (.tup vs)) ∧ Rep K (upd M q (.tup vs)) (.tup ts) (.ref q) :=
  ⟨Ext.new s hq, q, vs, rfl, upd_same, Reps.mono (sNew (Same.free s hq)) h⟩
variable {elts : List Expr} {kk : Nat} {tp : Pos}
theorem ei_enumT (h : EV X r a (.tup ts)) (hm : X.mg "enumerate" = none) (hg : Gl X "enumerate" := by rfl) (hs : starEach [a] X.env = [(false, eval a X.env)] := by rfl) : EI X r (.Tuple elts kk tp) (.Call (.Name "enumerate" p) [a] [] pos) (enT ts) := fun M0 H0 =>
  pi_weak (pi_enT hg hm (pa_cons (h M0 H0) pa_nil hs) hs) fun σ H R ⟨M, w, k⟩ => ⟨M, w, fun v M1 H1 e1 ⟨q, vs, h1, h2, h3⟩ => by
    subst h1
    refine ⟨q, vs, rfl, SqT.of (e1.s _ _ h2), k _ M1 H1 e1 ⟨fun i M H s1 s2 s3 hi => ?_, fun M H s1 s2 s3 => ?_, fun i x M H H' s1 s2 s3 hi y => ?_⟩⟩
    · rw [enT_len, h3.len] at hi
      exact ⟨vs, vs[i], SqT.of (s2 _ _ (s1 _ _ h2)), List.getElem?_eq_getElem hi⟩
    · exact ⟨vs, SqT.of (s2 _ _ (s1 _ _ h2)), by rw [enT_len, h3.len]; exact Nat.le_refl _⟩
    · obtain ⟨q2, z, rfl, hq2, rfl, hz⟩ := y
      obtain ⟨t, g1, g2⟩ := h3.back (hz vs (SqT.of (s2 _ _ (s1 _ _ h2))))
      obtain ⟨f1, f2⟩ := yld_new (K := X.K) (ts := [.int (i : Nat), t]) (vs := [.int (i : Nat), z]) s2 hq2 ⟨_, _, rfl, rfl, _, _, rfl, Rep.mono s1 g2, rfl⟩
      exact ⟨_, _, enT_get g1, f1, f2⟩⟩
theorem ei_enumL (h : EV X r a (.lst ts)) (hm : X.mg "enumerate" = none) (hg : Gl X "enumerate" := by rfl) (hs : starEach [a] X.env = [(false, eval a X.env)] := by rfl) : EI X r (.Tuple elts kk tp) (.Call (.Name "enumerate" p) [a] [] pos) (enT ts) := fun M0 H0 =>
  pi_weak (pi_enum hg hm (pa_cons (h M0 H0) pa_nil hs) hs) fun σ H R ⟨M, w, k⟩ => ⟨M, w, fun v M1 H1 e1 ⟨q, vs, h1, h2, h3⟩ => by
    subst h1
    refine ⟨q, vs, rfl, SqL.of (e1.s _ _ h2), k _ M1 H1 e1 ⟨fun i M H s1 s2 s3 hi => ?_, fun M H s1 s2 s3 => ?_, fun i x M H H' s1 s2 s3 hi y => ?_⟩⟩
    · rw [enT_len, h3.len] at hi
      exact ⟨vs, vs[i], SqL.of (s2 _ _ (s1 _ _ h2)), List.getElem?_eq_getElem hi⟩
    · exact ⟨vs, SqL.of (s2 _ _ (s1 _ _ h2)), by rw [enT_len, h3.len]; exact Nat.le_refl _⟩
    · obtain ⟨q2, z, rfl, hq2, rfl, hz⟩ := y
      obtain ⟨t, g1, g2⟩ := h3.back (hz vs (SqL.of (s2 _ _ (s1 _ _ h2))))
      obtain ⟨f1, f2⟩ := yld_new (K := X.K) (ts := [.int (i : Nat), t]) (vs := [.int (i : Nat), z]) s2 hq2 ⟨_, _, rfl, rfl, _, _, rfl, Rep.mono s1 g2, rfl⟩
      exact ⟨_, _, enT_get g1, f1, f2⟩⟩
/-- the items of two, in pairs -/
def zpT (ts us : List T) : List T := List.zipWith (fun t u => .tup [t, u]) ts us
theorem zpT_len (ts us : List T) : (zpT ts us).length = min ts.length us.length := by unfold zpT; simp
theorem zpT_get {ts us : List T} {i : Nat} {t u : T} (h : ts[i]? = some t) (h' : us[i]? = some u) : (zpT ts us)[i]? = some (.tup [t, u]) := by unfold zpT; rw [List.getElem?_zipWith, h, h']
theorem ei_zipT (h : EV X r a (.tup ts)) (h' : EV X r b (.tup us)) (hm : X.mg "zip" = none) (hg : Gl X "zip" := by rfl) (hs : starEach [a, b] X.env = (false, eval a X.env) :: starEach [b] X.env := by rfl) (hs2 : starEach [b] X.env = (false, eval b X.env) :: starEach [] X.env := by rfl) (hpl : (backTo pos (starEach [b] X.env)).any (·.1) = false := by rfl) :
    EI X r (.Tuple elts kk tp) (.Call (.Name "zip" p) [a, b] [] pos) (zpT ts us) := fun M0 H0 =>
  pi_weak (RZ.pi_zipA hg hm (pa_cons (h M0 H0) (pa_cons (h' M0 H0) pa_nil hs2) hs) hs hpl) fun σ H R ⟨M, w, k⟩ => ⟨M, w, fun v M1 H1 e1 r1 => ⟨M1, w.up e1, fun v' M2 H2 e2 r2 => by
    obtain ⟨q, vs, rfl, h2, h3⟩ := r1
    obtain ⟨q', vs', rfl, h2', h3'⟩ := r2
    have g2 := e2.m _ _ h2
    have g3 := Reps.mono e2.m h3
    refine ⟨q, q', vs, vs', rfl, .inr ⟨SqT.of (e2.s _ _ g2), SqT.of (e2.s _ _ h2'), k _ M2 H2 (e1.trans e2) ⟨fun i M H s1 s2 s3 hi => ?_, fun M H s1 s2 s3 => ?_, fun i x M H H' s1 s2 s3 hi y => ?_⟩⟩⟩
    · rw [zpT_len, g3.len, h3'.len] at hi
      have a1 : i < vs.length := by omega
      have a2 : i < vs'.length := by omega
      exact ⟨vs, vs', vs[i], vs'[i], SqT.of (s2 _ _ (s1 _ _ g2)), SqT.of (s2 _ _ (s1 _ _ h2')), List.getElem?_eq_getElem a1, List.getElem?_eq_getElem a2⟩
    · refine ⟨vs, vs', SqT.of (s2 _ _ (s1 _ _ g2)), SqT.of (s2 _ _ (s1 _ _ h2')), ?_⟩
      rw [zpT_len, g3.len, h3'.len]
      omega
    · obtain ⟨q2, z, z', rfl, hq2, rfl, hz, hz'⟩ := y
      obtain ⟨t, b1, b2⟩ := g3.back (hz vs (SqT.of (s2 _ _ (s1 _ _ g2))))
      obtain ⟨t', b1', b2'⟩ := h3'.back (hz' vs' (SqT.of (s2 _ _ (s1 _ _ h2'))))
      obtain ⟨f1, f2⟩ := yld_new (K := X.K) (ts := [t, t']) (vs := [z, z']) s2 hq2 ⟨_, _, rfl, Rep.mono s1 b2, _, _, rfl, Rep.mono s1 b2', rfl⟩
      exact ⟨_, _, zpT_get b1 b1', f1, f2⟩⟩⟩
end
end TL

/-! TL, part e: targets, comprehensions, statements. -/
namespace TL
open PySem L2 PySem.Spec PyProof.Rows

/-! ### targets -/
theorem wipe_out {i : Nat} {x : Option V} : ∀ {vs : List Nat} {σ : L2.St}, i ∉ vs → wipe (σ.set i x) vs = (wipe σ vs).set i x
  | [], _, _ => rfl
  | v :: vs, σ, h => by
    have hv : i ≠ v := fun e => h (by simp [e])
    have hvs : i ∉ vs := fun e => h (by simp [e])
    show (wipe (σ.set i x) vs).set v none = ((wipe σ vs).set v none).set i x
    rw [wipe_out hvs, List.set_comm _ _ hv]
theorem wipe_in {i : Nat} {x : Option V} : ∀ {vs : List Nat} {σ : L2.St}, i ∈ vs → wipe (σ.set i x) vs = wipe σ vs
  | v :: vs, σ, h => by
    show (wipe (σ.set i x) vs).set v none = (wipe σ vs).set v none
    by_cases hi : i ∈ vs
    · rw [wipe_in hi]
    · rw [wipe_out hi]
      have : i = v := by
        rcases List.mem_cons.mp h with e | e
        · exact e
        · exact absurd e hi
      subst this
      rw [List.set_set]
theorem wipe_idem (σ : L2.St) (vs : List Nat) : wipe (wipe σ vs) vs = wipe σ vs := by
  have key : ∀ (us : List Nat) (τ : L2.St), (∀ u ∈ us, ∀ x, τ[u]? = some x → x = none) → wipe τ us = τ := by
    intro us
    induction us with
    | nil => intro _ _; rfl
    | cons u us ih =>
      intro τ h
      show (wipe τ us).set u none = τ
      rw [ih τ fun v hv => h v (by simp [hv])]
      apply List.ext_getElem?
      intro j
      by_cases hj : u = j
      · subst hj
        by_cases hl : u < τ.length
        · rw [List.getElem?_set_self hl]
          have e := List.getElem?_eq_getElem hl
          rw [e]
          exact congrArg some (h u (by simp) _ e).symm
        · rw [List.getElem?_eq_none (by simpa using hl), List.getElem?_eq_none (by simpa using hl)]
      · rw [List.getElem?_set_ne hj]
  refine key vs _ fun u hu x hx => ?_
  cases x with
  | none => rfl
  | some y => exact absurd hu (wipe_some hx).2
def gT (K : PySem.W.Frag) (M0 H0 : Hp) (is : List Nat) (f : T → Rho → Rho → Prop) : TG := fun v σ H Q => ∃ M r r' t, Wd K M0 H0 r σ M H ∧ Rep K M t v ∧ f t r r' ∧
  ∀ σ', Wd K M0 H0 r' σ' M H → (∀ vs : List Nat, (∀ i ∈ is, i ∈ vs) → wipe σ' vs = wipe σ vs) → Q σ' H
def PGT (X : Cx) (tg : Expr) (is : List Nat) (f : T → Rho → Rho → Prop) : Prop := ∀ M0 H0, PG X tg (gT X.K M0 H0 is f)
theorem pg_weak {X : Cx} {tg : Expr} {t t' : TG} (h : PG X tg t) (f : ∀ v σ H Q, t' v σ H Q → t v σ H Q) : PG X tg t' := ⟨fun pins s σ H v u Q I r q => h.run pins s σ H v u Q I r (f v σ H Q q)⟩
def fNm (i : Nat) : T → Rho → Rho → Prop := fun t r r' => r' = r.set i (some (.im t))
theorem gt_name {X : Cx} {x : Str} {pos : Pos} (i : Nat) (hN : X.N.Nodup) (hi : X.N[i]? = some x := by rfl) (hx : Loc X.env.scope x := by first | exact Or.inl rfl | exact Or.inr rfl) (hf : X.fn x = true ∨ X.env.scope.names.lookup x = some .local := by first | exact Or.inl rfl | exact Or.inr rfl) :
    PGT X (.Name x pos) [i] (fNm i) := fun M0 H0 => pg_weak (pg_name hN hi hx hf) fun v σ H Q ⟨M, r, r', t, w, rp, e, k⟩ => by
  subst e
  exact k _ (w.set rp) fun vs h => wipe_in (h i (by simp))
def fTup2 (f g : T → Rho → Rho → Prop) : T → Rho → Rho → Prop := fun t r r' => ∃ t1 t2 r1, t = .tup [t1, t2] ∧ f t1 r r1 ∧ g t2 r1 r'
theorem gt_tup2 {X : Cx} {a b : Expr} {k : Nat} {pos : Pos} {is js : List Nat} {f g : T → Rho → Rho → Prop} (hc : X.calm = true) (ha : PGT X a is f) (hb : PGT X b js g)
    (h1 : (assignEach [a, b] X.env).map (·.2) = assign a X.env :: (assignEach [b] X.env).map (·.2) := by rfl) (h2 : (assignEach [b] X.env).map (·.2) = assign b X.env :: (assignEach [] X.env).map (·.2) := by rfl) (hn : (assignEach [a, b] X.env).length = 2 := by rfl)
    (hst : (assignEach [a, b] X.env).findIdx? (·.1) = none := by rfl) : PGT X (.Tuple [a, b] k pos) (is ++ js) (fTup2 f g) := fun M0 H0 =>
  pg_weak (pg_tup hc (pgs_cons (ha M0 H0) (pgs_cons (hb M0 H0) pgs_nil h2) h1) hn hst) fun v σ H Q ⟨M, r, r', t, w, rp, ⟨t1, t2, r1, e, f1, f2⟩, q⟩ => by
    subst e
    obtain ⟨a, vs, rfl, g1, v1, _, rfl, g2, v2, _, rfl, g3, rfl⟩ := rp
    refine ⟨a, [v1, v2], rfl, SqT.of (w.s _ _ g1), rfl, v1, [v2], rfl, M, r, r1, t1, w, g2, f1, fun σ1 w1 z1 => ⟨v2, [], rfl, M, r1, r', t2, w1, g3, f2, fun σ2 w2 z2 => ⟨rfl, q σ2 w2 fun vs hv => ?_⟩⟩⟩
    rw [z2 vs fun i hi => hv i (by simp [hi]), z1 vs fun i hi => hv i (by simp [hi])]

/-! ### comprehensions -/
def wipeR (r : Rho) : List Nat → Rho
  | [] => r
  | v :: vs => (wipeR r vs).set v none
theorem Wd.wipe {K : PySem.W.Frag} {M0 H0 M H : Hp} {r : Rho} {σ : L2.St} (w : Wd K M0 H0 r σ M H) : ∀ vs : List Nat, Wd K M0 H0 (wipeR r vs) (L2.wipe σ vs) M H
  | [] => w
  | v :: vs => (Wd.wipe w vs).drop
def ETs (X : Cx) (r : Rho) (cs : List Expr) (b : Bool) : Prop := ∀ M0 H0, PTs X cs (tT X.K M0 H0 r b)
theorem pts_weak {X : Cx} {cs : List Expr} {t t' : TT} (h : PTs X cs t) (f : ∀ σ H Q, t' σ H Q → t σ H Q) : PTs X cs t' := ⟨fun pins s σ H Q I q => h.run pins s σ H Q I (f σ H Q q)⟩
theorem ets_nil {X : Cx} {r : Rho} : ETs X r [] true := fun M0 H0 => pts_weak pts_nil fun σ H Q ⟨M, w, k⟩ => k M H (Ext.refl w.s)
theorem ets_one {X : Cx} {r : Rho} {c : Expr} {b : Bool} (h : ET X r c b) : ETs X r [c] b := fun M0 H0 => pts_one (h M0 H0)

section
variable {X : Cx} {r : Rho} {elt tg iter : Expr} {ifs : List Expr} {scope : Scope} {own : List (Str × Nat)} {pos : Pos} {is : List Nat} {f : T → Rho → Rho → Prop} {α : Type}
/-- the contexts of a comprehension's block -/
abbrev Blk (X : Cx) (scope : Scope) (P : Cx → Prop) : Prop := ∀ (s : Shared) (H : Hp) (C : Addr) (cl : List (Str × Addr)) (fp : List Addr), P (X.blk s H scope (compEnvC scope cl C X.env) fp)
theorem lc_main {K : PySem.W.Frag} {M0 H0 : Hp} {xs : List α} {enc g : α → T} {p : α → Bool} {rx : α → Rho} {σ : L2.St} {H : Hp} {Q : VK} (his : ∀ i ∈ is, i ∈ own.map (·.2))
    (hf : ∀ x ∈ xs, f (enc x) (wipeR r (own.map (·.2))) (rx x)) (hl : xs.length ≤ 10000) (h : tL K M0 H0 r ((xs.filter p).map g) σ H Q) :
    tLc (tI K M0 H0 r (xs.map enc)) (gT K M0 H0 is f) (fun σ H Q => ∃ x, x ∈ xs ∧ tT K M0 H0 (rx x) (p x) σ H Q) (fun σ H Q => ∃ x, (x ∈ xs ∧ p x = true) ∧ tE K M0 H0 (rx x) (g x) σ H Q) (own.map (·.2)) σ H Q := by
  obtain ⟨M, w, k⟩ := h
  refine ⟨M, w, fun J M1 H1 e1 wk D hD => ?_⟩
  have w1 := w.up e1
  have hD0 : H D = none := Same.free e1.h hD
  have hM1 : M1 D = none := Same.free e1.s hD
  refine ⟨fun i m H2 => m = xs.length - i ∧ i ≤ xs.length ∧ ∃ M2 acc, Ext M1 H1 M2 H2 ∧ M2 D = none ∧ H2 D = some (.lst acc) ∧ Reps K M2 (((xs.take i).filter p).map g) acc,
    ⟨xs.length, by simp, Nat.zero_le _, M1, [], Ext.own e1.s hD, hM1, upd_same, rfl⟩, ?_⟩
  rintro i m H2 ⟨rfl, hi, M2, acc, e2, n2, h2, ra⟩
  have s0 : Same H0 H2 := (w1.up e2).ext.h
  rcases Nat.lt_or_ge i xs.length with hlt | hge
  · have hlt' : i < (xs.map enc).length := by simpa using hlt
    refine .inr ⟨wk.go i M2 H2 e2.m e2.s s0 hlt', fun H' => ∃ m', m' < xs.length - i ∧ (m' = xs.length - (i + 1) ∧ i + 1 ≤ xs.length ∧ ∃ M2 acc, Ext M1 H1 M2 H' ∧ M2 D = none ∧ H' D = some (.lst acc) ∧ Reps K M2 (((xs.take (i + 1)).filter p).map g) acc),
      fun H' z => z, fun y H3 hy => ?_⟩
    obtain ⟨t, M3, ht, e3, r3⟩ := wk.yld i y M2 H2 H3 e2.m e2.s s0 hlt' hy
    have hx : xs[i]? = some xs[i] := List.getElem?_eq_getElem hlt
    rw [List.getElem?_map, hx] at ht
    have et : enc xs[i] = t := Option.some.inj ht
    subst et
    have hm : xs[i] ∈ xs := List.getElem_mem hlt
    have e13 := e2.trans e3
    refine ⟨M3, wipeR r (own.map (·.2)), rx xs[i], enc xs[i], (w1.up e13).wipe _, r3, hf _ hm, fun σ4 w4 z4 => ⟨?_, xs[i], hm, M3, w4, fun M5 H5 e5 => ?_⟩⟩
    · rw [z4 _ his]
      exact wipe_idem σ _
    · have e15 := e13.trans e5
      have n5 : M5 D = none := (e3.trans e5).n D _ h2 n2
      have h5 : H5 D = some (.lst acc) := (e3.trans e5).h D _ h2
      have r5 := Reps.mono (e3.trans e5).m ra
      have tk : xs.take (i + 1) = xs.take i ++ [xs[i]] := by rw [List.take_succ, hx]; rfl
      cases hp : p xs[i] with
      | false =>
        refine iteF ⟨xs.length - (i + 1), by omega, rfl, hlt, M5, acc, e15, n5, h5, ?_⟩
        rw [tk, List.filter_append, List.filter_cons_of_neg (by simp [hp]), List.filter_nil, List.append_nil]
        exact r5
      | true =>
        refine iteT ⟨xs[i], ⟨hm, hp⟩, M5, w4.up e5, fun y' M6 H6 e6 r6 => ?_⟩
        have h6 : H6 D = some (.lst acc) := e6.h D _ h5
        have n6 : M6 D = none := e6.n D _ h5 n5
        have e16 := e15.trans e6
        have hlen : acc.length ≤ i := by
          rw [← ra.len, List.length_map]
          refine Nat.le_trans (List.length_filter_le _ _) ?_
          rw [List.length_take]
          exact Nat.min_le_left _ _
        refine ⟨acc, h6, Nat.lt_of_le_of_lt hlen (Nat.lt_of_lt_of_le (Nat.lt_of_lt_of_le hlt hl) (by decide)), xs.length - (i + 1), by omega, rfl, hlt, M6, acc ++ [y'], ?_, n6, upd_same, ?_⟩
        · refine ⟨e16.m, fun a u z => ?_, fun a u z => ?_, e16.n⟩
          · rw [upd_ne (ne_of_none z hD)]; exact e16.h a u z
          · rw [upd_ne (ne_of_none z n6)]; exact e16.s a u z
        · rw [tk, List.filter_append, List.filter_cons_of_pos hp, List.filter_nil, List.map_append]
          exact Reps.append (Reps.mono e6.m r5) (Reps.one r6)
  · have hi' : i = xs.length := Nat.le_antisymm hi hge
    subst hi'
    refine .inl ⟨?_, k D acc M2 H2 (e1.trans e2) hD0 n2 h2 (by rw [List.take_length] at ra; exact ra)⟩
    have := wk.stop M2 H2 e2.m e2.s s0
    rw [List.length_map] at this
    exact this
theorem pts_ex {X : Cx} {cs : List Expr} {β : Type} {P : β → Prop} {t : β → TT} (h : ∀ a, P a → PTs X cs (t a)) : PTs X cs (fun σ H Q => ∃ a, P a ∧ t a σ H Q) := ⟨fun pins s σ H Q I ⟨a, p, q⟩ => (h a p).run pins s σ H Q I q⟩
/-- [elt for tg in iter if ..] -/
theorem el_comp {xs : List α} {enc g : α → T} {p : α → Bool} {rx : α → Rho} (hc : X.calm = true) (hN : X.N.Nodup) (hi : EI X r tg iter (xs.map enc)) (ok : BlkOk X.N X.env.scope scope own) (his : ∀ i ∈ is, i ∈ own.map (·.2))
    (hg : Blk X scope fun Y => PGT Y tg is f) (hf : ∀ x ∈ xs, f (enc x) (wipeR r (own.map (·.2))) (rx x)) (ht : ∀ x ∈ xs, Blk X scope fun Y => ETs Y (rx x) ifs (p x)) (he : ∀ x ∈ xs, p x = true → Blk X scope fun Y => EV Y (rx x) elt (g x))
    (hl : xs.length ≤ 10000) (hs : ∀ x, foldedSetIterable iter X.env x = pure x := by intro _; rfl) : EL X r (.ListComp elt [⟨tg, iter, ifs, 0⟩] scope pos) ((xs.filter p).map g) := fun M0 H0 =>
  pe_weak (pe_lc hc hN (hi M0 H0) ok (fun s H C cl fp => hg s H C cl fp M0 H0) (fun s H C cl fp => pts_ex fun x hx => ht x hx s H C cl fp M0 H0) (fun s H C cl fp => pe_ex fun x hx => he x hx.1 hx.2 s H C cl fp M0 H0) hs) fun σ H Q h => lc_main his hf hl h
/-- without a test -/
theorem el_map {xs : List α} {enc g : α → T} {rx : α → Rho} (hc : X.calm = true) (hN : X.N.Nodup) (hi : EI X r tg iter (xs.map enc)) (ok : BlkOk X.N X.env.scope scope own) (his : ∀ i ∈ is, i ∈ own.map (·.2))
    (hg : Blk X scope fun Y => PGT Y tg is f) (hf : ∀ x ∈ xs, f (enc x) (wipeR r (own.map (·.2))) (rx x)) (he : ∀ x ∈ xs, Blk X scope fun Y => EV Y (rx x) elt (g x))
    (hl : xs.length ≤ 10000) (hs : ∀ x, foldedSetIterable iter X.env x = pure x := by intro _; rfl) : EL X r (.ListComp elt [⟨tg, iter, [], 0⟩] scope pos) (xs.map g) := by
  have h := el_comp (X := X) (r := r) (pos := pos) (p := fun _ => true) (g := g) hc hN hi ok his hg hf (fun _ _ _ _ _ _ _ => ets_nil) (fun x hx _ => he x hx) hl hs
  exact h.to (by rw [List.filter_eq_self.mpr fun _ _ => rfl])
end

/-! ### statements -/
structure Dn where
  nx : Rho → Prop
  rt : T → Prop
def tS (K : PySem.W.Frag) (M0 H0 : Hp) (r : Rho) (D : Dn) : TS := fun E σ H => ∃ M, Wd K M0 H0 r σ M H ∧ (∀ r' σ' M' H', D.nx r' → Wd K M0 H0 r' σ' M' H' → E.nx σ' H') ∧ ∀ t v M' H', D.rt t → Ext M0 H0 M' H' → Rep K M' t v → E.rt v H'
def ST (X : Cx) (r : Rho) (sts : List Stmt) (D : Dn) : Prop := ∀ M0 H0, PSs X sts (tS X.K M0 H0 r D)
def S1 (X : Cx) (r : Rho) (st : Stmt) (D : Dn) : Prop := ∀ M0 H0, PS X st (tS X.K M0 H0 r D)
theorem ps_weak {X : Cx} {st : Stmt} {t t' : TS} (h : PS X st t) (f : ∀ E σ H, t' E σ H → t E σ H) : PS X st t' := ⟨fun pins s σ H D I q => h.run pins s σ H D I (f D σ H q)⟩
theorem pss_weak {X : Cx} {st : List Stmt} {t t' : TS} (h : PSs X st t) (f : ∀ E σ H, t' E σ H → t E σ H) : PSs X st t' := ⟨fun pins s σ H D I q => h.run pins s σ H D I (f D σ H q)⟩
theorem pss_ex {X : Cx} {st : List Stmt} {β : Type} {P : β → Prop} {t : β → TS} (h : ∀ a, P a → PSs X st (t a)) : PSs X st (fun E σ H => ∃ a, P a ∧ t a E σ H) := ⟨fun pins s σ H D I ⟨a, p, q⟩ => (h a p).run pins s σ H D I q⟩
theorem pt_ex {X : Cx} {c : Expr} {β : Type} {P : β → Prop} {t : β → TT} (h : ∀ a, P a → PT X c (t a)) : PT X c (fun σ H Q => ∃ a, P a ∧ t a σ H Q) := ⟨fun pins s σ H Q I ⟨a, p, q⟩ => (h a p).run pins s σ H Q I q⟩
section
variable {X : Cx} {r : Rho} {D : Dn} {st : Stmt} {rest : List Stmt} {e a b c : Expr} {P : T → Prop} {t : T} {ts : List T} {pos p : Pos} {x : Str} {k : Bool}
theorem st_nil (h : D.nx r) : ST X r [] D := fun M0 H0 => pss_weak pss_nil fun E σ H ⟨M, w, k1, _⟩ => k1 r σ M H h w
theorem st_cons (mid : Rho → Prop) (h1 : S1 X r st ⟨mid, D.rt⟩) (h2 : ∀ r', mid r' → ST X r' rest D) : ST X r (st :: rest) D := fun M0 H0 =>
  pss_weak (pss_cons (h1 M0 H0) (pss_ex (P := mid) fun r' hm => h2 r' hm M0 H0)) fun E σ H ⟨M, w, k1, k2⟩ => ⟨M, w, fun r' σ' M' H' hm w' => ⟨r', hm, M', w', k1, k2⟩, k2⟩
theorem st_one (h : S1 X r st D) : ST X r [st] D := fun M0 H0 => pss_one (h M0 H0)
theorem s1_no (h : False) : S1 X r st D := h.elim
theorem st_no (h : False) : ST X r rest D := h.elim
theorem s1_ret (h : EP X r e P) (q : ∀ t, P t → D.rt t) : S1 X r (.Return (some e) pos) D := fun M0 H0 =>
  ps_weak (ps_ret (h M0 H0)) fun E σ H ⟨M, w, _, k2⟩ => ⟨M, w, fun t v M' H' pt e' rp => k2 t v M' H' (q t pt) (w.ext.trans e') rp⟩
theorem s1_expr (h : EP X r e P) (q : D.nx r) (hs : swapsWith e none pos.line X.env = pure false := by rfl) : S1 X r (.Expr e pos) D := fun M0 H0 =>
  ps_weak (ps_expr (h M0 H0) hs) fun E σ H ⟨M, w, k1, _⟩ => ⟨M, w, fun t v M' H' pt e' rp => k1 r σ M' H' q (w.up e')⟩
theorem s1_asg (i : Nat) (hN : X.N.Nodup) (h : EP X r e P) (q : ∀ t, P t → D.nx (r.set i (some (.im t)))) (hi : X.N[i]? = some x := by rfl) (hx : Loc X.env.scope x := by first | exact Or.inl rfl | exact Or.inr rfl) (hf : X.fn x = true ∨ X.env.scope.names.lookup x = some .local := by first | exact Or.inl rfl | exact Or.inr rfl)
    (hs : swapsWithSole [.Name x p] e pos.line X.env = pure false := by rfl) (hw : swappedStores [.Name x p] e X.env = pure none := by rfl) (h1 : (assignEach [.Name x p] X.env).map (·.2) = [assign (.Name x p) X.env] := by rfl) : S1 X r (.Assign [.Name x p] e pos) D := fun M0 H0 =>
  ps_weak (ps_asg (h M0 H0) (pg_name hN hi hx hf) hs hw h1) fun E σ H ⟨M, w, k1, _⟩ => ⟨M, w, fun t v M' H' pt e' rp => k1 _ _ M' H' (q t pt) ((w.up e').set rp)⟩
/-- a new list of one's own -/
theorem Wd.setNew {K : PySem.W.Frag} {M0 H0 M H M' H' : Hp} {r : Rho} {σ : L2.St} (w : Wd K M0 H0 r σ M H) {i : Nat} {ts : List T} {q : Addr} {vs : List V} (e : Ext M H M' H') (h0 : H q = none) (h1 : M' q = none) (h2 : H' q = some (.lst vs)) (rp : Reps K M' ts vs) :
    Wd K M0 H0 (r.set i (some (.ow ts))) (σ.set i (some (.ref q))) M' H' := by
  refine (w.up e).setOw (Same.free w.ext.h h0) h1 h2 rp fun j s hj hr ho hσ => ?_
  obtain ⟨v, a, b⟩ := w.at_ j s hr
  rw [hσ] at a
  cases a
  cases s with
  | im _ => cases ho
  | ro _ => cases ho
  | ow _ =>
    obtain ⟨q', _, e', _, b2, _⟩ := b
    cases e'
    rw [h0] at b2; cases b2
  | oi q' _ _ _ =>
    obtain ⟨_, _, e', _, b2, _⟩ := b
    cases e'
    rw [h0] at b2; cases b2
theorem s1_asgL (i : Nat) (hN : X.N.Nodup) (h : EL X r e ts) (q : D.nx (r.set i (some (.ow ts)))) (hi : X.N[i]? = some x := by rfl) (hx : Loc X.env.scope x := by first | exact Or.inl rfl | exact Or.inr rfl) (hf : X.fn x = true ∨ X.env.scope.names.lookup x = some .local := by first | exact Or.inl rfl | exact Or.inr rfl)
    (hs : swapsWithSole [.Name x p] e pos.line X.env = pure false := by rfl) (hw : swappedStores [.Name x p] e X.env = pure none := by rfl) (h1 : (assignEach [.Name x p] X.env).map (·.2) = [assign (.Name x p) X.env] := by rfl) : S1 X r (.Assign [.Name x p] e pos) D := fun M0 H0 =>
  ps_weak (ps_asg (h M0 H0) (pg_name hN hi hx hf) hs hw h1) fun E σ H ⟨M, w, k1, _⟩ => ⟨M, w, fun n vs M' H' e' h0 h1 h2 rp => k1 _ _ M' H' q (w.setNew e' h0 h1 h2 rp)⟩
theorem s1_if {A B : List Stmt} (h : ET X r c k) (h1 : k = true → ST X r A D) (h2 : k = false → ST X r B D) : S1 X r (.If c A B pos) D := fun M0 H0 => by
  cases k with
  | true => exact ps_weak (ps_if (u := tNever) (h M0 H0) (h1 rfl M0 H0) pss_never) fun E σ H ⟨M, w, k1, k2⟩ => ⟨M, w, fun M' H' e' => iteT ⟨M', w.up e', k1, k2⟩⟩
  | false => exact ps_weak (ps_if (t := tNever) (h M0 H0) pss_never (h2 rfl M0 H0)) fun E σ H ⟨M, w, k1, k2⟩ => ⟨M, w, fun M' H' e' => iteF ⟨M', w.up e', k1, k2⟩⟩
/-- xs.append(e), xs a list of one's own -/
theorem s1_app {q q' : Pos} (i : Nat) (hr : r[i]? = some (some (.ow ts))) (h : EP X r e P) (hl : ts.length < 10000) (k : ∀ t, P t → D.nx (r.set i (some (.ow (ts ++ [t]))))) (hN : X.N[i]? = some x := by rfl) (hv : Vis X.env.scope x := by first | exact Or.inl rfl | exact Or.inr (Or.inl rfl) | exact Or.inr (Or.inr rfl))
    (hd : (x == ("__debug__" : Str)) = false := by decide) (hcd : (x == ("__classdict__" : Str)) = false := by decide) (hst : starEach [e] X.env = (false, eval e X.env) :: starEach [] X.env := by rfl)
    (hfew : ((backTo p (starEach [e] X.env)).all (fun z => !z.1) && (backToKw p (keywordEach [] X.env)).all (fun z => z.1.isSome) && decide ([e].length + ([] : List Keyword).length + (if ([] : List Keyword).isEmpty then 0 else 1) < 30)) = true := by rfl)
    (hline : (q'.endLine == p.line) = true := by rfl) (hpl : (backTo p (starEach [] X.env)).any (·.1) = false := by rfl) (hs : swapsWith (.Call (.Attribute (.Name x q) "append" q') [e] [] p) none pos.line X.env = pure false := by rfl)
    (hb : attributeBase (.Name x q) "append" X.env (eval (.Name x q) X.env) = eval (.Name x q) X.env := by rfl) :
    S1 X r (.Expr (.Call (.Attribute (.Name x q) "append" q') [e] [] p) pos) D := fun M0 H0 =>
  ps_weak (ps_expr (pe_bm PySem.F.plainAttrs_list PySem.F.slot_list_append PySem.F.type_list_append mt_append (pv i hN hv hd hcd) (pa_cons (h M0 H0) pa_nil hst) hb hfew hline hst hpl) hs) fun E σ H ⟨M, w, k1, _⟩ => by
    obtain ⟨v, a, n, vs, rfl, h2, h3, h4⟩ := w.at_ i _ hr
    refine ⟨_, a, Or.inl ⟨rfl, _, Or.inl (Or.inl h3)⟩, M, w, fun t v M' H' pt e' rp => ?_⟩
    have g3 := e'.h _ _ h3
    have g2 := e'.n _ _ h3 h2
    refine ⟨n, vs, v, rfl, rfl, g3, ?_, k1 _ _ M' _ (k t pt) ((w.up e').mut hr rfl a g2 rfl ⟨n, _, rfl, g2, upd_same, Reps.append (Reps.mono e'.m h4) (Reps.one rp)⟩)⟩
    rw [← h4.len]
    exact Nat.lt_of_lt_of_le hl (by decide)
end
end TL

/-! TL, part f: loops, stores, defs and their calls. -/
namespace TL
open PySem L2 PySem.Spec PyProof.Rows

section
variable {X : Cx} {r : Rho} {D : Dn} {st : Stmt} {rest body : List Stmt} {e a b c tg iter elt : Expr} {P : T → Prop} {t : T} {ts us : List T} {pos p q : Pos} {x : Str} {k : Bool} {is : List Nat} {f : T → Rho → Rho → Prop}
/-- a list of one's own is let go -/
theorem st_give (i : Nat) (hr : r[i]? = some (some (.ow ts))) (h : ST X (r.set i (some (.im (.lst ts)))) rest D) : ST X r rest D := fun M0 H0 => pss_weak (h M0 H0) fun E σ H ⟨M, w, k1, k2⟩ => by
  obtain ⟨M', _, w'⟩ := w.give hr
  exact ⟨M', w', k1, k2⟩
theorem s1_give (i : Nat) (hr : r[i]? = some (some (.ow ts))) (h : S1 X (r.set i (some (.im (.lst ts)))) st D) : S1 X r st D := fun M0 H0 => ps_weak (h M0 H0) fun E σ H ⟨M, w, k1, k2⟩ => by
  obtain ⟨M', _, w'⟩ := w.give hr
  exact ⟨M', w', k1, k2⟩
/-- xs[i] = e, xs a list of one's own -/
theorem ixN_len {n m : Nat} {i : Int} {j : Nat} (h : ixN n i = some j) (e : n = m) : ixN m i = some j := e ▸ h
theorem s1_setix {n : Int} {j : Nat} {ix : Expr} (i : Nat) (hr : r[i]? = some (some (.ow ts))) (he : EP X r e P) (hi : EV X r ix (.int n)) (hj : ixN ts.length n = some j) (k : ∀ t, P t → D.nx (r.set i (some (.ow (ts.set j t))))) (hN : X.N[i]? = some x := by rfl) (hv : Vis X.env.scope x := by first | exact Or.inl rfl | exact Or.inr (Or.inl rfl) | exact Or.inr (Or.inr rfl))
    (hd : (x == ("__debug__" : Str)) = false := by decide) (hcd : (x == ("__classdict__" : Str)) = false := by decide) {q2 : Pos}
    (ha : ∀ v, assign (.Subscript (.Name x p) ix q) X.env v = (do
      let ov ← holding [v] (eval (.Name x p) X.env)
      let iv ← holding [v, ov] (eval ix X.env)
      standAt q
      holding [v, ov, iv] (setItem ov iv v)
      release [v, ov, iv] []) := by intro _; rfl)
    (hs : swapsWithSole [.Subscript (.Name x p) ix q] e pos.line X.env = pure false := by rfl) (hw : swappedStores [.Subscript (.Name x p) ix q] e X.env = pure none := by rfl) (h1 : (assignEach [.Subscript (.Name x p) ix q] X.env).map (·.2) = [assign (.Subscript (.Name x p) ix q) X.env] := by rfl) :
    S1 X r (.Assign [.Subscript (.Name x p) ix q] e pos) D := fun M0 H0 =>
  ps_weak (ps_asg (he M0 H0) (pg_sub (pv i hN hv hd hcd) (hi M0 H0) set_list ha) hs hw h1) fun E σ H ⟨M, w, k1, _⟩ => ⟨M, w, fun t v M1 H1 pt e1 rp => by
    have w1 := w.up e1
    obtain ⟨u, z, n', vs, rfl, h2, h3, h4⟩ := w1.at_ i _ hr
    refine ⟨_, z, M1, w1, fun v2 M2 H2 e2 r2 => ?_⟩
    have g3 := e2.h _ _ h3
    have g2 := e2.n _ _ h3 h2
    refine ⟨n', vs, n, j, rfl, r2, g3, ixN_len hj h4.len, k1 _ _ M2 _ (k t pt) ((w1.up e2).mut hr rfl z g2 rfl ⟨n', _, rfl, g2, upd_same, Reps.set (Rep.mono e2.m rp) j (Reps.mono e2.m h4)⟩)⟩⟩
/-- self.f = e, self being made -/
theorem zip_put {f : Str} {v : V} : ∀ {ns : List Str} {vs : List V}, f ∉ ns → ns.length = vs.length → putF f v (ns.zip vs) = (ns ++ [f]).zip (vs ++ [v])
  | [], [], _, _ => rfl
  | n :: ns, w :: vs, h, hl => by
    have h1 : ¬ n = f := fun e => h (by simp [e])
    have h2 : f ∉ ns := fun e => h (by simp [e])
    show (if n = f then (n, v) :: ns.zip vs else (n, w) :: putF f v (ns.zip vs)) = _
    rw [if_neg h1, zip_put h2 (by simpa using hl)]
    rfl
theorem s1_setf {C y : Addr} {fs : List Str} {n : Str} {q' : Pos} (i : Nat) (hr : r[i]? = some (some (.oi y C fs ts))) (he : EP X r e P) (hc : Cls X.K C) (hn : NoAttr X.K C n) (hf : n ∉ fs) (hl : fs.length < 100) (k : ∀ t, P t → D.nx (r.set i (some (.oi y C (fs ++ [n]) (ts ++ [t]))))) (hN : X.N[i]? = some x := by rfl)
    (hv : Vis X.env.scope x := by first | exact Or.inl rfl | exact Or.inr (Or.inl rfl) | exact Or.inr (Or.inr rfl)) (hd : (x == ("__debug__" : Str)) = false := by decide) (hcd : (x == ("__classdict__" : Str)) = false := by decide) (hs : swapsWith e (some (.Attribute (.Name x p) n q)) pos.line X.env = pure false := by rfl) :
    S1 X r (.Assign [.Attribute (.Name x p) n q] e pos) D := fun M0 H0 =>
  ps_weak (ps_fld (pv i hN hv hd hcd) (he M0 H0) hs) fun E σ H ⟨M, w, k1, _⟩ => ⟨M, w, fun t v M1 H1 pt e1 rp => by
    have w1 := w.up e1
    obtain ⟨u, z, dx, vs, rfl, h2, h3, h5, h4⟩ := w1.at_ i _ hr
    refine ⟨_, z, y, C, dx, _, rfl, h3, hc, hn, ?_, k1 _ _ M1 _ (k t pt) (w1.mut hr rfl z h2 rfl ⟨dx, vs ++ [v], rfl, h2, ?_, ?_, Reps.append h4 (Reps.one rp)⟩)⟩
    · rw [List.length_zip]
      exact Nat.lt_of_le_of_lt (Nat.min_le_left _ _) (Nat.lt_trans hl (by decide))
    · rw [upd_same, zip_put hf h5]
    · simp [h5]⟩
/-- y = [..] of a comprehension, y a local: the list is let go, or one's own -/
theorem s1_lc {scope : Scope} {own : List (Str × Nat)} {ifs : List Expr} {α : Type} {xs : List α} {enc g : α → T} {pp : α → Bool} {rx : α → Rho} {lpos : Pos} (i : Nat) (hc : X.calm = true) (hN : X.N.Nodup) (hi : EI X r tg iter (xs.map enc)) (ok : BlkOk X.N X.env.scope scope own) (his : ∀ i ∈ is, i ∈ own.map (·.2))
    (hg : Blk X scope fun Y => PGT Y tg is f) (hf : ∀ x ∈ xs, f (enc x) (wipeR r (own.map (·.2))) (rx x)) (ht : ∀ x ∈ xs, Blk X scope fun Y => ETs Y (rx x) ifs (pp x)) (he : ∀ x ∈ xs, pp x = true → Blk X scope fun Y => EV Y (rx x) elt (g x))
    (hl : xs.length ≤ 10000) (k : D.nx (r.set i (some (.im (.lst ((xs.filter pp).map g)))))) (hy : X.N[i]? = some x := by rfl) (hyl : X.env.scope.names.lookup x = some .local := by rfl)
    (hsw : swapsWith (.ListComp elt [⟨tg, iter, ifs, 0⟩] scope lpos) (some (.Name x p)) pos.line X.env = pure true := by exact sw_true rfl rfl rfl (by decide +kernel)) (hs : ∀ x, foldedSetIterable iter X.env x = pure x := by intro _; rfl) :
    S1 X r (.Assign [.Name x p] (.ListComp elt [⟨tg, iter, ifs, 0⟩] scope lpos) pos) D := fun M0 H0 =>
  ps_weak (ps_setLc hc hN hy hyl hsw (hi M0 H0) ok (fun s H C cl fp => hg s H C cl fp M0 H0) (fun s H C cl fp => pts_ex fun x hx => ht x hx s H C cl fp M0 H0) (fun s H C cl fp => pe_ex fun x hx => he x hx.1 hx.2 s H C cl fp M0 H0) hs) fun E σ H ⟨M, w, k1, _⟩ =>
    lc_main (K := X.K) (M0 := M0) (H0 := H0) (r := r) his hf hl ⟨M, w, fun n vs M' H' e' h0 h1 h2 rp => k1 _ _ _ H' k ((w.up (e'.give h0 h2 h1)).set ⟨n, vs, rfl, upd_same, Reps.mono (sNew h1) rp⟩)⟩
theorem s1_lcO {scope : Scope} {own : List (Str × Nat)} {ifs : List Expr} {α : Type} {xs : List α} {enc g : α → T} {pp : α → Bool} {rx : α → Rho} {lpos : Pos} (i : Nat) (hc : X.calm = true) (hN : X.N.Nodup) (hi : EI X r tg iter (xs.map enc)) (ok : BlkOk X.N X.env.scope scope own) (his : ∀ i ∈ is, i ∈ own.map (·.2))
    (hg : Blk X scope fun Y => PGT Y tg is f) (hf : ∀ x ∈ xs, f (enc x) (wipeR r (own.map (·.2))) (rx x)) (ht : ∀ x ∈ xs, Blk X scope fun Y => ETs Y (rx x) ifs (pp x)) (he : ∀ x ∈ xs, pp x = true → Blk X scope fun Y => EV Y (rx x) elt (g x))
    (hl : xs.length ≤ 10000) (k : D.nx (r.set i (some (.ow ((xs.filter pp).map g))))) (hy : X.N[i]? = some x := by rfl) (hyl : X.env.scope.names.lookup x = some .local := by rfl)
    (hsw : swapsWith (.ListComp elt [⟨tg, iter, ifs, 0⟩] scope lpos) (some (.Name x p)) pos.line X.env = pure true := by exact sw_true rfl rfl rfl (by decide +kernel)) (hs : ∀ x, foldedSetIterable iter X.env x = pure x := by intro _; rfl) :
    S1 X r (.Assign [.Name x p] (.ListComp elt [⟨tg, iter, ifs, 0⟩] scope lpos) pos) D := fun M0 H0 =>
  ps_weak (ps_setLc hc hN hy hyl hsw (hi M0 H0) ok (fun s H C cl fp => hg s H C cl fp M0 H0) (fun s H C cl fp => pts_ex fun x hx => ht x hx s H C cl fp M0 H0) (fun s H C cl fp => pe_ex fun x hx => he x hx.1 hx.2 s H C cl fp M0 H0) hs) fun E σ H ⟨M, w, k1, _⟩ =>
    lc_main (K := X.K) (M0 := M0) (H0 := H0) (r := r) his hf hl ⟨M, w, fun n vs M' H' e' h0 h1 h2 rp => k1 _ _ _ H' k (w.setNew e' h0 h1 h2 rp)⟩

/-! ### loops -/
theorem pg_ex {β : Type} {Pb : β → Prop} {tt : β → TG} (h : ∀ a, Pb a → PG X tg (tt a)) : PG X tg (fun v σ H Q => ∃ a, Pb a ∧ tt a v σ H Q) := ⟨fun pins s σ H v u Q I rr ⟨a, pa, qa⟩ => (h a pa).run pins s σ H v u Q I rr qa⟩
theorem s1_for (inv : Nat → Rho → Prop) (hi : EI X r tg iter ts) (hg : PGT X tg is f) (h0 : inv 0 r) (hstep : ∀ k t r1, ts[k]? = some t → inv k r1 → ∃ r2, f t r1 r2 ∧ ST X r2 body ⟨inv (k + 1), D.rt⟩) (hd : ∀ r', inv ts.length r' → D.nx r')
    (hc : X.calm = true := by rfl) (hp : PassesOwn (model X.prog X.w) X.A X.env X.xe := by exact PassesOwn.never) (hs : ∀ x, foldedSetIterable iter X.env x = pure x := by intro _; rfl) : S1 X r (.For tg iter body [] pos) D := fun M0 H0 => by
  refine ps_weak (ps_for hp hc (hi M0 H0) (pg_ex (β := Hp) (Pb := fun _ => True) (tt := fun M1 => gT X.K M1 H0 is f) fun M1 _ => hg M1 H0)
    (pss_ex (β := Hp × Rho × Dn) (P := fun z => ST X z.2.1 body z.2.2) (t := fun z => tS X.K z.1 H0 z.2.1 z.2.2) fun z hz => hz z.1 H0) hs) fun E σ H ⟨M, w, k1, k2⟩ => ⟨M, w, fun J M1 H1 e1 wk => ?_⟩
  have w1 := w.up e1
  refine ⟨fun i m σ' H' => m = ts.length - i ∧ i ≤ ts.length ∧ ∃ r' M', inv i r' ∧ Wd X.K M1 H0 r' σ' M' H', ⟨_, rfl, Nat.zero_le _, r, M1, h0, w1.rebase⟩, ?_⟩
  rintro i m σ' H' ⟨rfl, hle, r', M', hv, w'⟩
  rcases Nat.lt_or_ge i ts.length with hlt | hge
  · refine .inr ⟨wk.go i M' H' w'.ext.m w'.s w'.ext.h hlt, fun σ2 H2 => ∃ m', m' < ts.length - i ∧ (m' = ts.length - (i + 1) ∧ i + 1 ≤ ts.length ∧ ∃ r' M', inv (i + 1) r' ∧ Wd X.K M1 H0 r' σ2 M' H2), fun _ _ z => z, fun y H2 hy => ?_⟩
    obtain ⟨t, M2, ht, e2, r2⟩ := wk.yld i y M' H' H2 w'.ext.m w'.s w'.ext.h hlt hy
    obtain ⟨r3, hf3, hb⟩ := hstep i t r' ht hv
    refine ⟨M1, trivial, M2, r', r3, t, w'.up e2, r2, hf3, fun σ3 w3 _ => ⟨(M1, r3, ⟨inv (i + 1), D.rt⟩), hb, M2, w3, fun r4 σ4 M4 H4 hv4 w4 => ?_, fun t v M4 H4 ht4 e4 rp4 => k2 t v M4 H4 ht4 (w1.ext.unbase e4) rp4⟩⟩
    exact ⟨ts.length - (i + 1), by omega, rfl, hlt, r4, M4, hv4, w4⟩
  · have hi' : i = ts.length := Nat.le_antisymm hle hge
    subst hi'
    exact .inl ⟨wk.stop M' H' w'.ext.m w'.s w'.ext.h, k1 r' σ' M' H' (hd r' hv) (Wd.unbase w1.ext w')⟩
theorem s1_while (inv : Nat → Rho → Prop) (m0 : Nat) (h0 : inv m0 r) (turn : ∀ m r1, inv m r1 → ∃ k, ET X r1 c k ∧ (k = true → ST X r1 body ⟨fun r2 => ∃ m', m' < m ∧ inv m' r2, D.rt⟩) ∧ (k = false → D.nx r1))
    (hp : PassesOwn (model X.prog X.w) X.A X.env X.xe := by exact PassesOwn.never) : S1 X r (.While c body [] pos) D := fun M0 H0 => by
  refine ps_weak (ps_while hp (pt_ex (β := Rho × Bool) (P := fun z => ET X z.1 c z.2) (t := fun z => tT X.K M0 H0 z.1 z.2) fun z hz => hz M0 H0)
    (pss_ex (β := Rho × Dn) (P := fun z => ST X z.1 body z.2) (t := fun z => tS X.K M0 H0 z.1 z.2) fun z hz => hz M0 H0)) fun E σ H ⟨M, w, k1, k2⟩ => ?_
  refine ⟨fun m σ' H' => ∃ r' M', inv m r' ∧ Wd X.K M0 H0 r' σ' M' H', ⟨m0, r, M, h0, w⟩, ?_⟩
  rintro m σ' H' ⟨r', M', hv, w'⟩
  obtain ⟨k, hk, hy, hn⟩ := turn m r' hv
  refine ⟨(r', k), hk, M', w', fun M2 H2 e2 => ?_⟩
  cases k with
  | true =>
    refine iteT ⟨fun σ3 H3 => ∃ m', m' < m ∧ ∃ r' M', inv m' r' ∧ Wd X.K M0 H0 r' σ3 M' H3, fun _ _ z => z, (r', ⟨fun r2 => ∃ m', m' < m ∧ inv m' r2, D.rt⟩), hy rfl, M2, w'.up e2, fun r4 σ4 M4 H4 ⟨m', hm, hv4⟩ w4 => ⟨m', hm, r4, M4, hv4, w4⟩, k2⟩
  | false => exact iteF (k1 r' σ' M2 H2 (hn rfl) (w'.up e2))
end

/-! ### defs -/
def spT (K : PySem.W.Frag) (S : List Sl → (T → Prop) → Prop) : Sp := fun vs H Q _ => ∃ M ss P, S ss P ∧ Same M H ∧ ArgsOk K M H ss vs ∧ ∀ t v M' H', P t → Ext M H M' H' → Rep K M' t v → Q v H'
theorem ArgsOk.len {K : PySem.W.Frag} {M H : Hp} : ∀ {ss : List Sl} {vs : List V}, ArgsOk K M H ss vs → ss.length = vs.length
  | _, _, .nil => rfl
  | _, _, .cons _ _ t => by simp [ArgsOk.len t]
theorem ArgsOk.get {K : PySem.W.Frag} {M H : Hp} : ∀ {ss : List Sl} {vs : List V} {i : Nat} {s : Sl}, ArgsOk K M H ss vs → ss[i]? = some s → ∃ v, vs[i]? = some v ∧ SlOk K H M H s v ∧ s.own = false
  | _, _, 0, s, .cons hs h _, e => by simp at e; subst e; exact ⟨_, rfl, h, hs⟩
  | _, _, i + 1, s, .cons _ _ t, e => by
    obtain ⟨v, a, b⟩ := ArgsOk.get (i := i) (s := s) t (by simpa using e)
    exact ⟨v, by simpa using a, b⟩
def startR (N : List Str) (ss : List Sl) : Rho := ss.map some ++ List.replicate (N.length - ss.length) none
theorem startR_get {N : List Str} {ss : List Sl} {i : Nat} {s : Sl} (h : (startR N ss)[i]? = some (some s)) : ss[i]? = some s := by
  unfold startR at h
  by_cases hi : i < ss.length
  · rw [List.getElem?_append_left (by simpa using hi), List.getElem?_map] at h
    cases e : ss[i]? with
    | none => rw [e] at h; cases h
    | some z => rw [e] at h; cases h; rfl
  · rw [List.getElem?_append_right (by simpa using hi), List.getElem?_replicate] at h
    split at h <;> cases h
theorem start_get {N : List Str} {vs : List V} {i : Nat} {v : V} (h : vs[i]? = some v) : (L2.start N vs)[i]? = some (some v) := by
  unfold L2.start
  rw [List.getElem?_append_left (by simpa using (List.getElem?_eq_some_iff.mp h).1), List.getElem?_map, h]; rfl
theorem Wd.start {K : PySem.W.Frag} {M H : Hp} {N : List Str} {ss : List Sl} {vs : List V} (s : Same M H) (h : ArgsOk K M H ss vs) : Wd K M H (startR N ss) (L2.start N vs) M H := by
  refine ⟨Ext.refl s, by unfold startR L2.start; simp [h.len], fun i z e => ?_, fun i z p e o _ => ?_, fun i j z z' p _ e o _ _ _ _ => ?_⟩
  · obtain ⟨v, a, b, _⟩ := h.get (startR_get e)
    exact ⟨v, start_get a, b⟩
  · obtain ⟨v, a, b, c⟩ := h.get (startR_get e)
    rw [c] at o; cases o
  · obtain ⟨v, a, b, c⟩ := h.get (startR_get e)
    rw [c] at o; cases o
/-- a def of the module, by its name: what it keeps -/
structure DefOk (P : Program) (w : World) (K : PySem.W.Frag) (mg : Str → Option Value) (base : Heap) (x : Str) (k : Nat) (ps : List Str) (S : List Sl → (T → Prop) → Prop) : Prop where
  ex : ∃ f fd, FnOk P w K mg base CX0 k f fd ps (spT K S) ∧ mg x = some (.ref f) ∧ PySem.W.keepIn K (.ref f) = true ∧ Binds K fd ps []
/-- where a def stands -/
structure DefAt (K : PySem.W.Frag) (mg : Str → Option Value) (x : Str) (st : Stmt) (ps : List Str) : Prop where
  ex : ∃ f fd, Fun K x x st f fd ∧ mg x = some (.ref f) ∧ Binds K fd ps []
section
variable {P : Program} {w : World} {K : PySem.W.Frag} {mg : Str → Option Value} {base : Heap}
theorem fn_T {x qual : Str} {st : Stmt} {f : Addr} {fd : FuncData} {N ps : List Str} {k : Nat} {S : List Sl → (T → Prop) → Prop} (F : Fun K x qual st f fd) (sc : FnScope N ps (defScope st)) (len : ∀ ss P, S ss P → ss.length = ps.length)
    (body : ∀ (cdv : Value) (A : Around) (outer : List Env) (s : Shared) (H : Hp) (E : XK), Room k (A.deeper (envOfC qual (defScope st) s.heap.objs.size f cdv)) → ∀ ss Po, S ss Po →
      ST (cxOf CX0 P w K mg base N qual (defScope st) f cdv A outer s H E).nox (startR N ss) (defBody st) ⟨fun _ => Po .non, Po⟩) : FnOk P w K mg base CX0 (k + 1) f fd ps (spT K S) := by
  refine F.ok sc (fun vs H Q E ⟨M, ss, Po, hS, _, ha, _⟩ => by rw [← ha.len]; exact len ss Po hS) fun cdv A outer s H vs Q E hr ⟨M, ss, Po, hS, hm, ha, q⟩ => ?_
  refine ⟨_, body cdv A outer s H E hr ss Po hS M H, M, Wd.start hm ha, fun r' σ' M' H' hn w' => q .non .non M' H' hn w'.ext rfl, fun t v M' H' ht e rp => q t v M' H' ht e rp⟩
theorem DefAt.ok {x : Str} {st : Stmt} {N ps : List Str} {k : Nat} {S : List Sl → (T → Prop) → Prop} (F : DefAt K mg x st ps) (sc : FnScope N ps (defScope st)) (len : ∀ ss P, S ss P → ss.length = ps.length)
    (body : ∀ (f : Addr) (cdv : Value) (A : Around) (outer : List Env) (s : Shared) (H : Hp) (E : XK), Room k (A.deeper (envOfC x (defScope st) s.heap.objs.size f cdv)) → ∀ ss Po, S ss Po →
      ST (cxOf CX0 P w K mg base N x (defScope st) f cdv A outer s H E).nox (startR N ss) (defBody st) ⟨fun _ => Po .non, Po⟩) : DefOk P w K mg base x (k + 1) ps S := by
  obtain ⟨f, fd, F, hm, hb⟩ := F.ex
  exact ⟨f, fd, fn_T F sc len (fun cdv A outer s H E hr => body f cdv A outer s H E hr), hm, F.kp, hb⟩
theorem DefOk.mono {x : Str} {ps : List Str} {j k : Nat} {S : List Sl → (T → Prop) → Prop} (D : DefOk P w K mg base x j ps S) (h : j ≤ k) : DefOk P w K mg base x k ps S := by
  obtain ⟨f, fd, F, r⟩ := D.ex
  exact ⟨f, fd, F.mono h, r⟩
end

/-! ### calls -/
section
variable {X : Cx} {r : Rho} {k : Nat} {x m : Str} {ps : List Str} {S : List Sl → (T → Prop) → Prop} {P : T → Prop} {ss : List Sl} {e o : Expr} {es : List Expr} {p pos apos : Pos}
theorem ep_call (D : DefOk X.prog X.w X.K X.mg X.base x k ps S) (hr : Room k X.A) (ha : EA X r (e :: es) ss) (hS : S ss P) (hg : Gl X x := by rfl) (hdb : (x == ("__debug__" : Str)) = false := by decide) (he : starEach (e :: es) X.env = (false, eval e X.env) :: starEach es X.env := by rfl) (hpl : (backTo pos (starEach es X.env)).any (·.1) = false := by rfl) :
    EP X r (.Call (.Name x p) (e :: es) [] pos) P := fun M0 H0 => by
  obtain ⟨f, fd, F, hm, hk, hb⟩ := D.ex
  exact pe_weak (pe_call F hr hg hm hk hb .nil pass0 (ha M0 H0) hdb he hpl) fun σ H Q ⟨M, w, q⟩ => ⟨M, w, fun vs M1 H1 e1 r1 => ⟨M1, ss, P, hS, e1.s, by rw [List.append_nil]; exact r1, fun t v M' H' pt e2 rp => q t v M' H' pt (e1.trans e2) rp⟩⟩
theorem ev_call {t : T} (D : DefOk X.prog X.w X.K X.mg X.base x k ps S) (hr : Room k X.A) (ha : EA X r (e :: es) ss) (hS : S ss (fun u => u = t)) (hg : Gl X x := by rfl) (hdb : (x == ("__debug__" : Str)) = false := by decide) (he : starEach (e :: es) X.env = (false, eval e X.env) :: starEach es X.env := by rfl) (hpl : (backTo pos (starEach es X.env)).any (·.1) = false := by rfl) :
    EV X r (.Call (.Name x p) (e :: es) [] pos) t := (ep_call D hr ha hS hg hdb he hpl).v
/-- a method of the class C -/
structure MetOk (P : Program) (w : World) (K : PySem.W.Frag) (mg : Str → Option Value) (base : Heap) (C : Addr) (m : Str) (k : Nat) (ps : List Str) (S : List Sl → (T → Prop) → Prop) : Prop where
  ex : ∃ f fd, FnOk P w K mg base CX0 k f fd ps (spT K S) ∧ Meth K C m f ∧ Binds K fd ps []
theorem no_zip {m : Str} : ∀ {ns : List Str} {vs : List V}, m ∉ ns → (ns.zip vs).lookup m = none
  | [], _, _ => rfl
  | n :: ns, [], _ => rfl
  | n :: ns, v :: vs, h => by
    rw [List.zip_cons_cons, List.lookup_cons]
    have : (m == n) = false := by rw [beq_eq_false_iff_ne]; rintro rfl; exact h (by simp)
    rw [this]
    exact no_zip fun e => h (by simp [e])
variable {C : Addr} {fs : List Str} {ts : List T}
theorem ep_met {pl : Sem Bool} (D : MetOk X.prog X.w X.K X.mg X.base C m k ps S) (hr : Room k X.A) (hc : Cls X.K C) (ho : EV X r o (.ins C fs ts)) (hm : m ∉ fs) (ha : EA X r (e :: es) ss) (hS : S (.im (.ins C fs ts) :: ss) P)
    (hst : starEach (e :: es) X.env = (false, eval e X.env) :: starEach es X.env := by rfl) (hpl : (backTo pos (starEach es X.env)).any (·.1) = false := by rfl)
    (ht : eval (.Call (.Attribute o m apos) (e :: es) [] pos) X.env = (do
      let ov ← eval o X.env
      standAt apos.atName
      let (f, first) ← holding [ov] (getMethod ov m pl)
      callWith pos f first (backTo pos (starEach (e :: es) X.env)) (backToKw pos (keywordEach [] X.env))) := by rfl) : EP X r (.Call (.Attribute o m apos) (e :: es) [] pos) P := fun M0 H0 => by
  obtain ⟨f, fd, F, hM, hb⟩ := D.ex
  refine pe_weak (pe_meth (ho M0 H0) hc hM F hr hb .nil pass0 (ha M0 H0) hst hpl ht) fun σ H Q ⟨M, w, q⟩ => ⟨M, w, fun v M1 H1 e1 r1 => ?_⟩
  obtain ⟨a, dx, vs, rfl, h2, h3⟩ := id r1
  refine ⟨a, dx, _, rfl, e1.s _ _ h2, no_zip hm, M1, w.up e1, fun us M2 H2 e2 r2 => ⟨M2, _, P, hS, e2.s, .cons rfl (Rep.mono e2.m r1) ?_, fun t v M' H' pt e3 rp => q t v M' H' pt ((e1.trans e2).trans e3) rp⟩⟩
  rw [List.append_nil]; exact r2
theorem ep_met0 {pl : Sem Bool} (D : MetOk X.prog X.w X.K X.mg X.base C m k ps S) (hr : Room k X.A) (hc : Cls X.K C) (ho : EV X r o (.ins C fs ts)) (hm : m ∉ fs) (hS : S [.im (.ins C fs ts)] P)
    (ht : eval (.Call (.Attribute o m apos) [] [] pos) X.env = (do
      let ov ← eval o X.env
      standAt apos.atName
      let (f, first) ← holding [ov] (getMethod ov m pl)
      callWith pos f first (backTo pos (starEach [] X.env)) (backToKw pos (keywordEach [] X.env))) := by rfl) : EP X r (.Call (.Attribute o m apos) [] [] pos) P := fun M0 H0 => by
  obtain ⟨f, fd, F, hM, hb⟩ := D.ex
  refine pe_weak (pe_meth0 (ho M0 H0) hc hM F hr hb .nil pass0 ht) fun σ H Q ⟨M, w, q⟩ => ⟨M, w, fun v M1 H1 e1 r1 => ?_⟩
  obtain ⟨a, dx, vs, rfl, h2, h3⟩ := id r1
  exact ⟨a, dx, _, rfl, e1.s _ _ h2, no_zip hm, M1, _, P, hS, e1.s, .cons rfl r1 .nil, fun t v M' H' pt e3 rp => q t v M' H' pt (e1.trans e3) rp⟩
/-- a property -/
structure PrpOk (P : Program) (w : World) (K : PySem.W.Frag) (mg : Str → Option Value) (base : Heap) (C : Addr) (m : Str) (k : Nat) (S : List Sl → (T → Prop) → Prop) : Prop where
  ex : ∃ pa g fd, FnOk P w K mg base CX0 k g fd ["self"] (spT K S) ∧ PropOf K C m pa g ∧ Binds K fd ["self"] []
theorem ep_prop (D : PrpOk X.prog X.w X.K X.mg X.base C m k S) (hr : Room (k + 1) X.A) (hc : Cls X.K C) (ho : EV X r o (.ins C fs ts)) (hS : S [.im (.ins C fs ts)] P) (hab : attributeBase o m X.env (eval o X.env) = eval o X.env := by rfl) : EP X r (.Attribute o m pos) P := fun M0 H0 => by
  obtain ⟨pa, g, fd, F, hP, hb⟩ := D.ex
  refine pe_weak (pe_prop (ho M0 H0) hc hP F hr hb .nil pass0 hab) fun σ H Q ⟨M, w, q⟩ => ⟨M, w, fun v M1 H1 e1 r1 => ?_⟩
  obtain ⟨a, dx, vs, rfl, h2, h3⟩ := id r1
  exact ⟨a, dx, _, rfl, e1.s _ _ h2, M1, _, P, hS, e1.s, .cons rfl r1 .nil, fun t v M' H' pt e3 rp => q t v M' H' pt (e1.trans e3) rp⟩

/-! ### making an instance -/
def rem (H : Hp) (x : Addr) : Hp := fun a => if a = x then none else H a
theorem rem_ne {H : Hp} {x a : Addr} (h : a ≠ x) : rem H x a = H a := by unfold rem; rw [if_neg h]
theorem rem_at {H : Hp} {x : Addr} : rem H x x = none := by unfold rem; rw [if_pos rfl]
/-- __init__: the arguments' trees, the fields' trees -/
def spI (K : PySem.W.Frag) (C : Addr) (ns : List Str) (S : List T → List T → Prop) : Sp := fun vs H Q _ => ∃ x dx M ss us ts, vs = .ref x :: us ∧ H x = some (.ins C dx []) ∧ M x = none ∧ Same M H ∧ S ss ts ∧ Reps K M ss us ∧
  ∀ H' M' dx' vs', Ext M (rem H x) M' H' → M' x = none → H' x = some (.ins C dx' (ns.zip vs')) → Reps K M' ts vs' → Q .non H'
theorem args_im {K : PySem.W.Frag} {M H : Hp} : ∀ {ts : List T} {vs : List V}, Reps K M ts vs → ArgsOk K M H (ts.map .im) vs
  | [], _, h => by cases h; exact .nil
  | _ :: _, _, ⟨v, r, h1, h2, h3⟩ => by subst h1; exact .cons rfl h2 (args_im h3)
end
section
variable {P : Program} {w : World} {K : PySem.W.Frag} {mg : Str → Option Value} {base : Heap}
theorem fn_I {x qual : Str} {st : Stmt} {f C : Addr} {fd : FuncData} {N ps : List Str} {k : Nat} {ns : List Str} {S : List T → List T → Prop} (F : Fun K x qual st f fd) (sc : FnScope N ps (defScope st)) (len : ∀ ss ts, S ss ts → ss.length + 1 = ps.length)
    (body : ∀ (cdv : Value) (A : Around) (outer : List Env) (s : Shared) (H : Hp) (E : XK), Room k (A.deeper (envOfC qual (defScope st) s.heap.objs.size f cdv)) → ∀ (y : Addr) ss ts, S ss ts →
      ST (cxOf CX0 P w K mg base N qual (defScope st) f cdv A outer s H E).nox (startR N (.oi y C [] [] :: ss.map .im)) (defBody st) ⟨fun r => r[0]? = some (some (.oi y C ns ts)), fun _ => False⟩) : FnOk P w K mg base CX0 (k + 1) f fd ps (spI K C ns S) := by
  refine F.ok sc (fun vs H Q E ⟨y, dx, M, ss, us, ts, e, _, _, _, hS, ha, _⟩ => by subst e; rw [List.length_cons, ← ha.len]; exact len ss ts hS) fun cdv A outer s H vs Q E hr ⟨y, dx, M, ss, us, ts, e, hy, hm, hs, hS, ha, q⟩ => ?_
  subst e
  have hsr : Same M (rem H y) := fun a u z => by rw [rem_ne (ne_of_none z hm)]; exact hs a u z
  have wd : Wd K M (rem H y) (startR N (.oi y C [] [] :: ss.map .im)) (L2.start N (.ref y :: us)) M H := by
    have hA := args_im (K := K) (M := M) (H := rem H y) ha
    refine ⟨⟨Same.refl _, fun a u z => ?_, hs, fun a u _ z => z⟩, by unfold startR L2.start; simp [ha.len], fun i z e => ?_, fun i z p' e o g => ?_, fun i j z z' p' hne e o e' o' _ _ => ?_⟩
    · by_cases c : a = y
      · subst c; rw [rem_at] at z; cases z
      · rw [rem_ne c] at z; exact z
    · have e1 := startR_get e
      cases i with
      | zero =>
        simp at e1
        subst e1
        exact ⟨_, start_get rfl, dx, [], rfl, hm, hy, rfl, rfl⟩
      | succ i =>
        obtain ⟨v, a, b, c⟩ := hA.get (i := i) (s := z) (by simpa using e1)
        refine ⟨v, start_get (by simpa using a), ?_⟩
        cases z with
        | im t => exact b
        | ro t => exact b
        | ow t => cases c
        | oi _ _ _ _ => cases c
    · have e1 := startR_get e
      cases i with
      | zero =>
        rw [start_get (vs := .ref y :: us) (i := 0) rfl] at g
        cases g
        exact rem_at
      | succ i =>
        obtain ⟨v, a, b, c⟩ := hA.get (i := i) (s := z) (by simpa using e1)
        rw [c] at o; cases o
    · have e1 := startR_get e
      have e2 := startR_get e'
      cases i with
      | succ i =>
        obtain ⟨v, a, b, c⟩ := hA.get (i := i) (s := z) (by simpa using e1)
        rw [c] at o; cases o
      | zero =>
        cases j with
        | zero => exact hne rfl
        | succ j =>
          obtain ⟨v, a, b, c⟩ := hA.get (i := j) (s := z') (by simpa using e2)
          rw [c] at o'; cases o'
  refine ⟨_, body cdv A outer s H E hr y ss ts hS M (rem H y), M, wd, fun r' σ' M' H' hn w' => ?_, fun t v M' H' ht _ _ => ht.elim⟩
  obtain ⟨v, a, dx', vs', rfl, g1, g2, g3, g4⟩ := w'.at_ 0 _ hn
  exact q H' M' dx' vs' w'.ext g1 g2 g4
/-- a class of the module that can be made -/
structure ClsOk (P : Program) (w : World) (K : PySem.W.Frag) (mg : Str → Option Value) (base : Heap) (x : Str) (C : Addr) (k : Nat) (ps : List Str) (ds : List Value) (dvs : List V) (ns : List Str) (S : List T → List T → Prop) : Prop where
  ex : ∃ f fd, FnOk P w K mg base CX0 k f fd ps (spI K C ns S) ∧ mg x = some (.ref C) ∧ Mk K C f ∧ Binds K fd ps ds ∧ Vals dvs ds
end
section
variable {X : Cx} {r : Rho} {k : Nat} {x : Str} {ps ns : List Str} {S : List T → List T → Prop} {ss ds ts : List T} {C : Addr} {e : Expr} {es : List Expr} {p pos : Pos} {dvs : List V} {dus : List Value}
/-- behind __init__ -/
theorem made_ok {K : PySem.W.Frag} {M1 H1 : Hp} {a dx : Addr} {Q : VK} {us : List V} (s1 : Same M1 H1) (ha : H1 a = none) (hdx : H1 dx = none) (hne : dx ≠ a) (hS : S (ss ++ ds) ts) (r1 : Reps K M1 (ss ++ ds) us)
    (q : ∀ v M' H', Ext M1 H1 M' H' → Rep K M' (.ins C ns ts) v → Q v H') (E : XK) : spI K C ns S (.ref a :: us) (upd (upd H1 dx (.own a)) a (.ins C dx [])) (fun v H2 => v = .non ∧ Q (.ref a) H2) E := by
  have ma : M1 a = none := Same.free s1 ha
  have up2 : ∀ b, b ≠ a → b ≠ dx → upd (upd H1 dx (.own a)) a (.ins C dx []) b = H1 b := fun b h1 h2 => by rw [upd_ne h1, upd_ne h2]
  refine ⟨a, dx, M1, ss ++ ds, us, ts, rfl, upd_same, ma, fun b u z => ?_, hS, r1, fun H' M' dx' vs' e2 m2 h2 r2 => ⟨rfl, q _ (upd M' a (.ins C dx' (ns.zip vs'))) H' ⟨fun b u z => ?_, fun b u z => ?_, fun b u z => ?_, fun b u z n => ?_⟩ ⟨a, dx', vs', rfl, upd_same, Reps.mono (sNew m2) r2⟩⟩⟩
  · have z' := s1 b u z
    rw [up2 b (ne_of_none z' ha) (ne_of_none z' hdx)]
    exact z'
  · rw [upd_ne (ne_of_none z ma)]
    exact e2.m b u z
  · have hb := ne_of_none z ha
    refine e2.h b u ?_
    rw [rem_ne hb, up2 b hb (ne_of_none z hdx)]
    exact z
  · by_cases c : b = a
    · subst c; rw [upd_same] at z; cases z; exact h2
    · rw [upd_ne c] at z; exact e2.s b u z
  · have hb := ne_of_none z ha
    rw [upd_ne hb]
    refine e2.n b u ?_ n
    rw [rem_ne hb, up2 b hb (ne_of_none z hdx)]
    exact z
/-- C(a, b, ..): ds what the defaults give -/
theorem ev_make (D : ClsOk X.prog X.w X.K X.mg X.base x C k ps dus dvs ns S) (hr : Room (k + 1) X.A) (ha : EA X r (e :: es) (ss.map .im)) (hd : ∀ M, Reps X.K M ds dvs) (hS : S (ss ++ ds) ts) (hg : Gl X x := by rfl) (hdb : (x == ("__debug__" : Str)) = false := by decide)
    (he : starEach (e :: es) X.env = (false, eval e X.env) :: starEach es X.env := by rfl) (hpl : (backTo pos (starEach es X.env)).any (·.1) = false := by rfl) : EV X r (.Call (.Name x p) (e :: es) [] pos) (.ins C ns ts) := fun M0 H0 => by
  obtain ⟨f, fd, F, hm, hM, hb, hv⟩ := D.ex
  exact pe_weak (pe_make hM F hr hg hm hb hv pass0 (ha M0 H0) hdb he hpl) fun σ H Q ⟨M, w, q⟩ => ⟨M, w, fun vs M1 H1 e1 r1 a dx h1 h2 h3 =>
    made_ok e1.s h1 h2 h3 hS (Reps.append (ArgsOk.reps r1) (hd M1)) (fun v M' H' e2 rp => q v M' H' (e1.trans e2) rp) _⟩
end
end TL

/-! TL, part g: special methods, isinstance, is, min and max of a tuple, sets of ints, keywords. -/
namespace TL
open PySem L2 PySem.Spec PyProof.Rows

/-! ### len(o), o >> t by own methods -/
section
variable {X : Cx} {k : Nat} {C f : Addr} {fd : FuncData} {sp : Sp}
/-- a method run by the interpreter, one level down -/
theorem run_in1 {pins : List (Addr × Obj)} {σ : L2.St} {H : Hp} {s : Shared} {Q : VK} {ps : List Str} {us : List Value} {vs : List V} {E : Value → Shared → Prop} (F : FnOk X.prog X.w X.K X.mg X.base CX0 k f fd ps sp) (hr : Room (k + 1) X.A) (hb : Binds X.K fd ps [])
    (I : Inv X pins σ H s) (r : Vals vs us) (h : sp vs H Q E0) : wpAny (model X.prog X.w) X.A.in1 (call (.ref f) us) (L2.EP X pins σ Q) E s := by
  have hl : (us ++ ([] : List Value)).length = ps.length := by rw [List.append_nil, ← r.length]; exact F.len _ _ _ _ h
  have hbb := hb s us I.kIn hl
  rw [List.append_nil] at hbb
  refine wpAny_call (codeAny_mono (F.run X.A.in1 X.stack s H ⟨us, []⟩ us vs Q E0 hr.in1 I.env0.in1 hbb r h) fun rs s' hq => ?_)
  cases rs with
  | error e => exact hq.elim
  | ok fl =>
    cases fl with
    | ret u => exact I.after hq
    | next => exact hq.elim
    | brk => exact hq.elim
    | cont => exact hq.elim
theorem cr_lenO (F : FnOk X.prog X.w X.K X.mg X.base CX0 k f fd ["self"] sp) (hr : Room (k + 1) X.A) (hb : Binds X.K fd ["self"] []) (hM : Meth X.K C "__len__" f) :
    CallR X (.builtin "len") (fun xs H Q => ∃ a dx fs, xs = [.ref a] ∧ H a = some (.ins C dx fs) ∧ sp [.ref a] H (fun v H' => ∃ n : Nat, v = .int n ∧ n < 2 ^ 62 ∧ Q (.int n) H') E0) := by
  intro pins s σ H vs us Q I r h
  obtain ⟨a, dx, fs, rfl, ha, q⟩ := h
  rw [Vals.ref1 r]
  obtain ⟨m, hf⟩ := I.fr
  obtain ⟨mA, O, _⟩ := ins_get I.hok ha
  obtain ⟨od, J, _⟩ := O.look
  refine PySem.W.len_K hf I.ok.mod.kin J hM.at_ hM.fn (wpAny_mono (run_in1 (us := [.ref a]) (vs := [.ref a]) F hr hb I (.cons rfl .nil) q) (fun u s' hu => ?_) fun _ _ z => z)
  obtain ⟨v, H', I', rv, n, rfl, hn, qn⟩ := hu
  obtain ⟨t, rfl⟩ := rv
  refine ⟨by omega, .int n, H', I'.tok _, ⟨_, rfl⟩, qn⟩

theorem run_at {pins : List (Addr × Obj)} {σ : L2.St} {H : Hp} {s : Shared} {Q : VK} {ps : List Str} {us : List Value} {vs : List V} {E : Value → Shared → Prop} (F : FnOk X.prog X.w X.K X.mg X.base CX0 k f fd ps sp) (hr : Room k X.A) (hb : Binds X.K fd ps [])
    (I : Inv X pins σ H s) (r : Vals vs us) (h : sp vs H Q E0) : wpAny (model X.prog X.w) X.A (call (.ref f) us) (L2.EP X pins σ Q) E s := by
  refine wpAny_mono (run_fn (X := X.nox) (dvs := []) (ds := []) (E := E0) F hr hb .nil pass0 (I.wish _) r (by rw [List.append_nil]; exact h)) (fun u s' ⟨v, H', I', rv, q⟩ => ⟨v, H', I'.unwish, rv, q⟩) fun _ _ z => z.elim
theorem no_fill_shift : fillsNumberSlot (.type "tuple") "rshift" = pure false := by
  have l1 : typeLookup (.type "tuple") (PySem.dunder "rshift") = pure none := by rw [typeLookup_type, builtinLookup_eq_fast]; kernel_rfl
  have l2 : typeLookup (.type "tuple") (PySem.dunderR "rshift") = pure none := by rw [typeLookup_type, builtinLookup_eq_fast]; kernel_rfl
  unfold fillsNumberSlot
  simp [l1, l2]
theorem op_shiftO (F : FnOk X.prog X.w X.K X.mg X.base CX0 k f fd ["self", "deed"] sp) (hr : Room k X.A) (hb : Binds X.K fd ["self", "deed"] []) (hM : Meth X.K C (PySem.dunder "rshift") f) (hs : PySem.W.selfFirst X.K C = true) :
    OpR X (binaryOp .RShift) (fun x y H Q => ∃ a dx fs b ys, x = .ref a ∧ H a = some (.ins C dx fs) ∧ y = .ref b ∧ H b = some (.tup ys) ∧ sp [.ref a, .ref b] H (fun v H' => (∃ z, v = .ref z) ∧ Q v H') E0) := by
  intro pins s σ H x y v u Q I rx ry h
  obtain ⟨a, dx, fs, b, ys, rfl, ha, rfl, hy, q⟩ := h
  cases rx
  cases ry
  have XK := I.kIn
  obtain ⟨mA, O, _⟩ := ins_get I.hok ha
  obtain ⟨od, J, _⟩ := O.look
  obtain ⟨cd, rest, hcd, hm⟩ := PySem.W.ksp_first hs
  obtain ⟨_, its, _, ob, ho, hc, _⟩ := (show ObjOk X.prog X.w H s.heap b (.tup ys) from I.hok b _ hy)
  have one := PySem.W.ksp_try (b := .ref b) (Q := L2.EP X pins σ Q) (E := X.xe) XK J hM.at_ hM.fn (wpAny_mono (run_at (us := [.ref a, .ref b]) (vs := [.ref a, .ref b]) F hr hb I (.cons rfl (.cons rfl .nil)) q) (fun v' s' hv => by
    obtain ⟨z, H', I', rz, ⟨c, rfl⟩, qz⟩ := hv
    obtain rfl : v' = Value.ref c := rz
    exact ⟨V.ref c, H', I', rfl, qz⟩) fun _ _ z => z)
  obtain ⟨hh, g, d, tt, os⟩ := s
  have L1 : PySem.W.Looks (model X.prog X.w) hh (typeOf (.ref a)) (.ref C) := J.type
  have L2' : PySem.W.Looks (model X.prog X.w) hh (typeOf (.ref b)) (.type "tuple") := hc ▸ (PySem.W.Looks.ld ho).andThen .now
  have L3 : PySem.W.Looks (model X.prog X.w) hh (fillsNumberSlot (.ref C) "rshift") true := PySem.W.fills_K XK hcd hm hM.at_
  have L4 : PySem.W.Looks (model X.prog X.w) hh (fillsNumberSlot (.type "tuple") "rshift") false := PySem.W.Looks.of_pure no_fill_shift
  have hne : (Value.ref C == Value.type "tuple") = false := Bool.eq_false_iff.mpr fun z => by cases beq_iff_eq.mp z
  simp only [binaryOp, Operator.info]
  refine wpAny_holding (wpAny_bind ?_)
  unfold binaryOp1
  refine wpAny_bind (L1.at (wpAny_bind (L2'.at (wpAny_bind (L3.at ?_)))))
  simp only [hne, Bool.false_eq_true, if_false]
  ksp_lk
  refine wpAny_mono one (fun r s' hr' => ?_) fun _ _ e => e
  obtain ⟨v, rfl, hq⟩ := hr'
  ksp_lk
  exact hq
end
section
variable {X : Cx} {r : Rho} {k : Nat} {C : Addr} {S : List Sl → (T → Prop) → Prop} {P : T → Prop} {o a b e : Expr} {fs : List Str} {ts us : List T} {t : T} {p pos q : Pos}
theorem ep_lenO (D : MetOk X.prog X.w X.K X.mg X.base C "__len__" k ["self"] S) (hr : Room (k + 1) X.A) (ho : EV X r o (.ins C fs ts)) (hS : S [.im (.ins C fs ts)] P) (hP : ∀ t, P t → ∃ n : Nat, t = .int n ∧ n < 2 ^ 62) (hm : X.mg "len" = none) (hg : Gl X "len" := by rfl)
    (hst : starEach [o] X.env = (false, eval o X.env) :: starEach [] X.env := by rfl) (hpl : (backTo pos (starEach [] X.env)).any (·.1) = false := by rfl) : EP X r (.Call (.Name "len" p) [o] [] pos) P := fun M0 H0 => by
  obtain ⟨f, fd, F, hM, hb⟩ := D.ex
  refine pe_weak (pe_callB (cr_lenO F hr hb hM) hg hm PySem.boot_len (pa_cons (ho M0 H0) pa_nil hst) (he := hst) (hpl := hpl)) fun σ H Q ⟨M, w, kk⟩ => ⟨M, w, fun v M1 H1 e1 r1 => ?_⟩
  obtain ⟨a, dx, vs, rfl, h2, h3⟩ := id r1
  refine ⟨a, dx, _, rfl, e1.s _ _ h2, M1, _, P, hS, e1.s, .cons rfl r1 .nil, fun t v M' H' pt e3 rp => ?_⟩
  obtain ⟨n, rfl, hn⟩ := hP t pt
  exact ⟨n, rp, hn, kk _ _ M' H' pt (e1.trans e3) rfl⟩
theorem ep_shift (D : MetOk X.prog X.w X.K X.mg X.base C (PySem.dunder "rshift") k ["self", "deed"] S) (hr : Room k X.A) (hs : PySem.W.selfFirst X.K C = true) (ho : EV X r a (.ins C fs ts)) (hb : EV X r b (.tup us)) (hS : S [.im (.ins C fs ts), .im (.tup us)] P) (hP : ∀ t, P t → ∃ D gs vs, t = .ins D gs vs) :
    EP X r (.BinOp a .RShift b pos) P := fun M0 H0 => by
  obtain ⟨f, fd, F, hM, hbb⟩ := D.ex
  refine pe_weak (pe_op (op_shiftO F hr hbb hM hs) (ho M0 H0) (hb M0 H0)) fun σ H Q ⟨M, w, kk⟩ => ⟨M, w, fun v M1 H1 e1 r1 => ⟨M1, w.up e1, fun u M2 H2 e2 r2 => ?_⟩⟩
  obtain ⟨a, dx, vs, rfl, h2, h3⟩ := id r1
  obtain ⟨b, ws, rfl, h4, h5⟩ := id r2
  refine ⟨a, dx, _, b, ws, rfl, e2.s _ _ (e2.m _ _ h2), rfl, e2.s _ _ h4, M2, _, P, hS, e2.s, .cons rfl (Rep.mono e2.m r1) (.cons rfl r2 .nil), fun t v M' H' pt e3 rp => ?_⟩
  obtain ⟨D, gs, xs, rfl⟩ := hP t pt
  obtain ⟨z, _, _, rfl, _⟩ := id rp
  exact ⟨⟨z, rfl⟩, kk _ _ M' H' pt ((e1.trans e2).trans e3) rp⟩

/-! ### is True, is False -/
def T.isB (k : Bool) : T → Bool
  | .bl b => decide (b = k)
  | _ => false
theorem plain_of {K : PySem.W.Frag} {M : Hp} {t : T} {v : V} {u : Value} {k : Bool} (h : Rep K M t v) (ru : RelV v u) : plainIs u (.bool k) = true ∧ (u == Value.bool k) = t.isB k := by
  cases t with
  | non => cases h; cases ru; exact ⟨rfl, rfl⟩
  | bl b => cases h; cases ru; exact ⟨rfl, by cases b <;> cases k <;> rfl⟩
  | int _ => cases h; obtain ⟨t, rfl⟩ := ru; exact ⟨rfl, rfl⟩
  | str _ => cases h; obtain ⟨t, rfl⟩ := ru; exact ⟨rfl, rfl⟩
  | ty _ => cases h; cases ru; exact ⟨rfl, rfl⟩
  | tup _ => obtain ⟨_, _, rfl, _⟩ := h; cases ru; exact ⟨rfl, rfl⟩
  | lst _ => obtain ⟨_, _, rfl, _⟩ := h; cases ru; exact ⟨rfl, rfl⟩
  | ins _ _ _ => obtain ⟨_, _, _, rfl, _⟩ := h; cases ru; exact ⟨rfl, rfl⟩
  | rng _ _ => obtain ⟨_, rfl, _⟩ := h; cases ru; exact ⟨rfl, rfl⟩
theorem op_isT (neg : Bool) : OpR X (compareOp (if neg then .IsNot else .Is)) (fun x y H Q => ∃ t M k, Rep X.K M t x ∧ y = .bl k ∧ Q (.bl (if neg then !t.isB k else t.isB k)) H) := by
  intro pins s σ H x y v u Q I rx ry h
  obtain ⟨t, M, k, hr, rfl, q⟩ := h
  cases ry
  obtain ⟨h1, h2⟩ := plain_of (k := k) hr rx
  cases neg with
  | true => exact wpAny_isNot_plain h1 ⟨.bl (!t.isB k), H, I, by rw [h2]; rfl, q⟩
  | false => exact wpAny_is_plain h1 ⟨.bl (t.isB k), H, I, by rw [h2]; rfl, q⟩
variable {b0 : Bool}
theorem et_isB (ha : EV X r a t) {j : Nat} : ET X r (.Compare a [.Is] [.Constant (.bool b0) j q] pos) (t.isB b0) :=
  et_cmp2 (op_isT false) ha ev_bl (nomark _) fun M H v u Q s h1 h2 k => ⟨t, M, b0, h1, h2, k⟩
theorem ev_isB (ha : EV X r a t) {j : Nat} : EV X r (.Compare a [.Is] [.Constant (.bool b0) j q] pos) (.bl (t.isB b0)) :=
  ev_cmp2 (op_isT false) ha ev_bl (nomark _) fun M H v u Q s h1 h2 k => ⟨t, M, b0, h1, h2, k _ M H (Ext.refl s) rfl⟩
theorem et_notB (ha : EV X r a t) {j : Nat} : ET X r (.Compare a [.IsNot] [.Constant (.bool b0) j q] pos) (!t.isB b0) :=
  et_cmp2 (op_isT true) ha ev_bl (nomark _) fun M H v u Q s h1 h2 k => ⟨t, M, b0, h1, h2, k⟩

/-! ### isinstance -/
def T.tyn : T → Option String
  | .non => some "NoneType"
  | .bl _ => some "bool"
  | .int _ => some "int"
  | .str _ => some "str"
  | .tup _ => some "tuple"
  | .lst _ => some "list"
  | _ => none
theorem tyx_of {K : PySem.W.Frag} {M H : Hp} {t : T} {v : V} {n : String} (s : Same M H) (h : Rep K M t v) (e : t.tyn = some n) : TyX K H v (.type n) := by
  cases t <;> cases e
  · cases h; exact .base .non
  · cases h; exact .base (.bl _)
  · cases h; exact .base (.int _)
  · cases h; exact .base (.str _)
  · obtain ⟨a, vs, rfl, h2, _⟩ := h; exact .base (.tup (s _ _ h2))
  · obtain ⟨a, vs, rfl, h2, _⟩ := h; exact .base (.lst (s _ _ h2))
theorem ev_isi {n m : String} (ha : EV X r a t) (hc : EV X r b (.ty n)) (e : t.tyn = some m) (hk : kitB m n = some b0) (hm : X.mg "isinstance" = none) (hg : Gl X "isinstance" := by rfl) (hs1 : starEach [a, b] X.env = (false, eval a X.env) :: starEach [b] X.env := by rfl) (hs2 : starEach [b] X.env = (false, eval b X.env) :: starEach [] X.env := by rfl)
    (hpl : (backTo pos (starEach [b] X.env)).any (·.1) = false := by rfl) : EV X r (.Call (.Name "isinstance" p) [a, b] [] pos) (.bl b0) := fun M0 H0 =>
  pe_weak (pe_callB call_isi hg hm (by decide +kernel) (pa_cons (ha M0 H0) (pa_cons (hc M0 H0) pa_nil hs2) hs1) (he := hs1) (hpl := hpl)) fun σ H Q ⟨M, w, k⟩ => ⟨M, w, fun v M1 H1 e1 r1 => ⟨M1, w.up e1, fun u M2 H2 e2 r2 =>
    ⟨v, u, _, _, b0, rfl, by rw [show u = V.ty n from r2]; exact .ty n, tyx_of e2.s (Rep.mono e2.m r1) e, kit_ty hk, k _ M2 H2 (e1.trans e2) rfl⟩⟩⟩
theorem ev_isi2 {n n' m : String} (ha : EV X r a t) (hc : EV X r b (.tup [.ty n, .ty n'])) (e : t.tyn = some m) (hk : ∀ K, PySem.W.kitAny K (.type m) [.type n, .type n'] = some b0) (hm : X.mg "isinstance" = none) (hg : Gl X "isinstance" := by rfl) (hs1 : starEach [a, b] X.env = (false, eval a X.env) :: starEach [b] X.env := by rfl) (hs2 : starEach [b] X.env = (false, eval b X.env) :: starEach [] X.env := by rfl)
    (hpl : (backTo pos (starEach [b] X.env)).any (·.1) = false := by rfl) : EV X r (.Call (.Name "isinstance" p) [a, b] [] pos) (.bl b0) := fun M0 H0 =>
  pe_weak (pe_callB call_isiT hg hm (by decide +kernel) (pa_cons (ha M0 H0) (pa_cons (hc M0 H0) pa_nil hs2) hs1) (he := hs1) (hpl := hpl)) fun σ H Q ⟨M, w, k⟩ => ⟨M, w, fun v M1 H1 e1 r1 => ⟨M1, w.up e1, fun u M2 H2 e2 r2 => by
    obtain ⟨c, vs, rfl, h2, v1, _, rfl, rfl, v2, _, rfl, rfl, rfl⟩ := r2
    exact ⟨v, c, _, _, _, b0, rfl, e2.s _ _ h2, .cons (.ty n) (.cons (.ty n') .nil), tyx_of e2.s (Rep.mono e2.m r1) e, hk _, k _ M2 H2 (e1.trans e2) rfl⟩⟩⟩
end

/-! ### min and max of a tuple of ints; sets of ints; sorted triples -/
section
variable {X : Cx} {r : Rho} {a b e : Expr} {ts us : List T} {t : T} {p p2 pos pos2 : Pos} {ns : List Int}
theorem cr_minT (hc : X.calm = true) (hu : X.A.units + 64 < cLine) : CallR X (.builtin "min") (fun xs H Q => ∃ l ns, xs = [.ref l] ∧ SqT X.K H l (ns.map V.int) ∧ ns ≠ [] ∧ ∀ n, n ∈ ns → Q (.int n) H) := by
  intro pins s σ H xs us Q I rr h
  obtain ⟨l, ns, rfl, hl, hn, q⟩ := h
  rw [Vals.ref1 rr]
  obtain ⟨its, rv, hT, _⟩ := I.tuple hl
  have hi := rv.ints
  cases ns with
  | nil => exact absurd rfl hn
  | cons n ns =>
    refine PySem.W.min_tuple_datum (x := n) (xs := ns) (I.ok.hd hc) hT (PySem.W.HoldAll.of_ints (by simpa using hi)) (by show X.A.units + 1 + 0 < cLine; omega) fun i v h' tk hv _ hk => ?_
    obtain ⟨x, hx, hr⟩ := (show ∃ x, ((n :: ns).map V.int)[i]? = some x ∧ RelV x v from by
      have hv' : its[i]? = some v := by simpa using hv
      have hlt : i < ((n :: ns).map V.int).length := by rw [rv.length]; exact (List.getElem?_eq_some_iff.mp hv').1
      obtain ⟨u, h1, h2⟩ := rv.get (List.getElem?_eq_getElem hlt)
      rw [hv'] at h1
      cases h1
      exact ⟨_, List.getElem?_eq_getElem hlt, h2⟩)
    rw [List.getElem?_map] at hx
    cases hz : (n :: ns)[i]? with
    | none => rw [hz] at hx; cases hx
    | some m =>
      rw [hz] at hx
      cases hx
      exact ⟨.int m, H, I.kept hk, hr, q m (List.mem_of_getElem? hz)⟩
theorem cr_maxT (hc : X.calm = true) (hu : X.A.units + 64 < cLine) : CallR X (.builtin "max") (fun xs H Q => ∃ l ns, xs = [.ref l] ∧ SqT X.K H l (ns.map V.int) ∧ ns ≠ [] ∧ ∀ n, n ∈ ns → Q (.int n) H) := by
  intro pins s σ H xs us Q I rr h
  obtain ⟨l, ns, rfl, hl, hn, q⟩ := h
  rw [Vals.ref1 rr]
  obtain ⟨its, rv, hT, _⟩ := I.tuple hl
  have hi := rv.ints
  cases ns with
  | nil => exact absurd rfl hn
  | cons n ns =>
    refine PySem.W.max_tuple_datum (x := n) (xs := ns) (I.ok.hd hc) hT (PySem.W.HoldAll.of_ints (by simpa using hi)) (by show X.A.units + 1 + 0 < cLine; omega) fun i v h' tk hv _ hk => ?_
    obtain ⟨x, hx, hr⟩ := (show ∃ x, ((n :: ns).map V.int)[i]? = some x ∧ RelV x v from by
      have hv' : its[i]? = some v := by simpa using hv
      have hlt : i < ((n :: ns).map V.int).length := by rw [rv.length]; exact (List.getElem?_eq_some_iff.mp hv').1
      obtain ⟨u, h1, h2⟩ := rv.get (List.getElem?_eq_getElem hlt)
      rw [hv'] at h1
      cases h1
      exact ⟨_, List.getElem?_eq_getElem hlt, h2⟩)
    rw [List.getElem?_map] at hx
    cases hz : (n :: ns)[i]? with
    | none => rw [hz] at hx; cases hx
    | some m =>
      rw [hz] at hx
      cases hx
      exact ⟨.int m, H, I.kept hk, hr, q m (List.mem_of_getElem? hz)⟩
theorem ep_minT (ha : EV X r a (.tup (ns.map .int))) (hn : ns ≠ []) (hc : X.calm = true) (hu : X.A.units + 64 < cLine) (hm : X.mg "min" = none) (hg : Gl X "min" := by rfl) (hst : starEach [a] X.env = (false, eval a X.env) :: starEach [] X.env := by rfl) (hpl : (backTo pos (starEach [] X.env)).any (·.1) = false := by rfl) :
    EP X r (.Call (.Name "min" p) [a] [] pos) (fun t => ∃ n, n ∈ ns ∧ t = .int n) := fun M0 H0 =>
  pe_weak (pe_callB (cr_minT hc hu) hg hm (by decide +kernel) (pa_cons (ha M0 H0) pa_nil hst) (he := hst)) fun σ H Q ⟨M, w, k⟩ => ⟨M, w, fun v M1 H1 e1 r1 => by
    obtain ⟨q, vs, rfl, h2, h3⟩ := r1
    rw [reps_ints h3] at h2
    exact ⟨q, ns, rfl, SqT.of (e1.s _ _ h2), hn, fun n hn' => k _ _ M1 H1 ⟨n, hn', rfl⟩ e1 rfl⟩⟩
theorem ep_maxT (ha : EV X r a (.tup (ns.map .int))) (hn : ns ≠ []) (hc : X.calm = true) (hu : X.A.units + 64 < cLine) (hm : X.mg "max" = none) (hg : Gl X "max" := by rfl) (hst : starEach [a] X.env = (false, eval a X.env) :: starEach [] X.env := by rfl) (hpl : (backTo pos (starEach [] X.env)).any (·.1) = false := by rfl) :
    EP X r (.Call (.Name "max" p) [a] [] pos) (fun t => ∃ n, n ∈ ns ∧ t = .int n) := fun M0 H0 =>
  pe_weak (pe_callB (cr_maxT hc hu) hg hm (by decide +kernel) (pa_cons (ha M0 H0) pa_nil hst) (he := hst)) fun σ H Q ⟨M, w, k⟩ => ⟨M, w, fun v M1 H1 e1 r1 => by
    obtain ⟨q, vs, rfl, h2, h3⟩ := r1
    rw [reps_ints h3] at h2
    exact ⟨q, ns, rfl, SqT.of (e1.s _ _ h2), hn, fun n hn' => k _ _ M1 H1 ⟨n, hn', rfl⟩ e1 rfl⟩⟩
theorem cr_setI (hc : X.calm = true) : CallR X (.type "set") (fun xs H Q => ∃ (l : Addr) (ns : List Int), xs = [.ref l] ∧ SqT X.K H l (ns.map V.int) ∧ ns.length < 60 ∧ ∀ q c, H q = none → c ≤ ns.length → Q (.ref q) (upd H q (SetO X.w q (fun j => decide (j ∈ ns)) c))) := by
  intro pins s σ H xs us Q I rr h
  obtain ⟨l, ns, rfl, hl, hn, q⟩ := h
  rw [Vals.ref1 rr]
  obtain ⟨its, rv, hT, _⟩ := I.tuple hl
  refine call_set_tupI ns (I.ok.hd hc) (show s.heap.IsTuple l its.toArray from hT) (by simpa using rv.ints) (Nat.lt_of_le_of_lt (Nat.succ_le_of_lt hn) (by decide)) fun h' tk c R hcl hk => ?_
  exact ⟨.ref s.heap.objs.size, _, I.laid (t' := tk) hk (Nat.le_refl _) (setO_new R), rfl, q _ c (I.hok.fresh (Nat.le_refl _)) hcl⟩
/-- sorted(set(t)), t a tuple of ints -/
theorem el_sset {ms : List Int} (ha : EV X r a (.tup (ns.map .int))) (hl : ns.length < 60) (h1 : ms.Pairwise (· < ·)) (h2 : ∀ n, n ∈ ms ↔ n ∈ ns) (hc : X.calm = true) (hm : X.mg "sorted" = none) (hm2 : X.mg "set" = none) (hg : Gl X "sorted" := by rfl) (hg2 : Gl X "set" := by rfl)
    (hst : starEach [a] X.env = (false, eval a X.env) :: starEach [] X.env := by rfl) (hst2 : starEach [.Call (.Name "set" p2) [a] [] pos2] X.env = (false, eval (.Call (.Name "set" p2) [a] [] pos2) X.env) :: starEach [] X.env := by rfl) :
    EL X r (.Call (.Name "sorted" p) [.Call (.Name "set" p2) [a] [] pos2] [] pos) (ms.map .int) := fun M0 H0 =>
  pe_weak (pe_callB (cr_sortedSet hc) hg hm (by decide +kernel) (pa_cons (pe_callTy (cr_setI hc) hg2 hm2 (by decide +kernel) (pa_cons (ha M0 H0) pa_nil hst) (he := hst)) pa_nil hst2) (he := hst2)) fun σ H Q ⟨M, w, k⟩ => ⟨M, w, fun v M1 H1 e1 r1 => by
    obtain ⟨q, vs, rfl, g2, g3⟩ := r1
    rw [reps_ints g3] at g2
    refine ⟨q, ns, rfl, SqT.of (e1.s _ _ g2), hl, fun q2 c hq hcl => ⟨q2, _, c, rfl, upd_same, by omega, fun ns' q3 hs hmem hlen hq3 => ?_⟩⟩
    have e3 : ns' = ms := by
      refine List.Perm.eq_of_pairwise (le := fun x y => x < y) (fun a b _ _ z1 z2 => absurd z1 (Int.lt_asymm z2)) hs h1 ?_
      refine (List.perm_ext_iff_of_nodup (hs.imp fun h => Int.ne_of_lt h) (h1.imp fun h => Int.ne_of_lt h)).mpr fun n => ?_
      rw [hmem, h2]
      simp
    subst e3
    have h0 : H1 q3 = none := by
      by_cases c : q3 = q2
      · subst c; rw [upd_same] at hq3; cases hq3
      · rw [upd_ne c] at hq3; exact hq3
    have x1 := e1.trans (Ext.own (o := SetO X.w q2 (fun j => decide (j ∈ ns)) c) e1.s hq)
    exact k q3 _ M1 _ (x1.trans (Ext.own x1.s hq3)) (Same.free e1.h h0) (Same.free e1.s h0) upd_same reps_of_ints⟩
end
end TL

/-! TL, part h: data in naturals. -/
namespace TL
open PySem L2 PySem.Spec PyProof.Rows

abbrev eN (n : Nat) : T := .int (n : Int)
def eO : Option Nat → T
  | none => .non
  | some n => eN n
abbrev eNs (l : List Nat) : T := .tup (l.map eN)
abbrev eP (p : Nat × Nat) : T := .tup [eN p.1, eN p.2]

theorem rgT_nat (n : Nat) : rgT 0 n = (List.range n).map eN := by
  unfold rgT
  exact List.map_congr_left fun k _ => by simp [eN]
theorem map_range {α β : Type} {f : α → β} {d : α} : ∀ (xs : List α), xs.map f = (List.range xs.length).map fun i => f (xs.getD i d)
  | [] => rfl
  | x :: xs => by
    rw [List.map_cons, List.length_cons, List.range_succ_eq_map, List.map_cons, List.map_map, map_range xs]
    rfl
theorem enT_range {α : Type} {f : α → T} (d : α) (xs : List α) : enT (xs.map f) = (List.range xs.length).map fun i => .tup [eN i, f (xs.getD i d)] := by
  refine List.ext_getElem? fun i => ?_
  by_cases h : i < xs.length
  · rw [enT_get (t := f xs[i]) (by rw [List.getElem?_map, List.getElem?_eq_getElem h]; rfl), List.getElem?_map, List.getElem?_range h]
    simp only [Option.map_some, List.getD_eq_getElem?_getD, List.getElem?_eq_getElem h, Option.getD_some]
  · have h' : xs.length ≤ i := Nat.le_of_not_lt h
    rw [List.getElem?_eq_none (by rw [enT_len, List.length_map]; exact h'), List.getElem?_eq_none (by simpa using h')]
theorem getD_map {α : Type} {f : α → T} {d : α} {xs : List α} {j : Nat} (h : j < xs.length) : (xs.map f)[j]? = some (f (xs.getD j d)) := by
  rw [List.getElem?_map, List.getD_eq_getElem?_getD, List.getElem?_eq_getElem h]; rfl
theorem at_getD {α : Type} {f : α → T} {d : α} {xs : List α} {j : Nat} (h : j < xs.length) : L2.atI (xs.map f) (j : Int) = some (f (xs.getD j d)) := atI_nat (getD_map h)
theorem inT_nat {n : Nat} {l : List Nat} : inT (eN n) (l.map eN) = decide (n ∈ l) := by
  unfold inT
  rw [List.any_map]
  induction l with
  | nil => simp
  | cons a l ih =>
    rw [List.any_cons, ih]
    simp only [Function.comp, T.eqF, eN]
    by_cases h : n = a
    · subst h; simp
    · have : ¬ ((a : Int) = (n : Int)) := fun e => h (by omega)
      simp [h, this]
theorem inT_eO {n : Option Nat} {l : List Nat} : inT (eO n) (l.map eN) = (match n with | none => false | some k => decide (k ∈ l)) := by
  cases n with
  | some k => exact inT_nat
  | none =>
    unfold inT
    rw [List.any_map, List.any_eq_false]
    intro x _
    simp [T.eqF, eO, eN]
theorem flats_eN {l : List Nat} : (l.map eN).all T.flat = true := by rw [List.all_map, List.all_eq_true]; intro x _; rfl
theorem flat_eO {o : Option Nat} : (eO o).flat = true := by cases o <;> rfl
theorem isN_eO {o : Option Nat} : (eO o).isN = o.isNone := by cases o <;> rfl

section
variable {X : Cx} {r : Rho} {a b e : Expr} {ts : List T} {t : T} {p pos : Pos} {n m j : Nat} {l : List Nat} {tg : Expr} {o : Option Nat}
/-- a[b], an index from the front -/
theorem ev_at {α : Type} {f : α → T} {d : α} {xs : List α} (ha : EQ X r a (xs.map f)) (hb : EV X r b (eN j)) (h : j < xs.length) (hs : PlainIx b := by exact fun _ _ => rfl) : EV X r (.Subscript a b pos) (f (xs.getD j d)) :=
  ev_ix ha hb (at_getD h) hs
theorem ev_at' (ha : EQ X r a ts) (hb : EV X r b (.int (j : Int))) (h : ts[j]? = some t) (hs : PlainIx b := by exact fun _ _ => rfl) : EV X r (.Subscript a b pos) t :=
  ev_ix ha hb (atI_nat h) hs
theorem ev_lenN (ha : EQ X r a ts) (hm : X.mg "len" = none) (h : ts.length = n) (hg : Gl X "len" := by rfl) (hst : starEach [a] X.env = (false, eval a X.env) :: starEach [] X.env := by rfl) (hpl : (backTo pos (starEach [] X.env)).any (·.1) = false := by rfl) : EV X r (.Call (.Name "len" p) [a] [] pos) (eN n) :=
  h ▸ ev_len ha hm hg hst hpl
theorem ei_rangeN (ha : EV X r a (eN n)) (h2 : n ≤ 1000000) (hm : X.mg "range" = none) (hg : Gl X "range" := by rfl) (hs : starEach [a] X.env = [(false, eval a X.env)] := by rfl) : EI X r tg (.Call (.Name "range" p) [a] [] pos) ((List.range n).map eN) := by
  have h := ei_range (tg := tg) (p := p) (pos := pos) ha (by omega) (by omega) hm hg hs
  rw [show ((n : Int)).toNat = n from rfl, rgT_nat] at h
  exact h
theorem EI.to {us : List T} {x : Expr} (h : EI X r tg x ts) (q : ts = us) : EI X r tg x us := q ▸ h
theorem ev_inN (ha : EV X r a (eN n)) (hb : EQ X r b (l.map eN)) (hm : behindInMarks .In b = false := by rfl) : EV X r (.Compare a [.In] [b] pos) (.bl (decide (n ∈ l))) := (ev_in ha hb rfl flats_eN hm).to (by rw [inT_nat])
theorem ev_niN (ha : EV X r a (eN n)) (hb : EQ X r b (l.map eN)) (hm : behindInMarks .NotIn b = false := by rfl) : EV X r (.Compare a [.NotIn] [b] pos) (.bl (!decide (n ∈ l))) := (ev_ni ha hb rfl flats_eN hm).to (by rw [inT_nat])
theorem et_inN (ha : EV X r a (eN n)) (hb : EQ X r b (l.map eN)) (hm : behindInMarks .In b = false := by rfl) : ET X r (.Compare a [.In] [b] pos) (decide (n ∈ l)) := (et_in ha hb rfl flats_eN hm).to inT_nat
theorem et_niN (ha : EV X r a (eN n)) (hb : EQ X r b (l.map eN)) (hm : behindInMarks .NotIn b = false := by rfl) : ET X r (.Compare a [.NotIn] [b] pos) (!decide (n ∈ l)) := (et_ni ha hb rfl flats_eN hm).to (by rw [inT_nat])
def inO (o : Option Nat) (l : List Nat) : Bool := match o with
  | none => false
  | some k => decide (k ∈ l)
theorem et_inO (ha : EV X r a (eO o)) (hb : EQ X r b (l.map eN)) (hm : behindInMarks .In b = false := by rfl) : ET X r (.Compare a [.In] [b] pos) (inO o l) := (et_in ha hb flat_eO flats_eN hm).to inT_eO
theorem et_niO (ha : EV X r a (eO o)) (hb : EQ X r b (l.map eN)) (hm : behindInMarks .NotIn b = false := by rfl) : ET X r (.Compare a [.NotIn] [b] pos) (!inO o l) := (et_ni ha hb flat_eO flats_eN hm).to (by rw [inT_eO]; rfl)
theorem ev_inO (ha : EV X r a (eO o)) (hb : EQ X r b (l.map eN)) (hm : behindInMarks .In b = false := by rfl) : EV X r (.Compare a [.In] [b] pos) (.bl (inO o l)) := (ev_in ha hb flat_eO flats_eN hm).to (by rw [inT_eO]; rfl)
theorem ev_niO (ha : EV X r a (eO o)) (hb : EQ X r b (l.map eN)) (hm : behindInMarks .NotIn b = false := by rfl) : EV X r (.Compare a [.NotIn] [b] pos) (.bl (!inO o l)) := (ev_ni ha hb flat_eO flats_eN hm).to (by rw [inT_eO]; rfl)
theorem et_ltN (ha : EV X r a (eN n)) (hb : EV X r b (eN m)) : ET X r (.Compare a [.Lt] [b] pos) (decide (n < m)) := (et_lt ha hb).to (by simp)
theorem et_gtN (ha : EV X r a (eN n)) (hb : EV X r b (eN m)) : ET X r (.Compare a [.Gt] [b] pos) (decide (m < n)) := (et_gt ha hb).to (by simp)
theorem et_geN (ha : EV X r a (eN n)) (hb : EV X r b (eN m)) : ET X r (.Compare a [.GtE] [b] pos) (decide (m ≤ n)) := (et_ge ha hb).to (by simp)
theorem et_eqN (ha : EV X r a (eN n)) (hb : EV X r b (eN m)) : ET X r (.Compare a [.Eq] [b] pos) (decide (n = m)) := (et_eq ha hb rfl).to (by simp [Int.ofNat_inj])
theorem et_neN (ha : EV X r a (eN n)) (hb : EV X r b (eN m)) : ET X r (.Compare a [.NotEq] [b] pos) (!decide (n = m)) := (et_ne ha hb rfl).to (by simp [Int.ofNat_inj])
theorem ev_ltN (ha : EV X r a (eN n)) (hb : EV X r b (eN m)) : EV X r (.Compare a [.Lt] [b] pos) (.bl (decide (n < m))) := (ev_lt ha hb).to (by simp)
theorem ev_gtN (ha : EV X r a (eN n)) (hb : EV X r b (eN m)) : EV X r (.Compare a [.Gt] [b] pos) (.bl (decide (m < n))) := (ev_gt ha hb).to (by simp)
theorem ev_geN (ha : EV X r a (eN n)) (hb : EV X r b (eN m)) : EV X r (.Compare a [.GtE] [b] pos) (.bl (decide (m ≤ n))) := (ev_ge ha hb).to (by simp)
theorem ev_eqN (ha : EV X r a (eN n)) (hb : EV X r b (eN m)) : EV X r (.Compare a [.Eq] [b] pos) (.bl (decide (n = m))) := (ev_eq ha hb rfl).to (by simp [Int.ofNat_inj])
theorem ev_addN (ha : EV X r a (eN n)) (hb : EV X r b (eN m)) : EV X r (.BinOp a .Add b pos) (eN (n + m)) := (ev_add ha hb).to (by simp [eN])
theorem ev_modN (ha : EV X r a (eN n)) (hb : EV X r b (eN m)) (h : 0 < m) : EV X r (.BinOp a .Mod b pos) (eN (n % m)) := (ev_mod ha hb (by omega)).to (by simp [eN])
theorem ev_subN (ha : EV X r a (eN n)) (hb : EV X r b (eN m)) (h : m ≤ n) : EV X r (.BinOp a .Sub b pos) (eN (n - m)) := (ev_sub ha hb).to (by simp only [eN, T.int.injEq]; omega)
theorem ev_nat {k : Nat} : EV X r (.Constant (.int (n : Int)) k pos) (eN n) := ev_int
/-- an index from the back -/
theorem atI_back {α : Type} {xs : List α} {k : Nat} {v : α} (h1 : 1 ≤ k) (h2 : k ≤ xs.length) (h : xs[xs.length - k]? = some v) : L2.atI xs (-(k : Int)) = some v := by
  have e : ixN xs.length (-(k : Int)) = some (xs.length - k) := by
    unfold ixN
    rw [if_neg (by omega), if_pos (by omega)]
    congr 1
    omega
  unfold L2.atI; rw [e]; exact h
theorem ev_last {α : Type} {f : α → T} {d : α} {xs : List α} {q q2 : Pos} {k : Nat} (ha : EQ X r a (xs.map f)) (h : 1 ≤ xs.length) (hs : PlainIx (.UnaryOp .USub (.Constant (.int 1) k q) q2) := by exact fun _ _ => rfl) : EV X r (.Subscript a (.UnaryOp .USub (.Constant (.int 1) k q) q2) pos) (f (xs.getD (xs.length - 1) d)) :=
  ev_ix ha (ev_neg ev_int) (atI_back (k := 1) (by omega) (by simpa using h) (by rw [List.length_map]; exact getD_map (by omega))) hs
theorem ev_last2 {α : Type} {f : α → T} {d : α} {xs : List α} {q q2 : Pos} {k : Nat} (ha : EQ X r a (xs.map f)) (h : 2 ≤ xs.length) (hs : PlainIx (.UnaryOp .USub (.Constant (.int 2) k q) q2) := by exact fun _ _ => rfl) : EV X r (.Subscript a (.UnaryOp .USub (.Constant (.int 2) k q) q2) pos) (f (xs.getD (xs.length - 2) d)) :=
  ev_ix ha (ev_neg ev_int) (atI_back (k := 2) (by omega) (by simpa using h) (by rw [List.length_map]; exact getD_map (by omega))) hs
end

/-! ### a street and what hangs where -/
structure Sd where
  pegs : List Nat
  lanes : List (Nat × Nat)
  ways : List (List Nat)
namespace Sd
variable (s : Sd)
def nH : Nat := s.pegs.length
def nT : Nat := s.ways.length
def way (t : Nat) : List Nat := s.ways.getD t []
def peg (h : Nat) : Nat := s.pegs.getD h 0
def toL (a : Nat) : List Nat := (s.lanes.filter fun p => decide (p.1 = a)).map (·.2)
def frL (b : Nat) : List Nat := (s.lanes.filter fun p => decide (p.2 = b)).map (·.1)
end Sd
def holder (w : List Nat) : Option Nat := if 1 < w.length then some (w.getD (w.length - 1) 0) else none
def wantOf (w : List Nat) : Option Nat := if 2 < w.length then some (w.getD (w.length - 2) 0) else none
namespace Sd
variable (s : Sd)
def hungAt (h : Nat) : List Nat := (List.range s.nT).filter fun t => decide (holder (s.way t) = some h)
def want (t : Nat) : Option Nat := wantOf (s.way t)
def full (h : Nat) : Bool := decide (s.peg h ≤ (s.hungAt h).length)
end Sd
abbrev fsSt : List Str := ["pegs", "lanes", "to_lists", "from_lists"]
abbrev fsSg : List Str := ["street", "ways", "hung", "wants"]
def tStreet (CS : Addr) (s : Sd) : T := .ins CS fsSt [eNs s.pegs, .tup (s.lanes.map eP), .tup ((List.range s.nH).map fun a => eNs (s.toL a)), .tup ((List.range s.nH).map fun a => eNs (s.frL a))]
def tStand (C CS : Addr) (s : Sd) : T := .ins C fsSg [tStreet CS s, .tup (s.ways.map eNs), .tup ((List.range s.nH).map fun h => eNs (s.hungAt h)), .tup ((List.range s.nT).map fun t => eO (s.want t))]
/-- the class of streets -/
structure IsSt (K : PySem.W.Frag) (C : Addr) : Prop where
  cls : Cls K C
  f0 : NoAttr K C "pegs"
  f1 : NoAttr K C "lanes"
  f2 : NoAttr K C "to_lists"
  f3 : NoAttr K C "from_lists"
structure IsSg (K : PySem.W.Frag) (C : Addr) : Prop where
  cls : Cls K C
  f0 : NoAttr K C "street"
  f1 : NoAttr K C "ways"
  f2 : NoAttr K C "hung"
  f3 : NoAttr K C "wants"
section
variable {X : Cx} {r : Rho} {e : Expr} {pos : Pos} {s : Sd} {C CS : Addr}
theorem f_pegs (g : IsSt X.K CS) (h : EV X r e (tStreet CS s)) (hb : attributeBase e "pegs" X.env (eval e X.env) = eval e X.env := by rfl) : EV X r (.Attribute e "pegs" pos) (eNs s.pegs) := ev_fld 0 h (by decide) g.cls g.f0 rfl rfl hb
theorem f_lanes (g : IsSt X.K CS) (h : EV X r e (tStreet CS s)) (hb : attributeBase e "lanes" X.env (eval e X.env) = eval e X.env := by rfl) : EV X r (.Attribute e "lanes" pos) (.tup (s.lanes.map eP)) := ev_fld 1 h (by decide) g.cls g.f1 rfl rfl hb
theorem f_to (g : IsSt X.K CS) (h : EV X r e (tStreet CS s)) (hb : attributeBase e "to_lists" X.env (eval e X.env) = eval e X.env := by rfl) : EV X r (.Attribute e "to_lists" pos) (.tup ((List.range s.nH).map fun a => eNs (s.toL a))) := ev_fld 2 h (by decide) g.cls g.f2 rfl rfl hb
theorem f_street (g : IsSg X.K C) (h : EV X r e (tStand C CS s)) (hb : attributeBase e "street" X.env (eval e X.env) = eval e X.env := by rfl) : EV X r (.Attribute e "street" pos) (tStreet CS s) := ev_fld 0 h (by decide) g.cls g.f0 rfl rfl hb
theorem f_ways (g : IsSg X.K C) (h : EV X r e (tStand C CS s)) (hb : attributeBase e "ways" X.env (eval e X.env) = eval e X.env := by rfl) : EV X r (.Attribute e "ways" pos) (.tup (s.ways.map eNs)) := ev_fld 1 h (by decide) g.cls g.f1 rfl rfl hb
theorem f_hung (g : IsSg X.K C) (h : EV X r e (tStand C CS s)) (hb : attributeBase e "hung" X.env (eval e X.env) = eval e X.env := by rfl) : EV X r (.Attribute e "hung" pos) (.tup ((List.range s.nH).map fun h => eNs (s.hungAt h))) := ev_fld 2 h (by decide) g.cls g.f2 rfl rfl hb
theorem f_wants (g : IsSg X.K C) (h : EV X r e (tStand C CS s)) (hb : attributeBase e "wants" X.env (eval e X.env) = eval e X.env := by rfl) : EV X r (.Attribute e "wants" pos) (.tup ((List.range s.nT).map fun t => eO (s.want t))) := ev_fld 3 h (by decide) g.cls g.f3 rfl rfl hb
/-- an item of a table over a range -/
theorem ev_tab {X : Cx} {r : Rho} {a b : Expr} {pos : Pos} {n j : Nat} {f : Nat → T} (ha : EV X r a (.tup ((List.range n).map f))) (hb : EV X r b (eN j)) (h : j < n) (hs : PlainIx b := by exact fun _ _ => rfl) : EV X r (.Subscript a b pos) (f j) :=
  ev_ix (ha.q rfl) hb (atI_nat (by rw [List.getElem?_map, List.getElem?_range h]; rfl)) hs
end
/-- what the module names do not hide -/
structure Bi (mg : Str → Option Value) : Prop where
  len : mg "len" = none
  range : mg "range" = none
  tuple : mg "tuple" = none
  list : mg "list" = none
  isi : mg "isinstance" = none
  int : mg "int" = none
  bool : mg "bool" = none
  str : mg "str" = none
  min : mg "min" = none
  max : mg "max" = none
  sum : mg "sum" = none
  all : mg "all" = none
  any : mg "any" = none
  sorted : mg "sorted" = none
  set : mg "set" = none
  enum : mg "enumerate" = none
  zip : mg "zip" = none
end TL

/-! TL, part i: statements in a row. -/
namespace TL
open PySem L2 PySem.Spec PyProof.Rows
section
variable {X : Cx} {r : Rho} {D : Dn} {st : Stmt} {rest body A : List Stmt} {e a b c tg iter elt : Expr} {P : T → Prop} {t : T} {ts us : List T} {pos p q : Pos} {x : Str} {k : Bool} {is : List Nat} {f : T → Rho → Rho → Prop}
theorem ev_lenM {α : Type} {g : α → T} {xs : List α} (ha : EQ X r a (xs.map g)) (hm : X.mg "len" = none) (hg : Gl X "len" := by rfl) (hst : starEach [a] X.env = (false, eval a X.env) :: starEach [] X.env := by rfl) (hpl : (backTo pos (starEach [] X.env)).any (·.1) = false := by rfl) : EV X r (.Call (.Name "len" p) [a] [] pos) (eN xs.length) :=
  ev_lenN ha hm (by simp) hg hst hpl
theorem ev_lenG {n : Nat} {g : Nat → T} (ha : EQ X r a ((List.range n).map g)) (hm : X.mg "len" = none) (hg : Gl X "len" := by rfl) (hst : starEach [a] X.env = (false, eval a X.env) :: starEach [] X.env := by rfl) (hpl : (backTo pos (starEach [] X.env)).any (·.1) = false := by rfl) : EV X r (.Call (.Name "len" p) [a] [] pos) (eN n) :=
  ev_lenN ha hm (by simp) hg hst hpl
theorem st_ret (h : EV X r e t) (q : D.rt t) : ST X r (.Return (some e) pos :: rest) D := st_cons (fun _ => False) (s1_ret (P := (· = t)) (h.p rfl) fun _ e => e ▸ q) fun _ h => h.elim
theorem st_retP (h : EP X r e P) (q : ∀ t, P t → D.rt t) : ST X r (.Return (some e) pos :: rest) D := st_cons (fun _ => False) (s1_ret h q) fun _ h => h.elim
/-- if c: A, A leaving the def -/
theorem st_ifR {B : List Stmt} (h : ET X r c k) (h1 : k = true → ST X r A ⟨fun _ => False, D.rt⟩) (h2 : k = false → ST X r (B ++ rest) D) (hB : B = [] := by rfl) : ST X r (.If c A B pos :: rest) D := by
  subst hB
  cases k with
  | true => exact st_cons (fun _ => False) (s1_if h h1 fun z => by cases z) fun _ h => h.elim
  | false => exact st_cons (fun r' => r' = r) (s1_if h (fun z => by cases z) fun _ => st_nil rfl) fun _ e => e ▸ h2 rfl
/-- if c: A else: B, by cases -/
theorem st_ifC {B : List Stmt} (mid : Rho → Prop) (h : ET X r c k) (h1 : k = true → ST X r A ⟨mid, D.rt⟩) (h2 : k = false → ST X r B ⟨mid, D.rt⟩) (h3 : ∀ r', mid r' → ST X r' rest D) : ST X r (.If c A B pos :: rest) D :=
  st_cons mid (s1_if h h1 h2) h3
theorem st_set (i : Nat) (hN : X.N.Nodup) (h : EV X r e t) (q : ST X (r.set i (some (.im t))) rest D) (hi : X.N[i]? = some x := by rfl) (hx : Loc X.env.scope x := by first | exact Or.inl rfl | exact Or.inr rfl) (hf : X.fn x = true ∨ X.env.scope.names.lookup x = some .local := by first | exact Or.inl rfl | exact Or.inr rfl)
    (hs : swapsWithSole [.Name x p] e pos.line X.env = pure false := by rfl) (hw : swappedStores [.Name x p] e X.env = pure none := by rfl) (h1 : (assignEach [.Name x p] X.env).map (·.2) = [assign (.Name x p) X.env] := by rfl) : ST X r (.Assign [.Name x p] e pos :: rest) D :=
  st_cons (fun r' => r' = r.set i (some (.im t))) (s1_asg (P := (· = t)) i hN (h.p rfl) (fun _ e => by subst e; rfl) hi hx hf hs hw h1) fun _ e => e ▸ q
theorem st_setP (i : Nat) (hN : X.N.Nodup) (h : EP X r e P) (q : ∀ t, P t → ST X (r.set i (some (.im t))) rest D) (hi : X.N[i]? = some x := by rfl) (hx : Loc X.env.scope x := by first | exact Or.inl rfl | exact Or.inr rfl) (hf : X.fn x = true ∨ X.env.scope.names.lookup x = some .local := by first | exact Or.inl rfl | exact Or.inr rfl)
    (hs : swapsWithSole [.Name x p] e pos.line X.env = pure false := by rfl) (hw : swappedStores [.Name x p] e X.env = pure none := by rfl) (h1 : (assignEach [.Name x p] X.env).map (·.2) = [assign (.Name x p) X.env] := by rfl) : ST X r (.Assign [.Name x p] e pos :: rest) D :=
  st_cons (fun r' => ∃ t, P t ∧ r' = r.set i (some (.im t))) (s1_asg i hN h (fun t pt => ⟨t, pt, rfl⟩) hi hx hf hs hw h1) fun _ ⟨t, pt, e⟩ => e ▸ q t pt
theorem st_setL (i : Nat) (hN : X.N.Nodup) (h : EL X r e ts) (q : ST X (r.set i (some (.ow ts))) rest D) (hi : X.N[i]? = some x := by rfl) (hx : Loc X.env.scope x := by first | exact Or.inl rfl | exact Or.inr rfl) (hf : X.fn x = true ∨ X.env.scope.names.lookup x = some .local := by first | exact Or.inl rfl | exact Or.inr rfl)
    (hs : swapsWithSole [.Name x p] e pos.line X.env = pure false := by rfl) (hw : swappedStores [.Name x p] e X.env = pure none := by rfl) (h1 : (assignEach [.Name x p] X.env).map (·.2) = [assign (.Name x p) X.env] := by rfl) : ST X r (.Assign [.Name x p] e pos :: rest) D :=
  st_cons (fun r' => r' = r.set i (some (.ow ts))) (s1_asgL i hN h rfl hi hx hf hs hw h1) fun _ e => e ▸ q
theorem st_expr (h : EP X r e P) (q : ST X r rest D) (hs : swapsWith e none pos.line X.env = pure false := by rfl) : ST X r (.Expr e pos :: rest) D :=
  st_cons (fun r' => r' = r) (s1_expr h rfl hs) fun _ e => e ▸ q
theorem st_for (inv : Nat → Rho → Prop) (hi : EI X r tg iter ts) (hg : PGT X tg is f) (h0 : inv 0 r) (hstep : ∀ k t r1, ts[k]? = some t → inv k r1 → ∃ r2, f t r1 r2 ∧ ST X r2 body ⟨inv (k + 1), D.rt⟩) (hd : ∀ r', inv ts.length r' → ST X r' rest D)
    (hc : X.calm = true := by rfl) (hp : PassesOwn (model X.prog X.w) X.A X.env X.xe := by exact PassesOwn.never) (hs : ∀ x, foldedSetIterable iter X.env x = pure x := by intro _; rfl) : ST X r (.For tg iter body [] pos :: rest) D :=
  st_cons (inv ts.length) (s1_for (D := ⟨inv ts.length, D.rt⟩) inv hi hg h0 hstep (fun _ h => h) hc hp hs) hd
theorem st_while (inv : Nat → Rho → Prop) (out : Rho → Prop) (m0 : Nat) (h0 : inv m0 r) (turn : ∀ m r1, inv m r1 → ∃ k, ET X r1 c k ∧ (k = true → ST X r1 body ⟨fun r2 => ∃ m', m' < m ∧ inv m' r2, D.rt⟩) ∧ (k = false → out r1)) (hd : ∀ r', out r' → ST X r' rest D)
    (hp : PassesOwn (model X.prog X.w) X.A X.env X.xe := by exact PassesOwn.never) : ST X r (.While c body [] pos :: rest) D :=
  st_cons out (s1_while (D := ⟨out, D.rt⟩) inv m0 h0 turn hp) hd
theorem st_app {q q' : Pos} (i : Nat) (hr : r[i]? = some (some (.ow ts))) (h : EV X r e t) (hl : ts.length < 10000) (k : ST X (r.set i (some (.ow (ts ++ [t])))) rest D) (hN : X.N[i]? = some x := by rfl) (hv : Vis X.env.scope x := by first | exact Or.inl rfl | exact Or.inr (Or.inl rfl) | exact Or.inr (Or.inr rfl))
    (hd : (x == ("__debug__" : Str)) = false := by decide) (hcd : (x == ("__classdict__" : Str)) = false := by decide) (hst : starEach [e] X.env = (false, eval e X.env) :: starEach [] X.env := by rfl)
    (hfew : ((backTo p (starEach [e] X.env)).all (fun z => !z.1) && (backToKw p (keywordEach [] X.env)).all (fun z => z.1.isSome) && decide ([e].length + ([] : List Keyword).length + (if ([] : List Keyword).isEmpty then 0 else 1) < 30)) = true := by rfl)
    (hline : (q'.endLine == p.line) = true := by rfl) (hpl : (backTo p (starEach [] X.env)).any (·.1) = false := by rfl) (hs : swapsWith (.Call (.Attribute (.Name x q) "append" q') [e] [] p) none pos.line X.env = pure false := by rfl) :
    ST X r (.Expr (.Call (.Attribute (.Name x q) "append" q') [e] [] p) pos :: rest) D :=
  st_cons (fun r' => r' = r.set i (some (.ow (ts ++ [t])))) (s1_app (P := (· = t)) i hr (h.p rfl) hl (fun _ e => by subst e; rfl) hN hv hd hcd hst hfew hline hpl hs) fun _ e => e ▸ k
theorem st_appP {q q' : Pos} (i : Nat) (hr : r[i]? = some (some (.ow ts))) (h : EP X r e P) (hl : ts.length < 10000) (k : ∀ t, P t → ST X (r.set i (some (.ow (ts ++ [t])))) rest D) (hN : X.N[i]? = some x := by rfl) (hv : Vis X.env.scope x := by first | exact Or.inl rfl | exact Or.inr (Or.inl rfl) | exact Or.inr (Or.inr rfl))
    (hd : (x == ("__debug__" : Str)) = false := by decide) (hcd : (x == ("__classdict__" : Str)) = false := by decide) (hst : starEach [e] X.env = (false, eval e X.env) :: starEach [] X.env := by rfl)
    (hfew : ((backTo p (starEach [e] X.env)).all (fun z => !z.1) && (backToKw p (keywordEach [] X.env)).all (fun z => z.1.isSome) && decide ([e].length + ([] : List Keyword).length + (if ([] : List Keyword).isEmpty then 0 else 1) < 30)) = true := by rfl)
    (hline : (q'.endLine == p.line) = true := by rfl) (hpl : (backTo p (starEach [] X.env)).any (·.1) = false := by rfl) (hs : swapsWith (.Call (.Attribute (.Name x q) "append" q') [e] [] p) none pos.line X.env = pure false := by rfl) :
    ST X r (.Expr (.Call (.Attribute (.Name x q) "append" q') [e] [] p) pos :: rest) D :=
  st_cons (fun r' => ∃ t, P t ∧ r' = r.set i (some (.ow (ts ++ [t])))) (s1_app i hr h hl (fun t pt => ⟨t, pt, rfl⟩) hN hv hd hcd hst hfew hline hpl hs) fun _ ⟨t, pt, e⟩ => e ▸ k t pt
theorem st_lc {scope : Scope} {own : List (Str × Nat)} {ifs : List Expr} {α : Type} {xs : List α} {enc g : α → T} {pp : α → Bool} {rx : α → Rho} {lpos : Pos} (i : Nat) (hc : X.calm = true) (hN : X.N.Nodup) (hi : EI X r tg iter (xs.map enc)) (ok : BlkOk X.N X.env.scope scope own) (his : ∀ i ∈ is, i ∈ own.map (·.2))
    (hg : Blk X scope fun Y => PGT Y tg is f) (hf : ∀ x ∈ xs, f (enc x) (wipeR r (own.map (·.2))) (rx x)) (ht : ∀ x ∈ xs, Blk X scope fun Y => ETs Y (rx x) ifs (pp x)) (he : ∀ x ∈ xs, pp x = true → Blk X scope fun Y => EV Y (rx x) elt (g x))
    (hl : xs.length ≤ 10000) (k : ST X (r.set i (some (.im (.lst ((xs.filter pp).map g))))) rest D) (hy : X.N[i]? = some x := by rfl) (hyl : X.env.scope.names.lookup x = some .local := by rfl)
    (hsw : swapsWith (.ListComp elt [⟨tg, iter, ifs, 0⟩] scope lpos) (some (.Name x p)) pos.line X.env = pure true := by exact sw_true rfl rfl rfl (by decide +kernel)) (hs : ∀ x, foldedSetIterable iter X.env x = pure x := by intro _; rfl) :
    ST X r (.Assign [.Name x p] (.ListComp elt [⟨tg, iter, ifs, 0⟩] scope lpos) pos :: rest) D :=
  st_cons (fun r' => r' = r.set i (some (.im (.lst ((xs.filter pp).map g))))) (s1_lc i hc hN hi ok his hg hf ht he hl rfl hy hyl hsw hs) fun _ e => e ▸ k
theorem st_lcO {scope : Scope} {own : List (Str × Nat)} {ifs : List Expr} {α : Type} {xs : List α} {enc g : α → T} {pp : α → Bool} {rx : α → Rho} {lpos : Pos} (i : Nat) (hc : X.calm = true) (hN : X.N.Nodup) (hi : EI X r tg iter (xs.map enc)) (ok : BlkOk X.N X.env.scope scope own) (his : ∀ i ∈ is, i ∈ own.map (·.2))
    (hg : Blk X scope fun Y => PGT Y tg is f) (hf : ∀ x ∈ xs, f (enc x) (wipeR r (own.map (·.2))) (rx x)) (ht : ∀ x ∈ xs, Blk X scope fun Y => ETs Y (rx x) ifs (pp x)) (he : ∀ x ∈ xs, pp x = true → Blk X scope fun Y => EV Y (rx x) elt (g x))
    (hl : xs.length ≤ 10000) (k : ST X (r.set i (some (.ow ((xs.filter pp).map g)))) rest D) (hy : X.N[i]? = some x := by rfl) (hyl : X.env.scope.names.lookup x = some .local := by rfl)
    (hsw : swapsWith (.ListComp elt [⟨tg, iter, ifs, 0⟩] scope lpos) (some (.Name x p)) pos.line X.env = pure true := by exact sw_true rfl rfl rfl (by decide +kernel)) (hs : ∀ x, foldedSetIterable iter X.env x = pure x := by intro _; rfl) :
    ST X r (.Assign [.Name x p] (.ListComp elt [⟨tg, iter, ifs, 0⟩] scope lpos) pos :: rest) D :=
  st_cons (fun r' => r' = r.set i (some (.ow ((xs.filter pp).map g)))) (s1_lcO i hc hN hi ok his hg hf ht he hl rfl hy hyl hsw hs) fun _ e => e ▸ k
/-- the loop over a mapped list, its state a family -/
theorem forM {α : Type} {xs : List α} {enc : α → T} {k : Nat} {t : T} (h : (xs.map enc)[k]? = some t) : ∃ y, xs[k]? = some y ∧ t = enc y ∧ k < xs.length := by
  rw [List.getElem?_map] at h
  cases e : xs[k]? with
  | none => rw [e] at h; cases h
  | some y => rw [e] at h; exact ⟨y, rfl, (Option.some.inj h).symm, (List.getElem?_eq_some_iff.mp e).1⟩
theorem rangeM {n k y : Nat} (h : (List.range n)[k]? = some y) : y = k ∧ k < n := by
  have hk := (List.getElem?_eq_some_iff.mp h).1
  rw [List.length_range] at hk
  rw [List.getElem?_range hk] at h
  exact ⟨(Option.some.inj h).symm, hk⟩
/-- tuple([..]) of a comprehension -/
theorem ev_tupC {scope : Scope} {own : List (Str × Nat)} {ifs : List Expr} {α : Type} {xs : List α} {enc g : α → T} {pp : α → Bool} {rx : α → Rho} {lpos : Pos} (hm : X.mg "tuple" = none) (hc : X.calm = true) (hN : X.N.Nodup) (hi : EI X r tg iter (xs.map enc)) (ok : BlkOk X.N X.env.scope scope own) (his : ∀ i ∈ is, i ∈ own.map (·.2))
    (hg : Blk X scope fun Y => PGT Y tg is f) (hf : ∀ x ∈ xs, f (enc x) (wipeR r (own.map (·.2))) (rx x)) (ht : ∀ x ∈ xs, Blk X scope fun Y => ETs Y (rx x) ifs (pp x)) (he : ∀ x ∈ xs, pp x = true → Blk X scope fun Y => EV Y (rx x) elt (g x))
    (hl : xs.length ≤ 10000) (hs : ∀ x, foldedSetIterable iter X.env x = pure x := by intro _; rfl) (hgl : Gl X "tuple" := by rfl) (hst : starEach [.ListComp elt [⟨tg, iter, ifs, 0⟩] scope lpos] X.env = (false, eval (.ListComp elt [⟨tg, iter, ifs, 0⟩] scope lpos) X.env) :: starEach [] X.env := by rfl) :
    EV X r (.Call (.Name "tuple" p) [.ListComp elt [⟨tg, iter, ifs, 0⟩] scope lpos] [] pos) (.tup ((xs.filter pp).map g)) :=
  ev_tupL (el_comp hc hN hi ok his hg hf ht he hl hs).o hm hgl hst
theorem ev_tupM {scope : Scope} {own : List (Str × Nat)} {α : Type} {xs : List α} {enc g : α → T} {rx : α → Rho} {lpos : Pos} (hm : X.mg "tuple" = none) (hc : X.calm = true) (hN : X.N.Nodup) (hi : EI X r tg iter (xs.map enc)) (ok : BlkOk X.N X.env.scope scope own) (his : ∀ i ∈ is, i ∈ own.map (·.2))
    (hg : Blk X scope fun Y => PGT Y tg is f) (hf : ∀ x ∈ xs, f (enc x) (wipeR r (own.map (·.2))) (rx x)) (he : ∀ x ∈ xs, Blk X scope fun Y => EV Y (rx x) elt (g x))
    (hl : xs.length ≤ 10000) (hs : ∀ x, foldedSetIterable iter X.env x = pure x := by intro _; rfl) (hgl : Gl X "tuple" := by rfl) (hst : starEach [.ListComp elt [⟨tg, iter, [], 0⟩] scope lpos] X.env = (false, eval (.ListComp elt [⟨tg, iter, [], 0⟩] scope lpos) X.env) :: starEach [] X.env := by rfl) :
    EV X r (.Call (.Name "tuple" p) [.ListComp elt [⟨tg, iter, [], 0⟩] scope lpos] [] pos) (.tup (xs.map g)) :=
  ev_tupL (el_map hc hN hi ok his hg hf he hl hs).o hm hgl hst
theorem ev_lenS {kk : Nat} {C : Addr} {fs : List Str} {S : List Sl → (T → Prop) → Prop} {o : Expr} {n : Nat} (D : MetOk X.prog X.w X.K X.mg X.base C "__len__" kk ["self"] S) (hr : Room (kk + 1) X.A) (ho : EV X r o (.ins C fs ts)) (hS : S [.im (.ins C fs ts)] (· = eN n)) (hn : n < 2 ^ 62) (hm : X.mg "len" = none) (hg : Gl X "len" := by rfl)
    (hst : starEach [o] X.env = (false, eval o X.env) :: starEach [] X.env := by rfl) (hpl : (backTo pos (starEach [] X.env)).any (·.1) = false := by rfl) : EV X r (.Call (.Name "len" p) [o] [] pos) (eN n) :=
  (ep_lenO D hr ho hS (fun t e => ⟨n, e, hn⟩) hm hg hst hpl).v
theorem ev_tabT {n j : Nat} {g : Nat → T} (ha : EV X r a (.tup ((List.range n).map g))) (hb : EV X r b (eN j)) (h : j < n) (q : g j = t) (hs : PlainIx b := by exact fun _ _ => rfl) : EV X r (.Subscript a b pos) t := (ev_tab ha hb h hs).to q
theorem ev_tabL {n j : Nat} {g : Nat → T} (ha : EV X r a (.lst ((List.range n).map g))) (hb : EV X r b (eN j)) (h : j < n) (q : g j = t) (hs : PlainIx b := by exact fun _ _ => rfl) : EV X r (.Subscript a b pos) t :=
  ev_ix (ha.q rfl) hb (atI_nat (by rw [List.getElem?_map, List.getElem?_range h, ← q]; rfl)) hs
end
end TL

/-! TL, part j: == and in of small data; type names. -/
namespace TL
open PySem L2 PySem.Spec PyProof.Rows
inductive DK : Nat → T → Prop
  | non {d : Nat} : DK d .non
  | bl {d : Nat} {b : Bool} : DK d (.bl b)
  | int {d : Nat} {i : Int} : DK d (.int i)
  | tup {d : Nat} {ts : List T} (h : ∀ t ∈ ts, DK d t) : DK (d + 1) (.tup ts)
  | lst {d : Nat} {ts : List T} (h : ∀ t ∈ ts, DK d t) : DK (d + 1) (.lst ts)
theorem DK.all {d : Nat} : ∀ {ts : List T}, (∀ t ∈ ts, t.isD = true ∧ t.dat.canLay0 = true ∧ t.dat.depth ≤ d) → T.isDs ts = true ∧ PyData.canLayAll0 (T.dats ts) = true ∧ PyData.depthAll (T.dats ts) ≤ d
  | [], _ => ⟨rfl, by simp [T.dats, PyData.canLayAll0], by simp [T.dats, PyData.depthAll]⟩
  | t :: ts, h => by
    obtain ⟨a, b, c⟩ := DK.all (ts := ts) fun t ht => h t (by simp [ht])
    obtain ⟨a', b', c'⟩ := h t (by simp)
    refine ⟨by simp [T.isDs, a, a'], by simp [T.dats, PyData.canLayAll0, b, b'], ?_⟩
    simp only [T.dats, PyData.depthAll]
    omega
theorem DK.ok {d : Nat} {t : T} (h : DK d t) : t.isD = true ∧ t.dat.canLay0 = true ∧ t.dat.depth ≤ d := by
  induction h with
  | non => exact ⟨rfl, by simp [T.dat, PyData.canLay0], by simp [T.dat, PyData.depth]⟩
  | bl => exact ⟨rfl, by simp [T.dat, PyData.canLay0], by simp [T.dat, PyData.depth]⟩
  | int => exact ⟨rfl, by simp [T.dat, PyData.canLay0], by simp [T.dat, PyData.depth]⟩
  | tup h ih =>
    obtain ⟨a, b, c⟩ := DK.all ih
    exact ⟨by simpa [T.isD] using a, by simpa [T.dat, PyData.canLay0] using b, by simp only [T.dat, PyData.depth]; omega⟩
  | lst h ih =>
    obtain ⟨a, b, c⟩ := DK.all ih
    exact ⟨by simpa [T.isD] using a, by simpa [T.dat, PyData.canLay0] using b, by simp only [T.dat, PyData.depth]; omega⟩
theorem DK.shaped {d : Nat} {t : T} (h : DK d t) (hd : d ≤ 64) : SeqAt.shaped t.dat = true := by
  obtain ⟨a, b, c⟩ := h.ok
  exact Bool.and_eq_true_iff.mpr ⟨b, decide_eq_true (by omega)⟩
theorem DatOk.of {d e : Nat} {t u : T} (h : DK d t) (h' : DK e u) (hd : d ≤ 64) (he : e ≤ 64) : DatOk t u := ⟨h.ok.1, h'.ok.1, h.shaped hd, h'.shaped he⟩
theorem DK.nats {d : Nat} {l : List Nat} : DK (d + 1) (eNs l) := .tup fun t ht => by
  obtain ⟨x, _, rfl⟩ := List.mem_map.mp ht
  exact .int
theorem DK.op {d : Nat} {o : Option Nat} : DK d (eO o) := by
  cases o with
  | none => exact .non
  | some n => exact .int
theorem DK.pair {d : Nat} {a b : T} (h : DK d a) (h' : DK d b) : DK (d + 1) (.tup [a, b]) := .tup fun t ht => by
  rcases List.mem_cons.mp ht with rfl | ht
  · exact h
  · rw [List.mem_singleton.mp ht]; exact h'
theorem DK.one {d : Nat} {a : T} (h : DK d a) : DK (d + 1) (.tup [a]) := .tup fun t ht => by rw [List.mem_singleton.mp ht]; exact h
theorem DK.emp {d : Nat} : DK (d + 1) (.tup []) := .tup fun t ht => absurd ht (List.not_mem_nil)
theorem eqv_emp (ts : List T) : PyData.eqv (T.tup ts).dat (T.tup []).dat = ts.isEmpty := by
  cases ts <;> simp [T.dat, T.dats, PyData.eqv, PyData.eqvAll]
theorem eqv_pair (a b c d : Int) : PyData.eqv (T.tup [.int a, .int b]).dat (T.tup [.int c, .int d]).dat = decide (a = c ∧ b = d) := by
  simp only [T.dat, T.dats, PyData.eqv, PyData.eqvAll, Bool.and_true]
  by_cases h1 : a = c <;> by_cases h2 : b = d <;> simp [h1, h2]
theorem dats_map {α : Type} {f : α → T} : ∀ {xs : List α}, T.dats (xs.map f) = xs.map fun x => (f x).dat
  | [] => rfl
  | x :: xs => by rw [List.map_cons, T.dats, dats_map]; rfl
section
variable {X : Cx} {r : Rho} {a b e : Expr} {ts : List T} {t : T} {p pos : Pos} {n : String} {x : Str} {d : Nat} {i j k l : Int}
theorem ev_tyn (hm : X.mg x = none) (hv : bootBuiltins x = some (.type n) := by decide +kernel) (hg : Gl X x := by rfl) (hn : x ≠ "__name__" := by decide) (hd : (x == ("__debug__" : Str)) = false := by decide) : EV X r (.Name x pos) (.ty n) := ev_ty hg hm hv hn hd
theorem et_eqE (ha : EV X r a (.tup ts)) (hb : EV X r b (.tup [])) (h : DK d (.tup ts)) (hd : d ≤ 64) (hu : X.A.units + 64 < cLine) : ET X r (.Compare a [.Eq] [b] pos) ts.isEmpty := (et_eqD ha hb (.of h (DK.emp (d := 0)) hd (by decide)) hu).to (eqv_emp ts)
theorem et_neE (ha : EV X r a (.tup ts)) (hb : EV X r b (.tup [])) (h : DK d (.tup ts)) (hd : d ≤ 64) (hu : X.A.units + 64 < cLine) : ET X r (.Compare a [.NotEq] [b] pos) (!ts.isEmpty) := (et_neD ha hb (.of h (DK.emp (d := 0)) hd (by decide)) hu).to (by rw [eqv_emp])
theorem ev_eqP (ha : EV X r a (.tup [.int i, .int j])) (hb : EV X r b (.tup [.int k, .int l])) (hu : X.A.units + 64 < cLine) : EV X r (.Compare a [.Eq] [b] pos) (.bl (decide (i = k ∧ j = l))) := (ev_eqD ha hb (.of (DK.pair (d := 0) .int .int) (DK.pair (d := 0) .int .int) (by decide) (by decide)) hu).to (by rw [eqv_pair])
theorem ev_inP {ps : List (Nat × Nat)} {q : Nat × Nat} (ha : EV X r a (eP q)) (hb : EV X r b (.lst (ps.map eP))) (hu : X.A.units + 65 < cLine) (hm : behindInMarks .In b = false := by rfl) : EV X r (.Compare a [.In] [b] pos) (.bl (decide (q ∈ ps))) := by
  refine (ev_inD ha hb (.of (DK.pair (d := 0) .int .int) (DK.lst (d := 1) fun t ht => ?_) (by decide) (by decide)) hu hm).to ?_
  · obtain ⟨x, _, rfl⟩ := List.mem_map.mp ht
    exact .pair .int .int
  · rw [dats_map, List.any_map]
    congr 1
    clear hb
    induction ps with
    | nil => simp
    | cons z zs ih =>
      rw [List.any_cons, ih]
      simp only [Function.comp, eqv_pair]
      by_cases h : q = z
      · subst h; simp
      · have : ¬ ((z.1 : Int) = q.1 ∧ (z.2 : Int) = q.2) := fun ⟨h1, h2⟩ => h (by ext <;> omega)
        simp [h, this]
end
end TL

/-! TL, part k: an __init__ with keyword-only parameters; tests of a value of which something is known. -/
namespace TL
open PySem L2 PySem.Spec PyProof.Rows
section
variable {P : Program} {w : World} {K : PySem.W.Frag} {mg : Str → Option Value} {base : Heap}
theorem fn_ID {x qual : Str} {st : Stmt} {kws : List (Str × V)} {f C : Addr} {fd : FuncData} {N ps : List Str} {k : Nat} {ns : List Str} {S : List T → List T → Prop} (F : FunD K x qual (defArgs st) (defBody st) (defScope st) [] kws f fd) (sc : FnScope N ps (defScope st)) (len : ∀ ss ts, S ss ts → ss.length + 1 = ps.length)
    (body : ∀ (cdv : Value) (A : Around) (outer : List Env) (s : Shared) (H : Hp) (E : XK), Room k (A.deeper (envOfC qual (defScope st) s.heap.objs.size f cdv)) → ∀ (y : Addr) ss ts, S ss ts →
      ST (cxOf CX0 P w K mg base N qual (defScope st) f cdv A outer s H E).nox (startR N (.oi y C [] [] :: ss.map .im)) (defBody st) ⟨fun r => r[0]? = some (some (.oi y C ns ts)), fun _ => False⟩) : FnOk P w K mg base CX0 (k + 1) f fd ps (spI K C ns S) := by
  refine F.ok sc (fun vs H Q E ⟨y, dx, M, ss, us, ts, e, _, _, _, hS, ha, _⟩ => by subst e; rw [List.length_cons, ← ha.len]; exact len ss ts hS) fun cdv A outer s H vs Q E hr ⟨y, dx, M, ss, us, ts, e, hy, hm, hs, hS, ha, q⟩ => ?_
  subst e
  have hsr : Same M (rem H y) := fun a u z => by rw [rem_ne (ne_of_none z hm)]; exact hs a u z
  have wd : Wd K M (rem H y) (startR N (.oi y C [] [] :: ss.map .im)) (L2.start N (.ref y :: us)) M H := by
    have hA := args_im (K := K) (M := M) (H := rem H y) ha
    refine ⟨⟨Same.refl _, fun a u z => ?_, hs, fun a u _ z => z⟩, by unfold startR L2.start; simp [ha.len], fun i z e => ?_, fun i z p' e o g => ?_, fun i j z z' p' hne e o e' o' _ _ => ?_⟩
    · by_cases c : a = y
      · subst c; rw [rem_at] at z; cases z
      · rw [rem_ne c] at z; exact z
    · have e1 := startR_get e
      cases i with
      | zero =>
        simp at e1
        subst e1
        exact ⟨_, start_get rfl, dx, [], rfl, hm, hy, rfl, rfl⟩
      | succ i =>
        obtain ⟨v, a, b, c⟩ := hA.get (i := i) (s := z) (by simpa using e1)
        refine ⟨v, start_get (by simpa using a), ?_⟩
        cases z with
        | im t => exact b
        | ro t => exact b
        | ow t => cases c
        | oi _ _ _ _ => cases c
    · have e1 := startR_get e
      cases i with
      | zero =>
        rw [start_get (vs := .ref y :: us) (i := 0) rfl] at g
        cases g
        exact rem_at
      | succ i =>
        obtain ⟨v, a, b, c⟩ := hA.get (i := i) (s := z) (by simpa using e1)
        rw [c] at o; cases o
    · have e1 := startR_get e
      have e2 := startR_get e'
      cases i with
      | succ i =>
        obtain ⟨v, a, b, c⟩ := hA.get (i := i) (s := z) (by simpa using e1)
        rw [c] at o; cases o
      | zero =>
        cases j with
        | zero => exact hne rfl
        | succ j =>
          obtain ⟨v, a, b, c⟩ := hA.get (i := j) (s := z') (by simpa using e2)
          rw [c] at o'; cases o'
  refine ⟨_, PSs.nox (body cdv A outer s H E hr y ss ts hS M (rem H y)), M, wd, fun r' σ' M' H' hn w' => ?_, fun t v M' H' ht _ _ => ht.elim⟩
  obtain ⟨v, a, dx', vs', rfl, g1, g2, g3, g4⟩ := w'.at_ 0 _ hn
  exact q H' M' dx' vs' w'.ext g1 g2 g4
end
/-- a class of the module that can be made by a keyword -/
structure ClsOkK (P : Program) (w : World) (K : PySem.W.Frag) (mg : Str → Option Value) (base : Heap) (x : Str) (C : Addr) (k n : Nat) (ps ks : List Str) (ns : List Str) (S : List T → List T → Prop) : Prop where
  ex : ∃ f fd g, FnOk P w K mg base CX0 k f fd ps (spI K C ns S) ∧ mg x = some (.ref C) ∧ Mk K C f ∧ KBn K fd ps (n + 1) ks g (fun vs zs => vs ++ zs)
section
variable {X : Cx} {r : Rho} {k n : Nat} {x : Str} {ps ns ks : List Str} {S : List T → List T → Prop} {ss ds ts : List T} {C : Addr} {e d : Expr} {es : List Expr} {p pos kpos : Pos} {nm : Option Str} {t tb : T} {P : T → Prop} {a b : Expr}
theorem ev_makeK {kn : Option Str} (D : ClsOkK X.prog X.w X.K X.mg X.base x C k n ps ks ns S) (hr : Room (k + 1) X.A) (ha : EA X r (e :: es) (ss.map .im)) (hd : EV X r d t) (hS : S (ss ++ [t]) ts) (hn : ss.length = n) (hk1 : ks.length = 1) (hg : Gl X x := by rfl)
    (hall : (backToKw pos (keywordEach [⟨kn, d, kpos⟩] X.env)).all (·.1.isSome) = true := by rfl) (hks : (backToKw pos (keywordEach [⟨kn, d, kpos⟩] X.env)).filterMap (·.1) = ks := by rfl) (hdb : (x == ("__debug__" : Str)) = false := by decide)
    (he : starEach (e :: es) X.env = (false, eval e X.env) :: starEach es X.env := by rfl) (hpl : ((backTo pos (starEach (e :: es) X.env)).any (·.1) || (backToKw pos (keywordEach [⟨kn, d, kpos⟩] X.env)).any (·.1.isNone)) = false := by rfl) : EV X r (.Call (.Name x p) (e :: es) [⟨kn, d, kpos⟩] pos) (.ins C ns ts) := fun M0 H0 => by
  obtain ⟨f, fd, g, F, hm, hM, hb⟩ := D.ex
  refine pe_weak (pe_makeK hM F hr hg hm hb pass0 (ha M0 H0) (pk_cons (hd M0 H0) pk_nil) hall hks hdb he hpl) fun σ H Q ⟨M, w, q⟩ => ⟨M, w, fun vs M1 H1 e1 r1 => ⟨M1, w.up e1, fun v M2 H2 e2 r2 => ?_⟩⟩
  have rr := ArgsOk.reps r1
  refine ⟨by rw [← rr.len, hn], by rw [hk1]; rfl, fun a dx h1 h2 h3 => ?_⟩
  exact made_ok e2.s h1 h2 h3 hS (Reps.append (Reps.mono e2.m rr) (Reps.one r2)) (fun v' M' H' e3 rp => q v' M' H' ((e1.trans e2).trans e3) rp) _
/-- a test of a value of which P is known -/
theorem et_cmpP {op : CmpOp} {r2 : R2} {k' : Bool} (ho : OpR X (compareOp op) r2) (ha : EP X r a P) (hb : EV X r b tb) (hm : behindInMarks op b = false)
    (hr : ∀ ta, P ta → ∀ (M H : Hp) (v u : V) (Q : VK), Same M H → Rep X.K M ta v → Rep X.K M tb u → Q (.bl k') H → r2 v u H Q) : ET X r (.Compare a [op] [b] pos) k' := fun M0 H0 =>
  pt_weak (pt_cmpR ho (ha M0 H0) (hb M0 H0) hm) fun σ H Q ⟨M, w, k⟩ => ⟨M, w, fun ta v M1 H1 pa e1 r1 => ⟨M1, w.up e1, fun u M2 H2 e2 r2' =>
    hr ta pa M2 H2 v u _ e2.s (Rep.mono e2.m r1) r2' ⟨k', rfl, k M2 H2 (e1.trans e2)⟩⟩⟩
variable {j : Int} {k' : Bool}
theorem et_ltP (ha : EP X r a P) (hb : EV X r b (.int j)) (h : ∀ t, P t → ∃ i : Int, t = .int i ∧ decide (i < j) = k') : ET X r (.Compare a [.Lt] [b] pos) k' :=
  et_cmpP op_lt ha hb (nomark _) fun t pt M H v u Q s h1 h2 k => by
    obtain ⟨i, rfl, e⟩ := h t pt
    exact ⟨i, j, h1, h2, by show Q (.bl (decide (i < j))) H; rw [e]; exact k⟩
theorem et_geP (ha : EP X r a P) (hb : EV X r b (.int j)) (h : ∀ t, P t → ∃ i : Int, t = .int i ∧ decide (j ≤ i) = k') : ET X r (.Compare a [.GtE] [b] pos) k' :=
  et_cmpP op_ge ha hb (nomark _) fun t pt M H v u Q s h1 h2 k => by
    obtain ⟨i, rfl, e⟩ := h t pt
    exact ⟨i, j, h1, h2, by show Q (.bl (decide (j ≤ i))) H; rw [e]; exact k⟩
end
end TL

/-! TL, part l: sorted of triples. -/
namespace TL
open PySem L2 PySem.Spec PyProof.Rows
abbrev e3 (t : Nat × Nat × Nat) : T := .tup [eN t.1, eN t.2.1, eN t.2.2]
theorem Reps.cons_iff {K : PySem.W.Frag} {M : Hp} {t : T} {ts : List T} {v : V} {vs : List V} : Reps K M (t :: ts) (v :: vs) ↔ Rep K M t v ∧ Reps K M ts vs :=
  ⟨fun ⟨w, r, e, h1, h2⟩ => by cases e; exact ⟨h1, h2⟩, fun ⟨h1, h2⟩ => ⟨v, vs, rfl, h1, h2⟩⟩
theorem Reps.perm {K : PySem.W.Frag} {M : Hp} {α : Type} {f : α → T} : ∀ {zs vs : List V}, zs.Perm vs → ∀ {xs : List α}, Reps K M (xs.map f) vs → ∃ us : List α, us.Perm xs ∧ Reps K M (us.map f) zs := by
  intro zs vs h
  induction h with
  | nil => intro xs hx; exact ⟨xs, .refl _, hx⟩
  | cons v p ih =>
    intro xs hx
    cases xs with
    | nil => cases hx
    | cons x xs =>
      obtain ⟨h1, h2⟩ := Reps.cons_iff.mp hx
      obtain ⟨us, p1, p2⟩ := ih h2
      exact ⟨x :: us, p1.cons x, Reps.cons_iff.mpr ⟨h1, p2⟩⟩
  | swap v w l =>
    intro xs hx
    match xs, hx with
    | x :: y :: xs, hx =>
      obtain ⟨h1, h2⟩ := Reps.cons_iff.mp hx
      obtain ⟨h3, h4⟩ := Reps.cons_iff.mp h2
      exact ⟨y :: x :: xs, .swap _ _ _, Reps.cons_iff.mpr ⟨h3, Reps.cons_iff.mpr ⟨h1, h4⟩⟩⟩
    | [_], ⟨_, _, e, _, h⟩ => cases h; cases e
  | trans p q ih1 ih2 =>
    intro xs hx
    obtain ⟨us, p1, p2⟩ := ih2 hx
    obtain ⟨ws, p3, p4⟩ := ih1 p2
    exact ⟨ws, p3.trans p1, p4⟩
def c3 (t : Nat × Nat × Nat) : Int := TS.code 64 [(t.1 : Int), (t.2.1 : Int), (t.2.2 : Int)]
theorem rep3 {K : PySem.W.Frag} {M H : Hp} {t : Nat × Nat × Nat} {v : V} (s : Same M H) (h : Rep K M (e3 t) v) : TupI K H v [(t.1 : Int), (t.2.1 : Int), (t.2.2 : Int)] := by
  obtain ⟨a, vs, rfl, h2, _, _, rfl, rfl, _, _, rfl, rfl, _, _, rfl, rfl, rfl⟩ := h
  exact ⟨a, rfl, SqT.of (s _ _ h2)⟩
section
variable {X : Cx} {r : Rho} {a : Expr} {p pos : Pos}
theorem el_sort3 {xs ys : List (Nat × Nat × Nat)} (ha : EO X r a (xs.map e3)) (hl : xs.length < 64) (hb : ∀ t ∈ xs, t.1 < 64 ∧ t.2.1 < 64 ∧ t.2.2 < 64) (hp : ys.Perm xs) (hs : ys.Pairwise fun t u => c3 t < c3 u) (hinj : ∀ t ∈ xs, ∀ u ∈ xs, c3 t = c3 u → t = u) (hm : X.mg "sorted" = none) (hg : Gl X "sorted" := by rfl)
    (hst : starEach [a] X.env = (false, eval a X.env) :: starEach [] X.env := by rfl) (hpl : (backTo pos (starEach [] X.env)).any (·.1) = false := by rfl) : EL X r (.Call (.Name "sorted" p) [a] [] pos) (ys.map e3) := fun M0 H0 =>
  pe_weak (pe_callB (cr_sortT (d := 3) (B := 64) (by decide)) hg hm (by decide +kernel) (pa_cons (ha M0 H0) pa_nil hst) (he := hst) (hpl := hpl)) fun σ H Q ⟨M, w, k⟩ => ⟨M, w, fun q vs M1 H1 e1 h1 r1 => by
    refine ⟨q, vs, rfl, h1, by rw [← r1.len, List.length_map]; exact hl, fun v hv => ?_, fun zs p2 hz1 hz2 hp2 => ?_⟩
    · obtain ⟨i, hi⟩ := List.getElem?_of_mem hv
      obtain ⟨t, ht, rt⟩ := r1.back hi
      rw [List.getElem?_map] at ht
      cases e : xs[i]? with
      | none => rw [e] at ht; cases ht
      | some x =>
        rw [e] at ht
        cases ht
        obtain ⟨b1, b2, b3⟩ := hb x (List.mem_of_getElem? e)
        refine ⟨_, rep3 e1.s rt, rfl, fun n hn => ?_⟩
        simp only [List.mem_cons, List.not_mem_nil, or_false] at hn
        omega
    · obtain ⟨us, pu, ru⟩ := Reps.perm hz1 r1
      have hpw : us.Pairwise fun t u => c3 t ≤ c3 u := by
        rw [List.pairwise_iff_getElem] at hz2 ⊢
        intro i j hi hj hij
        have hlen := ru.len
        rw [List.length_map] at hlen
        obtain ⟨v1, g1, g2⟩ := ru.get (i := i) (t := e3 us[i]) (by rw [List.getElem?_map, List.getElem?_eq_getElem hi]; rfl)
        obtain ⟨v2, g3, g4⟩ := ru.get (i := j) (t := e3 us[j]) (by rw [List.getElem?_map, List.getElem?_eq_getElem hj]; rfl)
        have x1 := hz2 i j (by omega) (by omega) hij
        rw [(List.getElem?_eq_some_iff.mp g1).2, (List.getElem?_eq_some_iff.mp g3).2] at x1
        exact x1 _ _ (rep3 e1.s g2) (rep3 e1.s g4)
      have e3' : us = ys := by
        refine List.Perm.eq_of_pairwise (le := fun x y => c3 x ≤ c3 y) (fun a b ha hb z1 z2 => hinj a (pu.mem_iff.mp ha) b (hp.mem_iff.mp hb) (Int.le_antisymm z1 z2)) hpw (hs.imp fun h => Int.le_of_lt h) (pu.trans hp.symm)
      subst e3'
      exact k p2 zs M1 _ (e1.trans (Ext.own e1.s hp2)) (Same.free e1.h hp2) (Same.free e1.s hp2) upd_same ru⟩
end
end TL

/-! TL, part m: arguments of which something is known. -/
namespace TL
open PySem L2 PySem.Spec PyProof.Rows
def tAsP (K : PySem.W.Frag) (M0 H0 : Hp) (r : Rho) (R : List Sl → Prop) : TA := fun σ H Q => ∃ M, Wd K M0 H0 r σ M H ∧ ∀ ss vs M' H', R ss → Ext M H M' H' → ArgsOk K M' H' ss vs → Q vs H'
def EAP (X : Cx) (r : Rho) (es : List Expr) (R : List Sl → Prop) : Prop := ∀ M0 H0, PA X es (tAsP X.K M0 H0 r R)
section
variable {X : Cx} {r : Rho} {k : Nat} {x : Str} {ps : List Str} {S : List Sl → (T → Prop) → Prop} {P Pa : T → Prop} {R : List Sl → Prop} {ss : List Sl} {e : Expr} {es : List Expr} {p pos : Pos} {t : T}
theorem eap_cons (h : EP X r e Pa) (hr : EA X r es ss) (hs : starEach (e :: es) X.env = (false, eval e X.env) :: starEach es X.env := by rfl) : EAP X r (e :: es) (fun l => ∃ t, Pa t ∧ l = .im t :: ss) := fun M0 H0 =>
  pa_weak (pa_cons (h M0 H0) (hr M0 H0) hs) fun σ H Q ⟨M, w, q⟩ => ⟨M, w, fun t v M1 H1 pt e1 r1 => ⟨M1, w.up e1, fun vs M2 H2 e2 r2 => q _ _ M2 H2 ⟨t, pt, rfl⟩ (e1.trans e2) (.cons rfl (Rep.mono e2.m r1) r2)⟩⟩
theorem eap_consV (h : EV X r e t) (hr : EAP X r es R) (hs : starEach (e :: es) X.env = (false, eval e X.env) :: starEach es X.env := by rfl) : EAP X r (e :: es) (fun l => ∃ ss, R ss ∧ l = .im t :: ss) := fun M0 H0 =>
  pa_weak (pa_cons (h M0 H0) (hr M0 H0) hs) fun σ H Q ⟨M, w, q⟩ => ⟨M, w, fun v M1 H1 e1 r1 => ⟨M1, w.up e1, fun ss vs M2 H2 rs e2 r2 => q _ _ M2 H2 ⟨ss, rs, rfl⟩ (e1.trans e2) (.cons rfl (Rep.mono e2.m r1) r2)⟩⟩
theorem ep_callP (D : DefOk X.prog X.w X.K X.mg X.base x k ps S) (hr : Room k X.A) (ha : EAP X r (e :: es) R) (hS : ∀ ss, R ss → S ss P) (hg : Gl X x := by rfl) (hdb : (x == ("__debug__" : Str)) = false := by decide) (he : starEach (e :: es) X.env = (false, eval e X.env) :: starEach es X.env := by rfl) (hpl : (backTo pos (starEach es X.env)).any (·.1) = false := by rfl) :
    EP X r (.Call (.Name x p) (e :: es) [] pos) P := fun M0 H0 => by
  obtain ⟨f, fd, F, hm, hk, hb⟩ := D.ex
  exact pe_weak (pe_call F hr hg hm hk hb .nil pass0 (ha M0 H0) hdb he hpl) fun σ H Q ⟨M, w, q⟩ => ⟨M, w, fun ss vs M1 H1 rs e1 r1 => ⟨M1, ss, P, hS ss rs, e1.s, by rw [List.append_nil]; exact r1, fun t v M' H' pt e2 rp => q t v M' H' pt (e1.trans e2) rp⟩⟩
theorem ep_catT {a b : Expr} {us : List T} {Q : List T → Prop} (ha : EP X r a (fun t => ∃ ts, Q ts ∧ t = .tup ts)) (hb : EV X r b (.tup us)) (hq : ∀ ts, Q ts → ts ≠ [] ∧ ts.length + us.length ≤ 10000) : EP X r (.BinOp a .Add b pos) (fun t => ∃ ts, Q ts ∧ t = .tup (ts ++ us)) := fun M0 H0 =>
  pe_weak (pe_op op_catT (ha M0 H0) (hb M0 H0)) fun σ H Q ⟨M, w, k⟩ => ⟨M, w, fun t v M1 H1 pt e1 r1 => ⟨M1, w.up e1, fun u M2 H2 e2 r2 => by
    obtain ⟨ts, qt, rfl⟩ := pt
    obtain ⟨hn, hl⟩ := hq ts qt
    obtain ⟨q, vs, rfl, h2, h3⟩ := id r1
    obtain ⟨q', vs', rfl, h2', h3'⟩ := id r2
    refine ⟨q, q', vs, vs', rfl, rfl, SqT.of (e2.s _ _ (e2.m _ _ h2)), SqT.of (e2.s _ _ h2'), fun z => ?_, by rw [← h3.len, ← h3'.len]; exact Nat.le_trans hl (by decide), fun z => ?_, fun _ n hn => ?_⟩
    · subst z
      have := h3.len
      cases ts with
      | nil => exact absurd rfl hn
      | cons _ _ => cases this
    · subst z
      have := h3'.len
      cases us with
      | nil => exact k _ _ M2 H2 ⟨ts, qt, rfl⟩ (e1.trans e2) (by rw [List.append_nil]; exact Rep.mono e2.m r1)
      | cons _ _ => cases this
    · exact k _ _ _ _ ⟨ts, qt, rfl⟩ ((e1.trans e2).trans (Ext.new e2.s hn)) ⟨n, _, rfl, upd_same, Reps.mono (sNew (e2.s.free hn)) (Reps.append (Reps.mono e2.m h3) h3')⟩⟩⟩
end
end TL

/-! the program's defs, part a -/
namespace TL
open PySem L2 PySem.Spec PyProof.Rows

/-- where a method stands -/
structure MetAt (K : PySem.W.Frag) (C : Addr) (m : Str) (qual : Str) (st : Stmt) (ps : List Str) : Prop where
  ex : ∃ f fd, Fun K m qual st f fd ∧ Meth K C m f ∧ Binds K fd ps []
section
variable {P : Program} {w : World} {K : PySem.W.Frag} {mg : Str → Option Value} {base : Heap}
theorem MetAt.ok {C : Addr} {x qual : Str} {st : Stmt} {N ps : List Str} {k : Nat} {S : List Sl → (T → Prop) → Prop} (F : MetAt K C x qual st ps) (sc : FnScope N ps (defScope st)) (len : ∀ ss P, S ss P → ss.length = ps.length)
    (body : ∀ (f : Addr) (cdv : Value) (A : Around) (outer : List Env) (s : Shared) (H : Hp) (E : XK), Room k (A.deeper (envOfC qual (defScope st) s.heap.objs.size f cdv)) → ∀ ss Po, S ss Po →
      ST (cxOf CX0 P w K mg base N qual (defScope st) f cdv A outer s H E).nox (startR N ss) (defBody st) ⟨fun _ => Po .non, Po⟩) : MetOk P w K mg base C x (k + 1) ps S := by
  obtain ⟨f, fd, F, hm, hb⟩ := F.ex
  exact ⟨f, fd, fn_T F sc len (fun cdv A outer s H E hr => body f cdv A outer s H E hr), hm, hb⟩
theorem MetOk.mono {C : Addr} {x : Str} {ps : List Str} {j k : Nat} {S : List Sl → (T → Prop) → Prop} (D : MetOk P w K mg base C x j ps S) (h : j ≤ k) : MetOk P w K mg base C x k ps S := by
  obtain ⟨f, fd, F, r⟩ := D.ex
  exact ⟨f, fd, F.mono h, r⟩
variable {C CS : Addr} {k : Nat}

/-! ### Standing: __len__, is_full, wanted, can_return -/
def SLen (C CS : Addr) : List Sl → (T → Prop) → Prop := fun ss Po => ∃ s : Sd, ss = [.im (tStand C CS s)] ∧ Po = (· = eN s.nT)
theorem ok_len (b : Bi mg) (g : IsSg K C) (D : MetAt K C "__len__" "Standing.__len__" (inC 34 20) ["self"]) : MetOk P w K mg base C "__len__" 1 ["self"] (SLen C CS) := by
  refine D.ok (N := ["self"]) ⟨rfl, rfl, rfl, by decide +kernel, rfl, by decide +kernel, by decide +kernel⟩ (fun _ _ ⟨s, h, _⟩ => by rw [h]; rfl) ?_
  rintro f cdv A outer s H E hr _ _ ⟨s, rfl, rfl⟩
  exact st_ret (ev_lenM ((f_ways g (ev_var 0 rfl)).q rfl) b.len) rfl
def SFull (C CS : Addr) : List Sl → (T → Prop) → Prop := fun ss Po => ∃ (s : Sd) (h : Nat), h < s.nH ∧ ss = [.im (tStand C CS s), .im (eN h)] ∧ Po = (· = .bl (s.full h))
theorem ok_full (b : Bi mg) (g : IsSg K C) (g2 : IsSt K CS) (D : MetAt K C "is_full" "Standing.is_full" (inC 34 10) ["self", "house"]) : MetOk P w K mg base C "is_full" 1 ["self", "house"] (SFull C CS) := by
  refine D.ok (N := ["self", "house"]) ⟨rfl, rfl, rfl, by decide +kernel, rfl, by decide +kernel, by decide +kernel⟩ (fun _ _ ⟨s, h, _, e, _⟩ => by rw [e]; rfl) ?_
  rintro f cdv A outer s H E hr _ _ ⟨s, h, hh, rfl, rfl⟩
  exact st_ret (ev_geN (ev_lenM ((ev_tab (f_hung g (ev_var 0 rfl)) (ev_var 1 rfl) hh).q rfl) b.len) (ev_at (d := 0) ((f_pegs g2 (f_street g (ev_var 0 rfl))).q rfl) (ev_var 1 rfl) hh)) rfl

/-! ### homeward, stays_held -/
def SHome (C CS : Addr) : List Sl → (T → Prop) → Prop := fun ss Po => ∃ s : Sd, s.nT ≤ 100 ∧ ss = [.im (tStand C CS s)] ∧ Po = (· = .tup ((List.range s.nT).map fun _ => .bl false))
theorem ok_home (b : Bi mg) (L : MetOk P w K mg base C "__len__" 1 ["self"] (SLen C CS)) (D : DefAt K mg "homeward" (top 6) ["standing"]) : DefOk P w K mg base "homeward" 3 ["standing"] (SHome C CS) := by
  have nd : (["standing", "tool"] : List Str).Nodup := by decide +kernel
  refine D.ok (N := ["standing", "tool"]) ⟨rfl, rfl, rfl, nd, rfl, by decide +kernel, by decide +kernel⟩ (fun _ _ ⟨s, _, e, _⟩ => by rw [e]; rfl) ?_
  rintro f cdv A outer s H E hr _ _ ⟨s, hn, rfl, rfl⟩
  refine st_ret (ev_tupM (rx := fun n => [some (.im (tStand C CS s)), some (.im (eN n))]) b.tuple rfl nd (ei_rangeN (ev_lenS L hr (ev_var 0 rfl) ⟨s, rfl, rfl⟩ (by omega) b.len) (by omega) b.range) (show BlkOk ["standing", "tool"] (defScope (top 6)) _ [("tool", 1)] from blkOk_by (by decide +kernel)) (by simp) (fun s H C cl fp => gt_name 1 nd) (fun n _ => rfl) (fun n _ s H C cl fp => ev_bl) (by simpa using by omega)) rfl
end
end TL

/-! the program's defs, part b: the lots -/
namespace TL
open PySem L2 PySem.Spec PyProof.Rows
theorem take_succ_all {α : Type} {xs : List α} {k : Nat} {y : α} {p : α → Prop} (h : xs[k]? = some y) (a : ∀ x ∈ xs.take k, p x) (b : p y) : ∀ x ∈ xs.take (k + 1), p x := by
  intro x hx
  rw [List.take_add_one, h] at hx
  simp at hx
  rcases hx with hx | rfl
  · exact a x hx
  · exact b
theorem mem_of_get {α : Type} {xs : List α} {k : Nat} {y : α} (h : xs[k]? = some y) : y ∈ xs := List.mem_of_getElem? h
section
variable {P : Program} {w : World} {K : PySem.W.Frag} {mg : Str → Option Value} {base : Heap}
variable {C CS : Addr} {k : Nat}
abbrev tWants (n : Nat) (wf : Nat → Option Nat) : T := .tup ((List.range n).map fun t => eO (wf t))
abbrev tSettled (n : Nat) : T := .tup ((List.range n).map fun _ => .bl false)
def SStays : List Sl → (T → Prop) → Prop := fun ss Po => ∃ (tl l : List Nat) (n : Nat) (wf : Nat → Option Nat) (t : T), (∀ x ∈ tl, x < n) ∧ t.seq = some (l.map eN) ∧ ss = [.im (eNs tl), .im (tWants n wf), .im (tSettled n), .im t] ∧ Po = (· = .bl (tl.all fun x => inO (wf x) l))
theorem ok_stays (b : Bi mg) (D : DefAt K mg "stays_held" (top 7) ["tools", "wants", "settled", "houses"]) : DefOk P w K mg base "stays_held" 1 ["tools", "wants", "settled", "houses"] SStays := by
  have nd : (["tools", "wants", "settled", "houses", "tool"] : List Str).Nodup := by decide +kernel
  refine D.ok (N := ["tools", "wants", "settled", "houses", "tool"]) ⟨rfl, rfl, rfl, nd, rfl, by decide +kernel, by decide +kernel⟩ (fun _ _ ⟨_, _, _, _, _, _, _, e, _⟩ => by rw [e]; rfl) ?_
  rintro f cdv A outer s H E hr _ _ ⟨tl, l, n, wf, t, h1, h2, rfl, rfl⟩
  refine st_for (fun k r => ∃ o, r = [some (.im (eNs tl)), some (.im (tWants n wf)), some (.im (tSettled n)), some (.im t), o] ∧ ∀ x ∈ tl.take k, inO (wf x) l = true) (ei_tup (ev_var 0 rfl)) (gt_name 4 nd) ⟨none, rfl, by simp⟩ ?_ ?_
  · rintro k t r1 ht ⟨o, rfl, hv⟩
    obtain ⟨y, hy, rfl, hk⟩ := forM ht
    have hyn := h1 y (mem_of_get hy)
    refine ⟨_, rfl, ?_⟩
    refine st_ifR (EW.et (ew_and (et_not (et_val (ev_tabT (ev_var 2 rfl) (ev_var 4 rfl) hyn rfl))) fun _ => ew_and1 (et_niO (ev_tabT (ev_var 1 rfl) (ev_var 4 rfl) hyn rfl) ((ev_var 3 rfl).q h2)))) (fun z => st_ret ev_bl ?_) fun z => st_nil ⟨_, rfl, take_succ_all hy hv ?_⟩
    · show T.bl false = T.bl _
      simp at z
      rw [show (tl.all fun x => inO (wf x) l) = false from List.all_eq_false.mpr ⟨y, mem_of_get hy, by simp [z]⟩]
    · simpa using z
  · rintro r' ⟨o, rfl, hv⟩
    refine st_ret ev_bl ?_
    show T.bl true = T.bl _
    rw [show (tl.all fun x => inO (wf x) l) = true from List.all_eq_true.mpr fun x hx => hv x (by rw [List.length_map, List.take_length]; exact hx)]

/-! ### held_houses: the greatest lot -/
/-- every house of the lot is full, and what hangs there is wanted in the lot -/
def Lot (m : Nat) (fl : Nat → Bool) (hg : Nat → List Nat) (wf : Nat → Option Nat) (l : List Nat) : Prop := ∀ h ∈ l, h < m ∧ fl h = true ∧ ∀ x ∈ hg h, inO (wf x) l = true
structure IsGL (m : Nat) (fl : Nat → Bool) (hg : Nat → List Nat) (wf : Nat → Option Nat) (l : List Nat) : Prop where
  sub : l.Sublist (List.range m)
  lot : Lot m fl hg wf l
  top : ∀ l', Lot m fl hg wf l' → ∀ h ∈ l', h ∈ l
def keepL (hg : Nat → List Nat) (wf : Nat → Option Nat) (l : List Nat) : List Nat := l.filter fun h => (hg h).all fun x => inO (wf x) l
theorem inO_mono {o : Option Nat} {l l' : List Nat} (h : ∀ x ∈ l, x ∈ l') (i : inO o l = true) : inO o l' = true := by
  cases o with
  | none => cases i
  | some k => simp only [inO, decide_eq_true_eq] at i ⊢; exact h _ i
/-- what is kept on the way to the greatest lot -/
structure Up (m : Nat) (fl : Nat → Bool) (hg : Nat → List Nat) (wf : Nat → Option Nat) (l : List Nat) : Prop where
  sub : l.Sublist (List.range m)
  full : ∀ h ∈ l, fl h = true
  top : ∀ l', Lot m fl hg wf l' → ∀ h ∈ l', h ∈ l
variable {m n : Nat} {fl : Nat → Bool} {hg : Nat → List Nat} {wf : Nat → Option Nat}
theorem Up.start : Up m fl hg wf ((List.range m).filter fl) := ⟨List.filter_sublist, fun h hh => (List.mem_filter.mp hh).2, fun l' q h hh => List.mem_filter.mpr ⟨List.mem_range.mpr (q h hh).1, (q h hh).2.1⟩⟩
theorem Up.keep {l : List Nat} (u : Up m fl hg wf l) : Up m fl hg wf (keepL hg wf l) :=
  ⟨List.filter_sublist.trans u.sub, fun h hh => u.full h (List.mem_filter.mp hh).1, fun l' q h hh => List.mem_filter.mpr ⟨u.top l' q h hh, List.all_eq_true.mpr fun x hx => inO_mono (u.top l' q) ((q h hh).2.2 x hx)⟩⟩
theorem Up.gl {l : List Nat} (u : Up m fl hg wf l) (h : l.length ≤ (keepL hg wf l).length) : IsGL m fl hg wf l := by
  have e : keepL hg wf l = l := List.filter_sublist.eq_of_length_le h
  refine ⟨u.sub, fun h hh => ⟨List.mem_range.mp (u.sub.subset hh), u.full h hh, fun x hx => ?_⟩, u.top⟩
  rw [← e] at hh
  exact List.all_eq_true.mp (List.mem_filter.mp hh).2 x hx
theorem Up.len {l : List Nat} (u : Up m fl hg wf l) : l.length ≤ m := by have := u.sub.length_le; rwa [List.length_range] at this
def SHeld : List Sl → (T → Prop) → Prop := fun ss Po => ∃ (m n : Nat) (fl : Nat → Bool) (hg : Nat → List Nat) (wf : Nat → Option Nat), m ≤ 100 ∧ (∀ h < m, ∀ x ∈ hg h, x < n) ∧
  ss = [.im (.lst ((List.range m).map fun h => .bl (fl h))), .im (.tup ((List.range m).map fun h => eNs (hg h))), .im (tWants n wf), .im (tSettled n)] ∧ Po = fun t => ∃ l, IsGL m fl hg wf l ∧ t = eNs l
theorem ok_held (b : Bi mg) (St : DefOk P w K mg base "stays_held" 1 ["tools", "wants", "settled", "houses"] SStays) (D : DefAt K mg "held_houses" (top 8) ["full", "hung", "wants", "settled"]) : DefOk P w K mg base "held_houses" 2 ["full", "hung", "wants", "settled"] SHeld := by
  have nd : (["full", "hung", "wants", "settled", "held", "kept", "house"] : List Str).Nodup := by decide +kernel
  refine D.ok (N := ["full", "hung", "wants", "settled", "held", "kept", "house"]) ⟨rfl, rfl, rfl, nd, rfl, by decide +kernel, by decide +kernel⟩ (fun _ _ ⟨_, _, _, _, _, _, _, e, _⟩ => by rw [e]; rfl) ?_
  rintro f cdv A outer s H E hr _ _ ⟨m, n, fl, hg, wf, hm, hn, rfl, rfl⟩
  let R : Option Sl → Option Sl → Option Sl → Rho := fun x y z => [some (.im (.lst ((List.range m).map fun h => .bl (fl h)))), some (.im (.tup ((List.range m).map fun h => eNs (hg h)))), some (.im (tWants n wf)), some (.im (tSettled n)), x, y, z]
  refine st_set 4 nd (EL.v (el_comp (enc := eN) (g := eN) (p := fl) (rx := fun h => R none none (some (.im (eN h)))) rfl nd
    (ei_rangeN (ev_lenG ((ev_var 0 rfl).q rfl) b.len) (by omega) b.range) (show BlkOk ["full", "hung", "wants", "settled", "held", "kept", "house"] (defScope (top 8)) _ [("house", 6)] from blkOk_by (by decide +kernel)) (by simp) (fun s H C cl fp => gt_name 6 nd) (fun n _ => rfl)
    (fun h hh s H C cl fp => ets_one (et_val (ev_tabL (ev_var 0 rfl) (ev_var 6 rfl) (List.mem_range.mp hh) rfl))) (fun h hh _ s H C cl fp => ev_var 6 rfl) (by simpa using by omega))) ?_
  refine st_lc (enc := eN) (g := eN) (pp := fun h => (hg h).all fun x => inO (wf x) ((List.range m).filter fl)) (rx := fun h => R (some (.im (.lst (((List.range m).filter fl).map eN)))) none (some (.im (eN h)))) 5 rfl nd
    (ei_list (ev_var 4 rfl)) (show BlkOk ["full", "hung", "wants", "settled", "held", "kept", "house"] (defScope (top 8)) _ [("house", 6)] from blkOk_by (by decide +kernel)) (by simp) (fun s H C cl fp => gt_name 6 nd) (fun n _ => rfl)
    (fun h hh s H C cl fp => ets_one (et_val (ev_call St hr (ea_cons (ev_tab (ev_var 1 rfl) (ev_var 6 rfl) (List.mem_range.mp (List.mem_filter.mp hh).1)) (ea_cons (ev_var 2 rfl) (ea_cons (ev_var 3 rfl) (ea_cons (ev_var 4 rfl) ea_nil)))) ⟨hg h, _, n, wf, _, hn h (List.mem_range.mp (List.mem_filter.mp hh).1), rfl, rfl, rfl⟩))) (fun h hh _ s H C cl fp => ev_var 6 rfl) (Nat.le_trans (Up.start (m := m) (fl := fl) (hg := hg) (wf := wf)).len (by omega)) ?_
  refine st_while (fun k r => ∃ l z, Up m fl hg wf l ∧ k = l.length ∧ r = R (some (.im (.lst (l.map eN)))) (some (.im (.lst ((keepL hg wf l).map eN)))) z) (fun r => ∃ l y z, IsGL m fl hg wf l ∧ r = R (some (.im (.lst (l.map eN)))) y z) _ ⟨_, _, Up.start, rfl, rfl⟩ ?_ ?_
  · rintro k r1 ⟨l, z, u, rfl, rfl⟩
    refine ⟨_, et_ltN (ev_lenM ((ev_var 5 rfl).q rfl) b.len) (ev_lenM ((ev_var 4 rfl).q rfl) b.len), fun h => ?_, fun h => ⟨l, _, z, u.gl (by simpa using h), rfl⟩⟩
    refine st_set 4 nd (ev_var 5 rfl) ?_
    have u2 := u.keep
    refine st_lc (enc := eN) (g := eN) (pp := fun h => (hg h).all fun x => inO (wf x) (keepL hg wf l)) (rx := fun h => R (some (.im (.lst ((keepL hg wf l).map eN)))) (some (.im (.lst ((keepL hg wf l).map eN)))) (some (.im (eN h)))) 5 rfl nd
      (ei_list (ev_var 4 rfl)) (show BlkOk ["full", "hung", "wants", "settled", "held", "kept", "house"] (defScope (top 8)) _ [("house", 6)] from blkOk_by (by decide +kernel)) (by simp) (fun s H C cl fp => gt_name 6 nd) (fun n _ => rfl)
      (fun h hh s H C cl fp => ets_one (et_val (ev_call St hr (ea_cons (ev_tab (ev_var 1 rfl) (ev_var 6 rfl) (List.mem_range.mp (u2.sub.subset hh))) (ea_cons (ev_var 2 rfl) (ea_cons (ev_var 3 rfl) (ea_cons (ev_var 4 rfl) ea_nil)))) ⟨hg h, _, n, wf, _, hn h (List.mem_range.mp (u2.sub.subset hh)), rfl, rfl, rfl⟩))) (fun h hh _ s H C cl fp => ev_var 6 rfl) (Nat.le_trans u2.len (by omega)) ?_
    exact st_nil ⟨_, by simpa using h, _, _, u2, rfl, rfl⟩
  · rintro r1 ⟨l, y, z, u, rfl⟩
    refine st_ret (ev_tupL (ev_var 4 rfl).o b.tuple) ⟨l, u, rfl⟩

/-! ### greatest_lot, waiting -/
def SGreat (C CS : Addr) : List Sl → (T → Prop) → Prop := fun ss Po => ∃ s : Sd, s.nH ≤ 100 ∧ s.nT ≤ 100 ∧ ss = [.im (tStand C CS s)] ∧ Po = fun t => ∃ l, IsGL s.nH s.full s.hungAt s.want l ∧ t = eNs l
theorem hungAt_lt {s : Sd} {h x : Nat} (hx : x ∈ s.hungAt h) : x < s.nT := List.mem_range.mp (List.mem_filter.mp hx).1
theorem ok_great (b : Bi mg) (g : IsSg K C) (Hs : PrpOk P w K mg base CS "houses" 1 (fun ss Po => ∃ s : Sd, ss = [.im (tStreet CS s)] ∧ Po = (· = eN s.nH))) (g2 : IsSt K CS) (F : MetOk P w K mg base C "is_full" 1 ["self", "house"] (SFull C CS))
    (Hm : DefOk P w K mg base "homeward" 3 ["standing"] (SHome C CS)) (Hd : DefOk P w K mg base "held_houses" 2 ["full", "hung", "wants", "settled"] SHeld) (D : DefAt K mg "greatest_lot" (top 11) ["standing"]) : DefOk P w K mg base "greatest_lot" 4 ["standing"] (SGreat C CS) := by
  have nd : (["standing", "full", "house"] : List Str).Nodup := by decide +kernel
  refine D.ok (N := ["standing", "full", "house"]) ⟨rfl, rfl, rfl, nd, rfl, by decide +kernel, by decide +kernel⟩ (fun _ _ ⟨_, _, _, e, _⟩ => by rw [e]; rfl) ?_
  rintro f cdv A outer st H E hr _ _ ⟨s, hs1, hs2, rfl, rfl⟩
  refine st_lc (enc := eN) (g := fun h => .bl (s.full h)) (pp := fun _ => true) (rx := fun h => [some (.im (tStand C CS s)), none, some (.im (eN h))]) 1 rfl nd
    (ei_rangeN (EP.v (ep_prop Hs (hr.mono (by decide)) g2.cls (f_street g (ev_var 0 rfl)) ⟨s, rfl, rfl⟩)) (by omega) b.range) (show BlkOk ["standing", "full", "house"] (defScope (top 11)) _ [("house", 2)] from blkOk_by (by decide +kernel)) (by simp) (fun s H C cl fp => gt_name 2 nd) (fun n _ => rfl)
    (fun h hh s H C cl fp => ets_nil) (fun h hh _ _ H' C' cl fp => EP.v (ep_met F (hr.mono (by decide)) g.cls (ev_var 0 rfl) (by decide) (ea_cons (ev_var 2 rfl) ea_nil) ⟨s, h, List.mem_range.mp hh, rfl, rfl⟩)) (by simpa using by omega) ?_
  refine st_retP (ep_call Hd (hr.mono (by decide)) (ea_cons (ev_var 1 rfl) (ea_cons (f_hung g (ev_var 0 rfl)) (ea_cons (f_wants g (ev_var 0 rfl)) (ea_cons (ev_call Hm hr (ea_cons (ev_var 0 rfl) ea_nil) ⟨s, hs2, rfl, rfl⟩) ea_nil)))) ⟨s.nH, s.nT, s.full, s.hungAt, s.want, hs1, fun h _ x hx => hungAt_lt hx, by rw [List.filter_eq_self.mpr (fun _ _ => rfl)], rfl⟩) fun t h => h
end
end TL

/-! the program's defs, part c -/
namespace TL
open PySem L2 PySem.Spec PyProof.Rows
section
variable {P : Program} {w : World} {K : PySem.W.Frag} {mg : Str → Option Value} {base : Heap}
variable {C CS : Addr} {k : Nat}
abbrev SHouses (CS : Addr) : List Sl → (T → Prop) → Prop := fun ss Po => ∃ s : Sd, ss = [.im (tStreet CS s)] ∧ Po = (· = eN s.nH)
def waitAt (s : Sd) (h : Nat) (l : List Nat) : List (Nat × Nat × Nat) := l.filterMap fun t => (s.want t).map fun x => (h, t, x)
def waitTo (s : Sd) (k : Nat) : List (Nat × Nat × Nat) := (List.range k).flatMap fun h => waitAt s h (s.hungAt h)
theorem hungAt_len {s : Sd} {h : Nat} : (s.hungAt h).length ≤ s.nT := by
  have := List.length_filter_le (fun t => decide (holder (s.way t) = some h)) (List.range s.nT)
  rwa [List.length_range] at this
theorem waitAt_len {s : Sd} {h : Nat} {l : List Nat} : (waitAt s h l).length ≤ l.length := List.length_filterMap_le _ _
theorem waitTo_succ {s : Sd} {k : Nat} : waitTo s (k + 1) = waitTo s k ++ waitAt s k (s.hungAt k) := by
  unfold waitTo
  rw [List.range_succ, List.flatMap_append]
  simp
theorem waitTo_len {s : Sd} : ∀ {k : Nat}, (waitTo s k).length ≤ k * s.nT
  | 0 => by simp [waitTo]
  | k + 1 => by
    rw [waitTo_succ, List.length_append, Nat.succ_mul]
    exact Nat.add_le_add waitTo_len (Nat.le_trans waitAt_len hungAt_len)
theorem waitAt_snoc {s : Sd} {h : Nat} {l : List Nat} {j y : Nat} (hj : l[j]? = some y) : waitAt s h (l.take (j + 1)) = waitAt s h (l.take j) ++ (match s.want y with | none => [] | some x => [(h, y, x)]) := by
  rw [List.take_add_one, hj]
  unfold waitAt
  rw [List.filterMap_append]
  cases e : s.want y with
  | none => simp [e]
  | some x => simp [e]
def SWaiting (C CS : Addr) : List Sl → (T → Prop) → Prop := fun ss Po => ∃ s : Sd, s.nH ≤ 20 ∧ s.nT ≤ 100 ∧ ss = [.im (tStand C CS s)] ∧ Po = (· = .tup ((waitTo s s.nH).map e3))
theorem ok_waiting (b : Bi mg) (g : IsSg K C) (g2 : IsSt K CS) (Hs : PrpOk P w K mg base CS "houses" 1 (SHouses CS)) (D : DefAt K mg "waiting" (top 10) ["standing"]) : DefOk P w K mg base "waiting" 3 ["standing"] (SWaiting C CS) := by
  have nd : (["standing", "triples", "house", "tool"] : List Str).Nodup := by decide +kernel
  refine D.ok (N := ["standing", "triples", "house", "tool"]) ⟨rfl, rfl, rfl, nd, rfl, by decide +kernel, by decide +kernel⟩ (fun _ _ ⟨_, _, _, e, _⟩ => by rw [e]; rfl) ?_
  rintro f cdv A outer st H E hr _ _ ⟨s, hs1, hs2, rfl, rfl⟩
  refine st_setL 1 nd (el_lst (ts := []) ea_nil (by simp)) ?_
  refine st_for (fun k r => ∃ x y, r = [some (.im (tStand C CS s)), some (.ow ((waitTo s k).map e3)), x, y]) (ei_rangeN (EP.v (ep_prop Hs hr g2.cls (f_street g (ev_var 0 rfl)) ⟨s, rfl, rfl⟩)) (by omega) b.range) (gt_name 2 nd) ⟨none, none, rfl⟩ ?_ ?_
  · rintro k t r1 ht ⟨x, y, rfl⟩
    obtain ⟨h, hh, rfl, _⟩ := forM ht
    obtain ⟨rfl, hk⟩ := rangeM hh
    have hl := waitTo_len (s := s) (k := h)
    have hl2 : h * s.nT ≤ 20 * 100 := Nat.mul_le_mul (by omega) hs2
    refine ⟨_, rfl, ?_⟩
    refine st_for (fun j r => ∃ y, r = [some (.im (tStand C CS s)), some (.ow ((waitTo s h ++ waitAt s h ((s.hungAt h).take j)).map e3)), some (.im (eN h)), y]) (ei_tup (ev_tab (f_hung g (ev_var 0 rfl)) (ev_var 2 rfl) hk)) (gt_name 3 nd) ⟨y, by simp [waitAt]⟩ ?_ ?_
    · rintro j t r2 ht ⟨y, rfl⟩
      obtain ⟨y, hy, rfl, hj⟩ := forM ht
      have hyn := hungAt_lt (mem_of_get hy)
      have hl3 := waitAt_len (s := s) (h := h) (l := (s.hungAt h).take j)
      have hl4 : ((s.hungAt h).take j).length ≤ 100 := by rw [List.length_take]; have := hungAt_len (s := s) (h := h); omega
      refine ⟨_, rfl, ?_⟩
      refine st_ifC _ (et_notN (ev_tab (f_wants g (ev_var 0 rfl)) (ev_var 3 rfl) hyn)) (fun z => ?_) (fun z => ?_) (fun r' h => st_nil h)
      · rw [isN_eO] at z
        cases e : s.want y with
        | none => rw [e] at z; cases z
        | some x =>
          refine st_app 1 rfl (ev_tup (ts := [eN h, eN y, eN x]) (ea_cons (ev_var 2 rfl) (ea_cons (ev_var 3 rfl) (ea_cons ((ev_tab (f_wants g (ev_var 0 rfl)) (ev_var 3 rfl) hyn).to (by rw [e]; rfl)) ea_nil))) (by simp)) (by rw [List.length_map, List.length_append]; omega) (st_nil ⟨some (.im (eN y)), ?_⟩)
          rw [waitAt_snoc hy, e, ← List.append_assoc, List.map_append (l₂ := [(h, y, x)])]
          rfl
      · rw [isN_eO] at z
        cases e : s.want y with
        | some x => rw [e] at z; cases z
        | none => exact st_nil ⟨some (.im (eN y)), by rw [waitAt_snoc hy, e, List.append_nil]; rfl⟩
    · rintro r' ⟨y, rfl⟩
      refine st_nil ⟨some (.im (eN h)), y, ?_⟩
      rw [waitTo_succ, List.length_map, List.take_length]
  · rintro r' ⟨x, y, rfl⟩
    refine st_ret (ev_tupL (eo_ow 1 rfl) b.tuple) ?_
    simp

/-! ### wanted, can_return, returns -/
def SWanted (C CS : Addr) : List Sl → (T → Prop) → Prop := fun ss Po => ∃ (s : Sd) (t : Nat), t < s.nT ∧ ss = [.im (tStand C CS s), .im (eN t)] ∧ Po = (· = eO (s.want t))
theorem ok_wanted (g : IsSg K C) (D : MetAt K C "wanted" "Standing.wanted" (inC 34 6) ["self", "tool"]) : MetOk P w K mg base C "wanted" 1 ["self", "tool"] (SWanted C CS) := by
  refine D.ok (N := ["self", "tool"]) ⟨rfl, rfl, rfl, by decide +kernel, rfl, by decide +kernel, by decide +kernel⟩ (fun _ _ ⟨s, h, _, e, _⟩ => by rw [e]; rfl) ?_
  rintro f cdv A outer s H E hr _ _ ⟨s, h, hh, rfl, rfl⟩
  exact st_ret (ev_tab (f_wants g (ev_var 0 rfl)) (ev_var 1 rfl) hh) rfl
def Sd.canBack (s : Sd) (t : Nat) : Bool := decide (1 < (s.way t).length) && (match s.want t with | none => true | some h => !s.full h)
/-- what a sound standing is -/
structure Okay (s : Sd) : Prop where
  nh : s.nH ≤ 12
  nt : s.nT ≤ 20
  ne : ∀ w ∈ s.ways, w ≠ []
  lt : ∀ w ∈ s.ways, ∀ h ∈ w, h < s.nH
theorem Okay.way {s : Sd} (o : Okay s) {t : Nat} (h : t < s.nT) : s.way t ∈ s.ways := by
  unfold Sd.way
  rw [List.getD_eq_getElem?_getD, List.getElem?_eq_getElem h]
  exact List.getElem_mem _
theorem getD_mem {α : Type} {l : List α} {i : Nat} {d : α} (h : i < l.length) : l.getD i d ∈ l := by
  rw [List.getD_eq_getElem?_getD, List.getElem?_eq_getElem h]
  exact List.getElem_mem _
theorem Okay.want {s : Sd} (o : Okay s) {t h : Nat} (ht : t < s.nT) (e : s.want t = some h) : h < s.nH := by
  unfold Sd.want wantOf at e
  split at e
  · cases e
    exact o.lt _ (o.way ht) _ (getD_mem (by omega))
  · cases e
theorem Okay.len1 {s : Sd} (o : Okay s) {t : Nat} (ht : t < s.nT) : 1 ≤ (s.way t).length := List.length_pos_iff.mpr (o.ne _ (o.way ht))
def SCan (C CS : Addr) : List Sl → (T → Prop) → Prop := fun ss Po => ∃ (s : Sd) (t : Nat), Okay s ∧ t < s.nT ∧ ss = [.im (tStand C CS s), .im (eN t)] ∧ Po = (· = .bl (s.canBack t))
theorem ok_can (b : Bi mg) (g : IsSg K C) (F : MetOk P w K mg base C "is_full" 1 ["self", "house"] (SFull C CS)) (D : MetAt K C "can_return" "Standing.can_return" (inC 34 13) ["self", "tool"]) : MetOk P w K mg base C "can_return" 2 ["self", "tool"] (SCan C CS) := by
  have nd : (["self", "tool", "wanted_house"] : List Str).Nodup := by decide +kernel
  refine D.ok (N := ["self", "tool", "wanted_house"]) ⟨rfl, rfl, rfl, nd, rfl, by decide +kernel, by decide +kernel⟩ (fun _ _ ⟨s, h, _, _, e, _⟩ => by rw [e]; rfl) ?_
  rintro f cdv A outer s H E hr _ _ ⟨s, t, o, hh, rfl, rfl⟩
  have h1 := o.len1 hh
  refine st_ifR (et_eqN (m := 1) (ev_lenM ((ev_at (d := []) ((f_ways g (ev_var 0 rfl)).q rfl) (ev_var 1 rfl) hh).q rfl) b.len) ev_nat) (fun z => st_ret ev_bl ?_) fun z => ?_
  · show T.bl false = T.bl _
    have : (s.way t).length = 1 := of_decide_eq_true z
    simp [Sd.canBack, this]
  have h2 : 1 < (s.way t).length := by
    have : ¬ (s.way t).length = 1 := of_decide_eq_false z
    omega
  refine st_set 2 nd (ev_tab (f_wants g (ev_var 0 rfl)) (ev_var 1 rfl) hh) ?_
  refine st_ret (ev_or (k2 := match s.want t with | none => true | some h => !s.full h) ((ev_isN (ev_var 2 rfl)).to (by rw [isN_eO])) fun z => ?_) ?_
  · cases e : s.want t with
    | none => rw [e] at z; cases z
    | some x => exact ev_one (ev_not (EP.v (ep_met F hr g.cls (ev_var 0 rfl) (by decide) (ea_cons (ev_var 2 rfl) ea_nil) ⟨s, x, o.want hh e, rfl, rfl⟩)))
  · show T.bl _ = T.bl (s.canBack t)
    simp only [Sd.canBack, h2, decide_true, Bool.true_and]
    cases s.want t <;> rfl
def SRet (C CS : Addr) : List Sl → (T → Prop) → Prop := fun ss Po => ∃ s : Sd, Okay s ∧ ss = [.im (tStand C CS s)] ∧ Po = (· = eNs ((List.range s.nT).filter s.canBack))
theorem ok_returns (b : Bi mg) (g : IsSg K C) (L : MetOk P w K mg base C "__len__" 1 ["self"] (SLen C CS)) (F : MetOk P w K mg base C "can_return" 2 ["self", "tool"] (SCan C CS)) (D : DefAt K mg "returns" (top 14) ["standing"]) : DefOk P w K mg base "returns" 3 ["standing"] (SRet C CS) := by
  have nd : (["standing", "tool"] : List Str).Nodup := by decide +kernel
  refine D.ok (N := ["standing", "tool"]) ⟨rfl, rfl, rfl, nd, rfl, by decide +kernel, by decide +kernel⟩ (fun _ _ ⟨s, _, e, _⟩ => by rw [e]; rfl) ?_
  rintro f cdv A outer s H E hr _ _ ⟨s, o, rfl, rfl⟩
  refine st_ret (ev_tupC (g := eN) (pp := s.canBack) (rx := fun n => [some (.im (tStand C CS s)), some (.im (eN n))]) b.tuple rfl nd (ei_rangeN (ev_lenS L hr (ev_var 0 rfl) ⟨s, rfl, rfl⟩ (by have := o.nt; omega) b.len) (by have := o.nt; omega) b.range) (show BlkOk ["standing", "tool"] (defScope (top 14)) _ [("tool", 1)] from blkOk_by (by decide +kernel)) (by simp) (fun s H C cl fp => gt_name 1 nd) (fun n _ => rfl)
    (fun n hn _ H' C' cl fp => ets_one (et_val (EP.v (ep_met F hr g.cls (ev_var 0 rfl) (by decide) (ea_cons (ev_var 1 rfl) ea_nil) ⟨s, n, o, List.mem_range.mp hn, rfl, rfl⟩)))) (fun n _ _ s H C cl fp => ev_var 1 rfl) (by have := o.nt; simpa using by omega)) rfl
end
end TL

/-! the program's defs, part d: frozen, ascending, is_stuck -/
namespace TL
open PySem L2 PySem.Spec PyProof.Rows
def base0 (t : T) : Prop := t = .non ∨ (∃ i, t = .int i) ∨ ∃ x, t = .str x
def FzR : Nat → T → T → Prop
  | 0, t, u => base0 t ∧ u = t
  | d + 1, t, u => (base0 t ∧ u = t) ∨ ∃ xs : List (T × T), (t = .tup (xs.map (·.1)) ∨ t = .lst (xs.map (·.1))) ∧ u = .tup (xs.map (·.2)) ∧ xs.length ≤ 10000 ∧ ∀ p ∈ xs, FzR d p.1 p.2
theorem FzR.base {d : Nat} {t : T} (h : base0 t) : FzR d t t := by
  cases d with
  | zero => exact ⟨h, rfl⟩
  | succ d => exact .inl ⟨h, rfl⟩
theorem FzR.nat {d n : Nat} : FzR d (eN n) (eN n) := .base (.inr (.inl ⟨_, rfl⟩))
theorem FzR.op {d : Nat} {o : Option Nat} : FzR d (eO o) (eO o) := by
  cases o with
  | none => exact .base (.inl rfl)
  | some n => exact .nat
theorem FzR.lst {d : Nat} {α : Type} {xs : List α} {f g : α → T} (h : ∀ x ∈ xs, FzR d (f x) (g x)) (hl : xs.length ≤ 10000) : FzR (d + 1) (.lst (xs.map f)) (.tup (xs.map g)) :=
  .inr ⟨xs.map fun x => (f x, g x), .inr (by rw [List.map_map]; rfl), by rw [List.map_map]; rfl, by simpa using hl, fun p hp => by
    obtain ⟨x, hx, rfl⟩ := List.mem_map.mp hp
    exact h x hx⟩
theorem FzR.tup {d : Nat} {α : Type} {xs : List α} {f g : α → T} (h : ∀ x ∈ xs, FzR d (f x) (g x)) (hl : xs.length ≤ 10000) : FzR (d + 1) (.tup (xs.map f)) (.tup (xs.map g)) :=
  .inr ⟨xs.map fun x => (f x, g x), .inl (by rw [List.map_map]; rfl), by rw [List.map_map]; rfl, by simpa using hl, fun p hp => by
    obtain ⟨x, hx, rfl⟩ := List.mem_map.mp hp
    exact h x hx⟩
theorem FzR.two {d : Nat} {a b a' b' : T} (h : FzR d a a') (h' : FzR d b b') : FzR (d + 1) (.lst [a, b]) (.tup [a', b']) :=
  .inr ⟨[(a, a'), (b, b')], .inr rfl, rfl, by simp, by simp [h, h']⟩
section
variable {P : Program} {w : World} {K : PySem.W.Frag} {mg : Str → Option Value} {base : Heap}
variable {C CS : Addr} {k : Nat}
def SFz (d : Nat) : List Sl → (T → Prop) → Prop := fun ss Po => ∃ t u, FzR d t u ∧ ss = [.im t] ∧ Po = (· = u)
theorem ok_frozen1 (b : Bi mg) (D : DefAt K mg "frozen" (top 2) ["value"]) (d k : Nat) (R : ∀ d', d = d' + 1 → DefOk P w K mg base "frozen" k ["value"] (SFz d')) : DefOk P w K mg base "frozen" (k + 1) ["value"] (SFz d) := by
  have nd : (["value", "item"] : List Str).Nodup := by decide +kernel
  refine D.ok (N := ["value", "item"]) ⟨rfl, rfl, rfl, nd, rfl, by decide +kernel, by decide +kernel⟩ (fun _ _ ⟨s, _, _, e, _⟩ => by rw [e]; rfl) ?_
  rintro f cdv A outer st H E hr _ _ ⟨t, u, h, rfl, rfl⟩
  have hty (X : Cx) (r : Rho) (h1 : X.mg "list" = none) (h2 : X.mg "tuple" = none) : True := trivial
  have seq : ∀ (xs : List (T × T)) (d' : Nat), d = d' + 1 → (t = .tup (xs.map (·.1)) ∨ t = .lst (xs.map (·.1))) → u = .tup (xs.map (·.2)) → xs.length ≤ 10000 → (∀ p ∈ xs, FzR d' p.1 p.2) →
      ∃ m, t.tyn = some m ∧ ∀ K, PySem.W.kitAny K (.type m) [.type "list", .type "tuple"] = some true := by
    rintro xs d' _ (rfl | rfl) _ _ _
    · exact ⟨"tuple", rfl, fun _ => rfl⟩
    · exact ⟨"list", rfl, fun _ => rfl⟩
  have bas : base0 t → u = t → ST (cxOf CX0 P w K mg base ["value", "item"] "frozen" (defScope (top 2)) f cdv A outer st H E).nox (startR ["value", "item"] [.im t]) (defBody (top 2)) ⟨fun _ => (fun x => x = u) .non, fun x => x = u⟩ := by
    intro hb hu
    have : ∃ m, t.tyn = some m ∧ ∀ K, PySem.W.kitAny K (.type m) [.type "list", .type "tuple"] = some false := by
      rcases hb with rfl | ⟨i, rfl⟩ | ⟨x, rfl⟩
      · exact ⟨_, rfl, fun _ => rfl⟩
      · exact ⟨_, rfl, fun _ => rfl⟩
      · exact ⟨_, rfl, fun _ => rfl⟩
    obtain ⟨m, e1, e2⟩ := this
    exact st_ifR (et_val (ev_isi2 (ev_var 0 rfl) (ev_tup (ts := [.ty "list", .ty "tuple"]) (ea_cons (ev_tyn b.list) (ea_cons (ev_tyn b.tuple) ea_nil)) (by simp)) e1 e2 b.isi)) (fun z => by cases z) fun _ => st_ret (ev_var 0 rfl) hu.symm
  cases d with
  | zero => exact bas h.1 h.2
  | succ d =>
    rcases h with ⟨h1, h2⟩ | ⟨xs, h1, rfl, h3, h4⟩
    · exact bas h1 h2
    obtain ⟨m, e1, e2⟩ := seq xs d rfl h1 rfl h3 h4
    refine st_ifR (et_val (ev_isi2 (ev_var 0 rfl) (ev_tup (ts := [.ty "list", .ty "tuple"]) (ea_cons (ev_tyn b.list) (ea_cons (ev_tyn b.tuple) ea_nil)) (by simp)) e1 e2 b.isi)) (fun _ => ?_) (fun z => by cases z)
    refine st_ret (ev_tupM (enc := fun p : T × T => p.1) (g := fun p => p.2) (rx := fun p => [some (.im t), some (.im p.1)]) b.tuple rfl nd (h1.elim (fun e => ei_tup (ev_var 0 (by rw [e]; rfl))) fun e => ei_list (ev_var 0 (by rw [e]; rfl))) (show BlkOk ["value", "item"] (defScope (top 2)) _ [("item", 1)] from blkOk_by (by decide +kernel)) (by simp) (fun s H C cl fp => gt_name 1 nd) (fun n _ => rfl)
      (fun p hp _ H' C' cl fp => ev_call (R d rfl) hr (ea_cons (ev_var 1 rfl) ea_nil) ⟨p.1, p.2, h4 p hp, rfl, rfl⟩) h3) rfl
theorem ok_frozen (b : Bi mg) (D : DefAt K mg "frozen" (top 2) ["value"]) : ∀ d, DefOk P w K mg base "frozen" (d + 1) ["value"] (SFz d)
  | 0 => ok_frozen1 b D 0 0 (fun _ e => by cases e)
  | d + 1 => ok_frozen1 b D (d + 1) (d + 1) (fun d' e => by cases e; exact ok_frozen b D d)
/-- ascending, of a tuple of ints in order already -/
def SAscI : List Sl → (T → Prop) → Prop := fun ss Po => ∃ l : List Nat, l.Pairwise (· < ·) ∧ l.length < 60 ∧ ss = [.im (eNs l)] ∧ Po = (· = eNs l)
theorem ok_ascI (b : Bi mg) (D : DefAt K mg "ascending" (top 4) ["values"]) : DefOk P w K mg base "ascending" 1 ["values"] SAscI := by
  refine D.ok (N := ["values"]) ⟨rfl, rfl, rfl, by decide +kernel, rfl, by decide +kernel, by decide +kernel⟩ (fun _ _ ⟨s, _, _, e, _⟩ => by rw [e]; rfl) ?_
  rintro f cdv A outer st H E hr _ _ ⟨l, h1, h2, rfl, rfl⟩
  refine st_ret (EV.to (ev_tupL (EL.o (el_sset (ns := l.map fun n : Nat => (n : Int)) (ms := l.map fun n : Nat => (n : Int)) (ev_var 0 (by rw [List.map_map]; rfl)) (by simpa using h2) ?_ (fun _ => Iff.rfl) rfl b.sorted b.set)) b.tuple) (by rw [List.map_map]; rfl)) rfl
  exact List.pairwise_map.mpr (h1.imp fun h => by omega)

/-! ### is_stuck -/
def Sd.stuck (s : Sd) (l : List Nat) : Bool := !l.isEmpty && l.all fun h => s.full h && (s.hungAt h).all fun x => inO (s.want x) l
def SStuck (C CS : Addr) : List Sl → (T → Prop) → Prop := fun ss Po => ∃ (s : Sd) (l : List Nat) (t : T), Okay s ∧ (t = eNs l ∨ t = .lst (l.map eN)) ∧ l.Pairwise (· < ·) ∧ (∀ h ∈ l, h < s.nH) ∧ ss = [.im (tStand C CS s), .im t] ∧ Po = (· = .bl (s.stuck l))
theorem pw_lt_len {l : List Nat} {m : Nat} (h : l.Pairwise (· < ·)) (h2 : ∀ x ∈ l, x < m) : l.length ≤ m := by
  have nd : l.Nodup := h.imp fun h => Nat.ne_of_lt h
  have := nd.length_le_of_subset (l₂ := List.range m) fun x hx => List.mem_range.mpr (h2 x hx)
  simpa using this
theorem ok_stuck (b : Bi mg) (g : IsSg K C) (Fz : ∀ d, DefOk P w K mg base "frozen" (d + 1) ["value"] (SFz d)) (As : DefOk P w K mg base "ascending" 1 ["values"] SAscI) (F : MetOk P w K mg base C "is_full" 1 ["self", "house"] (SFull C CS)) (Hm : DefOk P w K mg base "homeward" 3 ["standing"] (SHome C CS))
    (St : DefOk P w K mg base "stays_held" 1 ["tools", "wants", "settled", "houses"] SStays) (D : DefAt K mg "is_stuck" (top 9) ["standing", "lot"]) : DefOk P w K mg base "is_stuck" 4 ["standing", "lot"] (SStuck C CS) := by
  have nd : (["standing", "lot", "houses", "settled", "house"] : List Str).Nodup := by decide +kernel
  refine D.ok (N := ["standing", "lot", "houses", "settled", "house"]) ⟨rfl, rfl, rfl, nd, rfl, by decide +kernel, by decide +kernel⟩ (fun _ _ ⟨s, _, _, _, _, _, _, e, _⟩ => by rw [e]; rfl) ?_
  rintro f cdv A outer st H E hr _ _ ⟨s, l, t, o, ht, hl, hm, rfl, rfl⟩
  have hlen := pw_lt_len hl hm
  have hn := o.nh
  have hz : FzR 1 t (eNs l) := by
    rcases ht with rfl | rfl
    · exact .tup (fun _ _ => .nat) (by omega)
    · exact .lst (fun _ _ => .nat) (by omega)
  refine st_set 2 nd (ev_call As (hr.mono (by decide)) (ea_cons (ev_call (Fz 1) (hr.mono (by decide)) (ea_cons (ev_var 1 rfl) ea_nil) ⟨_, _, hz, rfl, rfl⟩) ea_nil) ⟨l, hl, by omega, rfl, rfl⟩) ?_
  refine st_ifR (k := l.isEmpty) (ET.to (et_eqE (d := 1) (ev_var 2 rfl) (ev_tup (ts := []) ea_nil (by simp)) DK.nats (by decide) hr.units) (by cases l <;> rfl)) (fun z => st_ret ev_bl ?_) fun z => ?_
  · show T.bl false = T.bl _
    simp [Sd.stuck, z]
  refine st_set 3 nd (ev_call Hm hr (ea_cons (ev_var 0 rfl) ea_nil) ⟨s, by have := o.nt; omega, rfl, rfl⟩) ?_
  refine st_for (fun k r => ∃ o, r = [some (.im (tStand C CS s)), some (.im t), some (.im (eNs l)), some (.im (tSettled s.nT)), o] ∧ ∀ h ∈ l.take k, (s.full h && (s.hungAt h).all fun x => inO (s.want x) l) = true) (ei_tup (ev_var 2 rfl)) (gt_name 4 nd) ⟨none, rfl, by simp⟩ ?_ ?_
  · rintro k t' r1 ht' ⟨o', rfl, hv⟩
    obtain ⟨y, hy, rfl, hk⟩ := forM ht'
    have hyn := hm y (mem_of_get hy)
    refine ⟨_, rfl, st_ifR (EW.et (ew_or (et_not (et_val (EP.v (ep_met F (hr.mono (by decide)) g.cls (ev_var 0 rfl) (by decide) (ea_cons (ev_var 4 rfl) ea_nil) ⟨s, y, hyn, rfl, rfl⟩)))) fun _ => ew_or1 (et_not (et_val (ev_call St (hr.mono (by decide)) (ea_cons (ev_tab (f_hung g (ev_var 0 rfl)) (ev_var 4 rfl) hyn) (ea_cons (f_wants g (ev_var 0 rfl)) (ea_cons (ev_var 3 rfl) (ea_cons (ev_var 2 rfl) ea_nil)))) ⟨s.hungAt y, l, s.nT, s.want, _, fun x hx => hungAt_lt hx, rfl, rfl, rfl⟩))))) (fun q => st_ret ev_bl ?_) fun q => st_nil ⟨_, rfl, take_succ_all hy hv ?_⟩⟩
    · show T.bl false = T.bl _
      have : (l.all fun h => s.full h && (s.hungAt h).all fun x => inO (s.want x) l) = false := List.all_eq_false.mpr ⟨y, mem_of_get hy, by
        rw [← Bool.not_and] at q
        simpa only [Bool.not_eq_true, Bool.not_eq_eq_eq_not, Bool.not_true] using q⟩
      simp only [Sd.stuck, this, Bool.and_false]
    · rw [← Bool.not_and] at q
      simpa only [Bool.not_eq_true, Bool.not_eq_eq_eq_not, Bool.not_false] using q
  · rintro r' ⟨o', rfl, hv⟩
    refine st_ret ev_bl ?_
    show T.bl true = T.bl _
    have : (l.all fun h => s.full h && (s.hungAt h).all fun x => inO (s.want x) l) = true := List.all_eq_true.mpr fun x hx => hv x (by rw [List.length_map, List.take_length]; exact hx)
    simp only [Sd.stuck, this, z, Bool.not_false, Bool.and_self]
end
end TL

/-! the program's defs, part e: taking out -/
namespace TL
open PySem L2 PySem.Spec PyProof.Rows
theorem fs_some {α β : Type} {f : α → Option β} {xs : List α} {k : Nat} {y : α} {v : β} (h : xs[k]? = some y) (hn : ∀ x ∈ xs.take k, f x = none) (hv : f y = some v) : xs.findSome? f = some v := by
  have hk := (List.getElem?_eq_some_iff.mp h).1
  have e : xs = xs.take k ++ y :: xs.drop (k + 1) := by
    have h2 : xs[k] = y := by rw [List.getElem?_eq_getElem hk] at h; exact Option.some.inj h
    rw [← h2, ← List.drop_eq_getElem_cons hk, List.take_append_drop]
  rw [e, List.findSome?_append, List.findSome?_eq_none_iff.mpr hn]
  simp [hv]
theorem fs_none {α β : Type} {f : α → Option β} {xs : List α} (hn : ∀ x ∈ xs, f x = none) : xs.findSome? f = none := List.findSome?_eq_none_iff.mpr hn
def Sd.freed (s : Sd) (l : List Nat) (x : Nat) : Bool := match s.want x with
  | none => true
  | some k => decide (k ∈ l)
def Sd.reason (s : Sd) (h : Nat) : Option Nat → List Nat → Bool
  | none, _ => !s.full h
  | some x, l => decide (x ∈ s.hungAt h) && s.freed l x
def Sd.least (s : Sd) (h : Nat) (l : List Nat) : Option (Option Nat) := if s.full h then ((s.hungAt h).findSome? fun x => if s.freed l x then some (some x) else none) else some none
def Sd.next (s : Sd) (l : List Nat) : Option (Nat × Option Nat) := (List.range s.nH).findSome? fun h => if h ∈ l then none else (s.least h l).map fun o => (h, o)
def eL : Option (Option Nat) → T
  | none => .tup []
  | some o => .tup [eO o]
abbrev eR (p : Nat × Option Nat) : T := .tup [eN p.1, eO p.2]
def eNx : Option (Nat × Option Nat) → T
  | none => .non
  | some p => eR p
section
variable {P : Program} {w : World} {K : PySem.W.Frag} {mg : Str → Option Value} {base : Heap}
variable {C CS : Addr} {k : Nat}
def SReason (C CS : Addr) : List Sl → (T → Prop) → Prop := fun ss Po => ∃ (s : Sd) (h : Nat) (o : Option Nat) (l : List Nat), h < s.nH ∧ ss = [.im (tStand C CS s), .im (eN h), .im (eO o), .ro (l.map eN)] ∧ Po = (· = .bl (s.reason h o l))
theorem ok_reason (b : Bi mg) (g : IsSg K C) (F : MetOk P w K mg base C "is_full" 1 ["self", "house"] (SFull C CS)) (D : DefAt K mg "is_reason" (top 36) ["standing", "house", "tool", "earlier"]) : DefOk P w K mg base "is_reason" 2 ["standing", "house", "tool", "earlier"] (SReason C CS) := by
  have nd : (["standing", "house", "tool", "earlier"] : List Str).Nodup := by decide +kernel
  refine D.ok (N := ["standing", "house", "tool", "earlier"]) ⟨rfl, rfl, rfl, nd, rfl, by decide +kernel, by decide +kernel⟩ (fun _ _ ⟨s, _, _, _, _, e, _⟩ => by rw [e]; rfl) ?_
  rintro f cdv A outer st H E hr _ _ ⟨s, h, o, l, hh, rfl, rfl⟩
  cases o with
  | none =>
    exact st_ifR (et_isN (ev_var 2 rfl)) (fun _ => st_ret (ev_not (EP.v (ep_met F hr g.cls (ev_var 0 rfl) (by decide) (ea_cons (ev_var 1 rfl) ea_nil) ⟨s, h, hh, rfl, rfl⟩))) rfl) (fun z => by cases z)
  | some x =>
    refine st_ifR (et_isN (ev_var 2 rfl)) (fun z => by cases z) (fun _ => ?_)
    refine st_ifR (et_niN (ev_var 2 rfl) ((ev_tab (f_hung g (ev_var 0 rfl)) (ev_var 1 rfl) hh).q rfl)) (fun z => st_ret ev_bl ?_) (fun z => ?_)
    · show T.bl false = T.bl _
      have : ¬ x ∈ s.hungAt h := by simpa using z
      simp [Sd.reason, this]
    have hx : x ∈ s.hungAt h := by simpa using z
    have hxn := hungAt_lt hx
    refine st_ret (ev_or (k2 := s.freed l x) (ev_isN (ev_tab (f_wants g (ev_var 0 rfl)) (ev_var 2 rfl) hxn)) fun z => ev_one ((ev_inO (ev_tab (f_wants g (ev_var 0 rfl)) (ev_var 2 rfl) hxn) (eo_ro 3 rfl).q).to ?_)) ?_
    · rw [isN_eO] at z
      unfold Sd.freed inO
      cases e : s.want x with
      | none => rw [e] at z; cases z
      | some k => rfl
    · show T.bl _ = T.bl _
      rw [isN_eO]
      simp only [Sd.reason, hx, decide_true, Bool.true_and]
      unfold Sd.freed
      cases s.want x <;> rfl
def SLeast (C CS : Addr) : List Sl → (T → Prop) → Prop := fun ss Po => ∃ (s : Sd) (h : Nat) (l : List Nat), h < s.nH ∧ ss = [.im (tStand C CS s), .im (eN h), .ro (l.map eN)] ∧ Po = (· = eL (s.least h l))
theorem ok_least (b : Bi mg) (g : IsSg K C) (R : DefOk P w K mg base "is_reason" 2 ["standing", "house", "tool", "earlier"] (SReason C CS)) (D : DefAt K mg "least_reason" (top 38) ["standing", "house", "earlier"]) : DefOk P w K mg base "least_reason" 3 ["standing", "house", "earlier"] (SLeast C CS) := by
  have nd : (["standing", "house", "earlier", "tool"] : List Str).Nodup := by decide +kernel
  refine D.ok (N := ["standing", "house", "earlier", "tool"]) ⟨rfl, rfl, rfl, nd, rfl, by decide +kernel, by decide +kernel⟩ (fun _ _ ⟨s, _, _, _, e, _⟩ => by rw [e]; rfl) ?_
  rintro f cdv A outer st H E hr _ _ ⟨s, h, l, hh, rfl, rfl⟩
  refine st_ifR (et_val (ev_call R hr (ea_cons (ev_var 0 rfl) (ea_cons (ev_var 1 rfl) (ea_cons ev_non (ea_consO (eo_ro 2 rfl) ea_nil)))) ⟨s, h, none, l, hh, rfl, rfl⟩)) (fun z => st_ret (ev_tup (ts := [.non]) (ea_cons ev_non ea_nil) (by simp)) ?_) (fun z => ?_)
  · have : s.full h = false := by simpa [Sd.reason] using z
    show _ = eL _
    simp [Sd.least, this, eL, eO]
  have hf : s.full h = true := by simpa [Sd.reason] using z
  refine st_for (fun k r => ∃ o, r = [some (.im (tStand C CS s)), some (.im (eN h)), some (.ro (l.map eN)), o] ∧ ∀ x ∈ (s.hungAt h).take k, (if s.freed l x then some (some x) else none) = (none : Option (Option Nat))) (ei_tup (ev_tab (f_hung g (ev_var 0 rfl)) (ev_var 1 rfl) hh)) (gt_name 3 nd) ⟨none, rfl, by simp⟩ ?_ ?_
  · rintro k t' r1 ht' ⟨o', rfl, hv⟩
    obtain ⟨y, hy, rfl, hk⟩ := forM ht'
    have hym := mem_of_get hy
    refine ⟨_, rfl, st_ifR (et_val (ev_call R hr (ea_cons (ev_var 0 rfl) (ea_cons (ev_var 1 rfl) (ea_cons (ev_var 3 rfl) (ea_consO (eo_ro 2 rfl) ea_nil)))) ⟨s, h, some y, l, hh, rfl, rfl⟩)) (fun z => st_ret (ev_tup (ts := [eN y]) (ea_cons (ev_var 3 rfl) ea_nil) (by simp)) ?_) (fun z => st_nil ⟨_, rfl, take_succ_all hy hv ?_⟩)⟩
    · have hz : s.freed l y = true := by simpa [Sd.reason, hym] using z
      show _ = eL _
      unfold Sd.least
      rw [if_pos hf, fs_some hy hv (by rw [if_pos hz])]
      rfl
    · have hz : s.freed l y = false := by simpa [Sd.reason, hym] using z
      simp [hz]
  · rintro r' ⟨o', rfl, hv⟩
    refine st_ret (ev_tup (ts := []) ea_nil (by simp)) ?_
    show _ = eL _
    unfold Sd.least
    rw [if_pos hf, fs_none fun x hx => hv x (by rw [List.length_map, List.take_length]; exact hx)]
    rfl
def SNext (C CS : Addr) : List Sl → (T → Prop) → Prop := fun ss Po => ∃ (s : Sd) (l : List Nat), s.nH ≤ 100 ∧ ss = [.im (tStand C CS s), .ro (l.map eN)] ∧ Po = (· = eNx (s.next l))
theorem ok_next (b : Bi mg) (g : IsSg K C) (g2 : IsSt K CS) (Hs : PrpOk P w K mg base CS "houses" 1 (SHouses CS)) (R : DefOk P w K mg base "least_reason" 3 ["standing", "house", "earlier"] (SLeast C CS)) (D : DefAt K mg "next_pair" (top 39) ["standing", "earlier"]) : DefOk P w K mg base "next_pair" 4 ["standing", "earlier"] (SNext C CS) := by
  have nd : (["standing", "earlier", "house", "reason"] : List Str).Nodup := by decide +kernel
  refine D.ok (N := ["standing", "earlier", "house", "reason"]) ⟨rfl, rfl, rfl, nd, rfl, by decide +kernel, by decide +kernel⟩ (fun _ _ ⟨s, _, _, e, _⟩ => by rw [e]; rfl) ?_
  rintro f cdv A outer st H E hr _ _ ⟨s, l, hs, rfl, rfl⟩
  refine st_for (fun k r => ∃ x y, r = [some (.im (tStand C CS s)), some (.ro (l.map eN)), x, y] ∧ ∀ h ∈ (List.range s.nH).take k, (if h ∈ l then none else (s.least h l).map fun o => (h, o)) = none) (ei_rangeN (EP.v (ep_prop Hs (hr.mono (by decide)) g2.cls (f_street g (ev_var 0 rfl)) ⟨s, rfl, rfl⟩)) (by omega) b.range) (gt_name 2 nd) ⟨none, none, rfl, by simp⟩ ?_ ?_
  · rintro k t' r1 ht' ⟨x, y, rfl, hv⟩
    obtain ⟨h, hy, rfl, hk⟩ := forM ht'
    obtain ⟨rfl, hk⟩ := rangeM hy
    refine ⟨_, rfl, ?_⟩
    refine st_ifC _ (et_niN (ev_var 2 rfl) (eo_ro 1 rfl).q) (fun z => ?_) (fun z => ?_) (fun r' h => st_nil h)
    · have hl : ¬ h ∈ l := by simpa using z
      refine st_set 3 nd (ev_call R hr (ea_cons (ev_var 0 rfl) (ea_cons (ev_var 2 rfl) (ea_consO (eo_ro 1 rfl) ea_nil))) ⟨s, h, l, hk, rfl, rfl⟩) ?_
      cases e : s.least h l with
      | none =>
        refine st_ifR (et_neE (d := 1) (ev_var 3 rfl) (ev_tup (ts := []) ea_nil (by simp)) DK.emp (by decide) hr.units) (fun z => by cases z) fun _ => st_nil ⟨_, _, rfl, take_succ_all hy hv (by rw [if_neg hl, e]; rfl)⟩
      | some o =>
        refine st_ifR (et_neE (d := 1) (ev_var 3 rfl) (ev_tup (ts := []) ea_nil (by simp)) (DK.one DK.op) (by decide) hr.units) (fun _ => ?_) fun z => by cases z
        refine st_ret (ev_tup (ts := [eN h, eO o]) (ea_cons (ev_var 2 rfl) (ea_cons (ev_at' (j := 0) ((ev_var 3 rfl).q rfl) ev_int rfl) ea_nil)) (by simp)) ?_
        show _ = eNx _
        unfold Sd.next
        rw [fs_some hy hv (v := (h, o)) (by rw [if_neg hl, e]; rfl)]
        rfl
    · have hl : h ∈ l := by simpa using z
      exact st_nil ⟨_, _, rfl, take_succ_all hy hv (by rw [if_pos hl])⟩
  · rintro r' ⟨x, y, rfl, hv⟩
    refine st_ret ev_non ?_
    show _ = eNx _
    unfold Sd.next
    rw [fs_none fun x hx => hv x (by rw [List.length_map, List.take_length]; exact hx)]
    rfl
def Chain (s : Sd) (ps : List (Nat × Option Nat)) : Prop := ∀ k q, ps[k]? = some q → s.next ((ps.take k).map (·.1)) = some q
structure Ends (s : Sd) (ps : List (Nat × Option Nat)) : Prop where
  ch : Chain s ps
  fin : s.next (ps.map (·.1)) = none
theorem next_some {s : Sd} {l : List Nat} {h : Nat} {o : Option Nat} (e : s.next l = some (h, o)) : h < s.nH ∧ h ∉ l ∧ s.least h l = some o := by
  unfold Sd.next at e
  obtain ⟨x, hx, hy⟩ := List.exists_of_findSome?_eq_some e
  split at hy
  · cases hy
  · rename_i hn
    cases z : s.least x l with
    | none => rw [z] at hy; cases hy
    | some o' => rw [z] at hy; cases hy; exact ⟨List.mem_range.mp hx, hn, z⟩
theorem Chain.snoc {s : Sd} {ps : List (Nat × Option Nat)} {q : Nat × Option Nat} (c : Chain s ps) (e : s.next (ps.map (·.1)) = some q) : Chain s (ps ++ [q]) := by
  intro k z hz
  rcases Nat.lt_trichotomy k ps.length with h | h | h
  · rw [List.getElem?_append_left h] at hz
    rw [List.take_append_of_le_length (Nat.le_of_lt h)]
    exact c k z hz
  · subst h
    rw [List.getElem?_append_right (Nat.le_refl _), Nat.sub_self] at hz
    cases hz
    rw [List.take_left]
    exact e
  · rw [List.getElem?_eq_none (by simp; omega)] at hz
    cases hz
theorem Chain.nodup {s : Sd} : ∀ {ps : List (Nat × Option Nat)}, Chain s ps → (ps.map (·.1)).Nodup := by
  intro ps c
  refine List.pairwise_iff_getElem.mpr fun i j hi hj hij => ?_
  rw [List.length_map] at hi hj
  obtain ⟨_, b, _⟩ := next_some (o := ps[j].2) (c j ps[j] (List.getElem?_eq_getElem hj))
  rw [List.getElem_map, List.getElem_map]
  intro e
  refine b (List.mem_map.mpr ⟨ps[i], ?_, e⟩)
  exact List.mem_of_getElem? (i := i) (by rw [List.getElem?_take_of_lt hij, List.getElem?_eq_getElem hi])
theorem Chain.mem {s : Sd} {ps : List (Nat × Option Nat)} (c : Chain s ps) {q : Nat × Option Nat} (h : q ∈ ps) : q.1 < s.nH := by
  obtain ⟨k, hk⟩ := List.getElem?_of_mem h
  exact (next_some (o := q.2) (c k q hk)).1
theorem Chain.len {s : Sd} {ps : List (Nat × Option Nat)} (c : Chain s ps) : ps.length ≤ s.nH := by
  have := c.nodup.length_le_of_subset (l₂ := List.range s.nH) fun x hx => by
    obtain ⟨q, hq, rfl⟩ := List.mem_map.mp hx
    exact List.mem_range.mpr (c.mem hq)
  simpa using this
def STaking (C CS : Addr) : List Sl → (T → Prop) → Prop := fun ss Po => ∃ (s : Sd), s.nH ≤ 100 ∧ ss = [.im (tStand C CS s)] ∧ Po = fun t => ∃ ps, Ends s ps ∧ t = .tup (ps.map eR)
theorem ok_taking (b : Bi mg) (R : DefOk P w K mg base "next_pair" 4 ["standing", "earlier"] (SNext C CS)) (D : DefAt K mg "taking_out" (top 40) ["standing"]) : DefOk P w K mg base "taking_out" 5 ["standing"] (STaking C CS) := by
  have nd : (["standing", "pairs", "earlier", "pair"] : List Str).Nodup := by decide +kernel
  refine D.ok (N := ["standing", "pairs", "earlier", "pair"]) ⟨rfl, rfl, rfl, nd, rfl, by decide +kernel, by decide +kernel⟩ (fun _ _ ⟨s, _, e, _⟩ => by rw [e]; rfl) ?_
  rintro f cdv A outer st H E hr _ _ ⟨s, hs, rfl, rfl⟩
  refine st_setL 1 nd (el_lst (ts := []) ea_nil (by simp)) ?_
  refine st_setL 2 nd (el_lst (ts := []) ea_nil (by simp)) ?_
  refine st_set 3 nd (ev_call R hr (ea_cons (ev_var 0 rfl) (ea_consO (eo_ow 2 rfl) ea_nil)) ⟨s, [], hs, rfl, rfl⟩) ?_
  refine st_while (fun k r => ∃ ps, Chain s ps ∧ k = s.nH + 1 - ps.length ∧ r = [some (.im (tStand C CS s)), some (.ow (ps.map eR)), some (.ow ((ps.map (·.1)).map eN)), some (.im (eNx (s.next (ps.map (·.1)))))]) (fun r => ∃ ps z y, Ends s ps ∧ r = [some (.im (tStand C CS s)), some (.ow (ps.map eR)), z, y]) _ ⟨[], fun k q h => by simp at h, rfl, rfl⟩ ?_ ?_
  · rintro k r1 ⟨ps, c, rfl, rfl⟩
    have hl := c.len
    refine ⟨_, et_notN (ev_var 3 rfl), fun z => ?_, fun z => ⟨ps, _, _, ⟨c, ?_⟩, rfl⟩⟩
    · cases e : s.next (ps.map (·.1)) with
      | none => rw [e] at z; cases z
      | some q =>
        have c2 := c.snoc e
        have hl2 := c2.len
        rw [List.length_append] at hl2
        refine st_app 1 rfl (ev_var 3 rfl) (by rw [List.length_map]; omega) ?_
        refine st_app 2 rfl (ev_at' (j := 0) ((ev_var 3 rfl).q rfl) ev_int rfl) (by rw [List.length_map, List.length_map]; omega) ?_
        have e1 : (ps ++ [q]).map eR = ps.map eR ++ [eR q] := by simp
        have e2 : ((ps ++ [q]).map (·.1)) = ps.map (·.1) ++ [q.1] := by simp
        refine st_set 3 nd (ev_call R hr (ea_cons (ev_var 0 rfl) (ea_consO (eo_ow 2 rfl) ea_nil)) ⟨s, (ps ++ [q]).map (·.1), hs, by simp, rfl⟩) (st_nil ⟨_, ?_, ps ++ [q], c2, rfl, ?_⟩)
        · rw [List.length_append]
          simp only [List.length_singleton] at hl2 ⊢
          omega
        · rw [e1, e2, List.map_append]
          rfl
    · cases e : s.next (ps.map (·.1)) with
      | none => rfl
      | some q => rw [e] at z; cases z
  · rintro r1 ⟨ps, z, y, u, rfl⟩
    exact st_ret (ev_tupL (eo_ow 1 rfl) b.tuple) ⟨ps, u, rfl⟩
/-- is_taking_out, asked of what a taking out gave -/
def SIsTaking (C CS : Addr) : List Sl → (T → Prop) → Prop := fun ss Po => ∃ (s : Sd) (ps : List (Nat × Option Nat)), ps.length ≤ 100 ∧ (∀ k q, ps[k]? = some q → q.1 < s.nH ∧ q.1 ∉ (ps.take k).map (·.1) ∧ s.reason q.1 q.2 ((ps.take k).map (·.1)) = true) ∧
  ss = [.im (tStand C CS s), .im (.lst (ps.map fun q => .lst [eN q.1, eO q.2]))] ∧ Po = (· = .bl true)
theorem ok_isTaking (b : Bi mg) (Fz : ∀ d, DefOk P w K mg base "frozen" (d + 1) ["value"] (SFz d)) (R : DefOk P w K mg base "is_reason" 2 ["standing", "house", "tool", "earlier"] (SReason C CS)) (D : DefAt K mg "is_taking_out" (top 37) ["standing", "pairs"]) : DefOk P w K mg base "is_taking_out" 4 ["standing", "pairs"] (SIsTaking C CS) := by
  have nd : (["standing", "pairs", "earlier", "house", "tool"] : List Str).Nodup := by decide +kernel
  refine D.ok (N := ["standing", "pairs", "earlier", "house", "tool"]) ⟨rfl, rfl, rfl, nd, rfl, by decide +kernel, by decide +kernel⟩ (fun _ _ ⟨s, _, _, _, e, _⟩ => by rw [e]; rfl) ?_
  rintro f cdv A outer st H E hr _ _ ⟨s, ps, hs, hp, rfl, rfl⟩
  refine st_setL 2 nd (el_lst (ts := []) ea_nil (by simp)) ?_
  refine st_for (fun k r => ∃ x y, r = [some (.im (tStand C CS s)), some (.im (.lst (ps.map fun q => .lst [eN q.1, eO q.2]))), some (.ow (((ps.take k).map (·.1)).map eN)), x, y])
    (ei_tup (ev_call (Fz 2) hr (ea_cons (ev_var 1 rfl) ea_nil) ⟨_, _, FzR.lst (g := eR) (fun q _ => FzR.two FzR.nat FzR.op) (by omega), rfl, rfl⟩)) (gt_tup2 rfl (gt_name 3 nd) (gt_name 4 nd)) ⟨none, none, rfl⟩ ?_ ?_
  · rintro k t' r1 ht' ⟨x, y, rfl⟩
    obtain ⟨q, hy, rfl, hk⟩ := forM ht'
    obtain ⟨h1, h2, h3⟩ := hp k q hy
    refine ⟨_, ⟨_, _, _, rfl, rfl, rfl⟩, ?_⟩
    refine st_ifR (k := false) (ET.to (EW.et (ew_or (et_inN (l := (ps.take k).map (·.1)) (ev_var 3 rfl) (eo_ow 2 rfl).q) fun _ => ew_or1 (et_not (et_val (ev_call R (hr.mono (by decide)) (ea_cons (ev_var 0 rfl) (ea_cons (ev_var 3 rfl) (ea_cons (ev_var 4 rfl) (ea_consO (eo_ow 2 rfl) ea_nil)))) ⟨s, q.1, q.2, (ps.take k).map (·.1), h1, rfl, rfl⟩))))) ?_) (fun z => by cases z) fun _ => ?_
    · rw [h3, decide_eq_false h2]; rfl
    refine st_app 2 rfl (ev_var 3 rfl) (by rw [List.length_map, List.length_map, List.length_take]; omega) (st_nil ⟨some (.im (eN q.1)), some (.im (eO q.2)), ?_⟩)
    rw [List.take_add_one, hy, List.map_append, List.map_append]
    rfl
  · rintro r1 ⟨x, y, rfl⟩
    exact st_ret ev_bl rfl
end
end TL

/-! the program's defs, part f: streets -/
namespace TL
open PySem L2 PySem.Spec PyProof.Rows
section
variable {P : Program} {w : World} {K : PySem.W.Frag} {mg : Str → Option Value} {base : Heap}
variable {C CS : Addr} {k : Nat}
theorem st_setf {X : Cx} {r : Rho} {D : Dn} {rest : List Stmt} {e : Expr} {t : T} {ts : List T} {pos p q : Pos} {x : Str} {C y : Addr} {fs : List Str} {n : Str} (i : Nat) (hr : r[i]? = some (some (.oi y C fs ts))) (he : EV X r e t) (hc : Cls X.K C) (hn : NoAttr X.K C n) (k : ST X (r.set i (some (.oi y C (fs ++ [n]) (ts ++ [t])))) rest D) (hf : n ∉ fs := by decide) (hl : fs.length < 100 := by decide) (hN : X.N[i]? = some x := by rfl)
    (hv : Vis X.env.scope x := by first | exact Or.inl rfl | exact Or.inr (Or.inl rfl) | exact Or.inr (Or.inr rfl)) (hd : (x == ("__debug__" : Str)) = false := by decide) (hcd : (x == ("__classdict__" : Str)) = false := by decide) (hs : swapsWith e (some (.Attribute (.Name x p) n q)) pos.line X.env = pure false := by rfl) :
    ST X r (.Assign [.Attribute (.Name x p) n q] e pos :: rest) D :=
  st_cons (fun r' => r' = r.set i (some (.oi y C (fs ++ [n]) (ts ++ [t])))) (s1_setf (P := (· = t)) (q' := p) i hr (he.p rfl) hc hn hf hl (fun _ e => by subst e; rfl) hN hv hd hcd hs) fun _ e => e ▸ k
def SNum : List Sl → (T → Prop) → Prop := fun ss Po => ∃ n : Nat, ss = [.im (eN n)] ∧ Po = (· = .bl true)
theorem ok_num (b : Bi mg) (D : DefAt K mg "is_number" (top 3) ["value"]) : DefOk P w K mg base "is_number" 1 ["value"] SNum := by
  refine D.ok (N := ["value"]) ⟨rfl, rfl, rfl, by decide +kernel, rfl, by decide +kernel, by decide +kernel⟩ (fun _ _ ⟨s, e, _⟩ => by rw [e]; rfl) ?_
  rintro f cdv A outer st H E hr _ _ ⟨n, rfl, rfl⟩
  exact st_ret (ev_and (k1 := true) (k2 := true) (ev_isi (ev_var 0 rfl) (ev_tyn (n := "int") b.int) rfl (by decide +kernel) b.isi) fun _ => ev_one (ev_not (k := false) (ev_isi (ev_var 0 rfl) (ev_tyn (n := "bool") b.bool) rfl (by decide +kernel) b.isi))) rfl
/-- what a sound street is -/
structure OkSt (s : Sd) : Prop where
  nh : s.nH ≤ 12
  pegs : ∀ p ∈ s.pegs, 1 ≤ p ∧ p ≤ 9
  lt : ∀ p ∈ s.lanes, p.1 ≠ p.2 ∧ p.1 < s.nH ∧ p.2 < s.nH
  asc : s.lanes.Pairwise fun p q => p.1 < q.1 ∨ (p.1 = q.1 ∧ p.2 < q.2)
  len : s.lanes.length ≤ 132
def SPegs : List Sl → (T → Prop) → Prop := fun ss Po => ∃ s : Sd, OkSt s ∧ ss = [.im (eNs s.pegs)] ∧ Po = (· = .non)
theorem ok_pegs (b : Bi mg) (Nm : DefOk P w K mg base "is_number" 1 ["value"] SNum) (D : DefAt K mg "check_pegs" (top 26) ["pegs"]) : DefOk P w K mg base "check_pegs" 2 ["pegs"] SPegs := by
  have nd : (["pegs", "house", "number"] : List Str).Nodup := by decide +kernel
  refine D.ok (N := ["pegs", "house", "number"]) ⟨rfl, rfl, rfl, nd, rfl, by decide +kernel, by decide +kernel⟩ (fun _ _ ⟨s, _, e, _⟩ => by rw [e]; rfl) ?_
  rintro f cdv A outer st H E hr _ _ ⟨s, o, rfl, rfl⟩
  refine st_for (fun k r => ∃ x y, r = [some (.im (eNs s.pegs)), x, y]) (EI.to (ei_enumT (ev_var 0 rfl) b.enum) (enT_range 0 s.pegs)) (gt_tup2 rfl (gt_name 1 nd) (gt_name 2 nd)) ⟨none, none, rfl⟩ ?_ ?_
  · rintro k t' r1 ht' ⟨x, y, rfl⟩
    obtain ⟨h, hy, rfl, hk⟩ := forM ht'
    obtain ⟨rfl, hk⟩ := rangeM hy
    obtain ⟨h1, h2⟩ := o.pegs _ (getD_mem (d := 0) hk)
    refine ⟨_, ⟨_, _, _, rfl, rfl, rfl⟩, ?_⟩
    refine st_ifR (k := false) (ET.to (EW.et (ew_or (k1 := false) (k2 := false) (et_not (k := true) (et_val (ev_call Nm hr (ea_cons (ev_var 2 rfl) ea_nil) ⟨_, rfl, rfl⟩))) fun _ => ew_or (k1 := false) (k2 := false) (ET.to (et_ltN (m := 1) (ev_var 2 rfl) ev_nat) (decide_eq_false (by omega))) fun _ => ew_or1 (ET.to (et_gtN (m := 9) (ev_var 2 rfl) ev_nat) (decide_eq_false (by omega))))) rfl) (fun z => by cases z) fun _ => st_nil ⟨_, _, rfl⟩
  · rintro r1 ⟨x, y, rfl⟩
    exact st_nil rfl
def SLanes : List Sl → (T → Prop) → Prop := fun ss Po => ∃ s : Sd, OkSt s ∧ ss = [.im (eN s.nH), .im (.tup (s.lanes.map eP))] ∧ Po = (· = .non)
theorem ok_lanes (b : Bi mg) (D : DefAt K mg "check_lanes" (top 27) ["houses", "lanes"]) : DefOk P w K mg base "check_lanes" 1 ["houses", "lanes"] SLanes := by
  have nd : (["houses", "lanes", "index", "a", "b"] : List Str).Nodup := by decide +kernel
  refine D.ok (N := ["houses", "lanes", "index", "a", "b"]) ⟨rfl, rfl, rfl, nd, rfl, by decide +kernel, by decide +kernel⟩ (fun _ _ ⟨s, _, e, _⟩ => by rw [e]; rfl) ?_
  rintro f cdv A outer st H E hr _ _ ⟨s, o, rfl, rfl⟩
  refine st_for (fun k r => ∃ x y z, r = [some (.im (eN s.nH)), some (.im (.tup (s.lanes.map eP))), x, y, z]) (EI.to (ei_enumT (ev_var 1 rfl) b.enum) (enT_range (0, 0) s.lanes)) (gt_tup2 rfl (gt_name 2 nd) (gt_tup2 rfl (gt_name 3 nd) (gt_name 4 nd))) ⟨none, none, none, rfl⟩ ?_ ?_
  · rintro k t' r1 ht' ⟨x, y, z, rfl⟩
    obtain ⟨h, hy, rfl, hk⟩ := forM ht'
    obtain ⟨rfl, hk⟩ := rangeM hy
    obtain ⟨h1, h2, h3⟩ := o.lt _ (getD_mem (d := (0, 0)) hk)
    refine ⟨_, ⟨_, _, _, rfl, rfl, _, _, _, rfl, rfl, rfl⟩, ?_⟩
    refine st_ifR (k := false) (EW.et (ew_or (k1 := false) (k2 := false) (ET.to (et_eqN (ev_var 3 rfl) (ev_var 4 rfl)) (decide_eq_false h1)) fun _ => ew_or (k1 := false) (k2 := false) (ET.to (et_lt (ev_min2 (ev_var 3 rfl) (ev_var 4 rfl) rfl b.min) ev_int) (decide_eq_false (by split <;> omega))) fun _ => ew_or1 (ET.to (et_ge (ev_max2 (ev_var 3 rfl) (ev_var 4 rfl) rfl b.max) (ev_var 0 rfl)) (decide_eq_false (by split <;> omega))))) (fun z => by cases z) fun _ => st_nil ⟨_, _, _, rfl⟩
  · rintro r1 ⟨x, y, z, rfl⟩
    exact st_nil rfl
/-- ascending, of pairs in order already -/
def SAscP : List Sl → (T → Prop) → Prop := fun ss Po => ∃ l : List (Nat × Nat), l.Pairwise (fun p q => p.1 < q.1 ∨ (p.1 = q.1 ∧ p.2 < q.2)) ∧ (∀ p ∈ l, p.1 < 12 ∧ p.2 < 12) ∧ l.length ≤ 132 ∧ ss = [.im (.tup (l.map eP))] ∧ Po = (· = .tup (l.map eP))
def SStreet (CS : Addr) : List T → List T → Prop := fun ss ts => ∃ (s : Sd) (tp tl : T), OkSt s ∧ FzR 1 tp (eNs s.pegs) ∧ FzR 2 tl (.tup (s.lanes.map eP)) ∧ ss = [tp, tl] ∧ .ins CS fsSt ts = tStreet CS s
theorem ok_street {f : Addr} {fd : FuncData} (b : Bi mg) (g : IsSt K CS) (Fz : ∀ d, DefOk P w K mg base "frozen" (d + 1) ["value"] (SFz d)) (Pg : DefOk P w K mg base "check_pegs" 2 ["pegs"] SPegs) (Ln : DefOk P w K mg base "check_lanes" 1 ["houses", "lanes"] SLanes) (As : DefOk P w K mg base "ascending" 1 ["values"] SAscP)
    (F : Fun K "__init__" "Street.__init__" (inC 28 1) f fd) : FnOk P w K mg base CX0 4 f fd ["self", "pegs", "lanes"] (spI K CS fsSt (SStreet CS)) := by
  have nd : (["self", "pegs", "lanes", "pairs", "houses", "house", "a", "b"] : List Str).Nodup := by decide +kernel
  refine fn_I (N := ["self", "pegs", "lanes", "pairs", "houses", "house", "a", "b"]) F ⟨rfl, rfl, rfl, nd, rfl, by decide +kernel, by decide +kernel⟩ (fun _ _ ⟨s, _, _, _, _, _, e, _⟩ => by rw [e]; rfl) ?_
  rintro cdv A outer st H E hr y _ ts ⟨s, tp, tl, o, h1, h2, rfl, hts⟩
  cases hts
  have hn := o.nh
  have hl := o.len
  refine st_setf 0 rfl (ev_call (Fz 1) (hr.mono (by decide)) (ea_cons (ev_var 1 rfl) ea_nil) ⟨_, _, h1, rfl, rfl⟩) g.cls g.f0 ?_
  refine st_expr (ep_call Pg (hr.mono (by decide)) (ea_cons (ev_sfld 0 0 rfl (by decide) g.cls g.f0 rfl rfl) ea_nil) ⟨s, o, rfl, rfl⟩) ?_
  refine st_set 3 nd (ev_call (Fz 2) hr (ea_cons (ev_var 2 rfl) ea_nil) ⟨_, _, h2, rfl, rfl⟩) ?_
  refine st_expr (ep_call Ln (hr.mono (by decide)) (ea_cons (ev_lenM ((ev_sfld 0 0 rfl (by decide) g.cls g.f0 rfl rfl).q rfl) b.len) (ea_cons (ev_var 3 rfl) ea_nil)) ⟨s, o, rfl, rfl⟩) ?_
  refine st_setf 0 rfl (ev_call As (hr.mono (by decide)) (ea_cons (ev_var 3 rfl) ea_nil) ⟨s.lanes, o.asc, fun p hp => by have := o.lt p hp; omega, hl, rfl, rfl⟩) g.cls g.f1 ?_
  refine st_set 4 nd (ev_rng (ev_lenM ((ev_sfld 0 0 rfl (by decide) g.cls g.f0 rfl rfl).q rfl) b.len) b.range) ?_
  let R : List Str → List T → Option Sl → Option Sl → Option Sl → Rho := fun fs ts a b c => [some (.oi y CS fs ts), some (.im tp), some (.im tl), some (.im (.tup (s.lanes.map eP))), some (.im (.rng 0 s.nH)), a, b, c]
  have hrg : rgT 0 ((s.nH : Int) - 0).toNat = (List.range s.nH).map eN := by rw [show ((s.nH : Int) - 0).toNat = s.nH by omega, rgT_nat]
  refine st_setf 0 rfl (ev_tupM (enc := eN) (g := fun h => eNs (s.toL h)) (rx := fun h => R ["pegs", "lanes"] [eNs s.pegs, .tup (s.lanes.map eP)] (some (.im (eN h))) none none) b.tuple rfl nd (EI.to (ei_rg (ev_var 4 rfl) (by have : s.pegs.length ≤ 12 := hn; omega)) hrg) (show BlkOk ["self", "pegs", "lanes", "pairs", "houses", "house", "a", "b"] (defScope (inC 28 1)) _ [("house", 5)] from blkOk_by (by decide +kernel)) (by simp) (fun s H C cl fp => gt_name 5 nd) (fun n _ => rfl)
    (fun h hh _ H' C' cl fp => EV.to (ev_tupC (xs := s.lanes) (enc := eP) (pp := fun p => decide (p.1 = h)) (g := fun p => eN p.2) (rx := fun p => R ["pegs", "lanes"] [eNs s.pegs, .tup (s.lanes.map eP)] (some (.im (eN h))) (some (.im (eN p.1))) (some (.im (eN p.2)))) b.tuple rfl nd (ei_tup (ev_sfld 0 1 rfl (by decide) g.cls g.f1 rfl rfl)) (show BlkOk ["self", "pegs", "lanes", "pairs", "houses", "house", "a", "b"] _ _ [("a", 6), ("b", 7)] from blkOk_by (by kernel_rfl)) (by simp) (fun s H C cl fp => gt_tup2 rfl (gt_name 6 nd) (gt_name 7 nd)) (fun n _ => ⟨_, _, _, rfl, rfl, rfl⟩)
      (fun p hp _ H' C' cl fp => ets_one (et_eqN (ev_var 6 rfl) (ev_var 5 rfl))) (fun p hp _ _ H' C' cl fp => ev_var 7 rfl) (by omega)) (by simp [Sd.toL, List.map_map])) (by simpa using by omega)) g.cls g.f2 ?_
  refine st_setf 0 rfl (ev_tupM (enc := eN) (g := fun h => eNs (s.frL h)) (rx := fun h => R ["pegs", "lanes", "to_lists"] [eNs s.pegs, .tup (s.lanes.map eP), .tup ((List.range s.nH).map fun a => eNs (s.toL a))] (some (.im (eN h))) none none) b.tuple rfl nd (EI.to (ei_rg (ev_var 4 rfl) (by have : s.pegs.length ≤ 12 := hn; omega)) hrg) (show BlkOk ["self", "pegs", "lanes", "pairs", "houses", "house", "a", "b"] (defScope (inC 28 1)) _ [("house", 5)] from blkOk_by (by decide +kernel)) (by simp) (fun s H C cl fp => gt_name 5 nd) (fun n _ => rfl)
    (fun h hh _ H' C' cl fp => EV.to (ev_tupC (xs := s.lanes) (enc := eP) (pp := fun p => decide (p.2 = h)) (g := fun p => eN p.1) (rx := fun p => R ["pegs", "lanes", "to_lists"] [eNs s.pegs, .tup (s.lanes.map eP), .tup ((List.range s.nH).map fun a => eNs (s.toL a))] (some (.im (eN h))) (some (.im (eN p.1))) (some (.im (eN p.2)))) b.tuple rfl nd (ei_tup (ev_sfld 0 1 rfl (by decide) g.cls g.f1 rfl rfl)) (show BlkOk ["self", "pegs", "lanes", "pairs", "houses", "house", "a", "b"] _ _ [("a", 6), ("b", 7)] from blkOk_by (by kernel_rfl)) (by simp) (fun s H C cl fp => gt_tup2 rfl (gt_name 6 nd) (gt_name 7 nd)) (fun n _ => ⟨_, _, _, rfl, rfl, rfl⟩)
      (fun p hp _ H' C' cl fp => ets_one (et_eqN (ev_var 7 rfl) (ev_var 5 rfl))) (fun p hp _ _ H' C' cl fp => ev_var 6 rfl) (by omega)) (by simp [Sd.frL, List.map_map])) (by simpa using by omega)) g.cls g.f3 ?_
  exact st_nil rfl
theorem ok_houses (b : Bi mg) (g : IsSt K CS) {pa f : Addr} {fd : FuncData} (F : Fun K "houses" "Street.houses" (inC 28 2) f fd) (hP : PropOf K CS "houses" pa f) (hb : Binds K fd ["self"] []) : PrpOk P w K mg base CS "houses" 1 (SHouses CS) := by
  refine ⟨pa, f, fd, fn_T (N := ["self"]) F ⟨rfl, rfl, rfl, by decide +kernel, rfl, by decide +kernel, by decide +kernel⟩ (fun _ _ ⟨s, e, _⟩ => by rw [e]; rfl) ?_, hP, hb⟩
  rintro cdv A outer st H E hr _ _ ⟨s, rfl, rfl⟩
  exact st_ret (ev_lenM ((f_pegs g (ev_var 0 rfl)).q rfl) b.len) rfl
end
end TL

/-! the program's defs, part g: standings -/
namespace TL
open PySem L2 PySem.Spec PyProof.Rows
theorem cut_from {ts : List T} {k : Nat} : cut ts (some (k : Int)) none = ts.drop k := by
  unfold cut
  rw [HT.sIx_nat, HT.sIx_none, List.take_of_length_le (by rw [List.length_drop]; exact Nat.le_refl _)]
  rcases Nat.le_total k ts.length with h | h
  · rw [Nat.min_eq_left h]
  · rw [Nat.min_eq_right h, List.drop_length, List.drop_eq_nil_of_le h]
theorem cut_to {ts : List T} {k : Nat} : cut ts none (some (k : Int)) = ts.take k := by
  unfold cut
  rw [HT.sIx_nat, HT.sIx_none, List.drop_zero, Nat.sub_zero]
  rcases Nat.le_total k ts.length with h | h
  · rw [Nat.min_eq_left h]
  · rw [Nat.min_eq_right h, List.take_length, List.take_of_length_le h]
theorem cut_mid {ts : List T} {i j : Nat} (h : i ≤ ts.length) (h2 : j ≤ ts.length) : cut ts (some (i : Int)) (some (j : Int)) = (ts.drop i).take (j - i) := by
  unfold cut
  rw [HT.sIx_nat, HT.sIx_nat, Nat.min_eq_left h, Nat.min_eq_left h2]
theorem sIx_neg1 {n d : Nat} : HT.sIx n d (some (-1 : Int)) = n - 1 := by
  show (if (-1 : Int) < 0 then ((-1 : Int) + (n : Int)).toNat else min (-1 : Int).toNat n) = n - 1
  rw [if_pos (by decide)]
  omega
theorem cut_last {ts : List T} : cut ts none (some (-1 : Int)) = ts.dropLast := by
  unfold cut
  rw [sIx_neg1, HT.sIx_none, List.drop_zero, Nat.sub_zero, List.dropLast_eq_take]
/-- the steps of a way -/
def Steps (s : Sd) (w : List Nat) : Prop := ∀ i, i + 1 < w.length → (w.getD i 0, w.getD (i + 1) 0) ∈ s.lanes
structure OkWay (s : Sd) (w : List Nat) : Prop where
  ne : w ≠ []
  lt : ∀ h ∈ w, h < s.nH
  st : Steps s w
  len : w.length ≤ 100
theorem mem_toL {s : Sd} {a b : Nat} : b ∈ s.toL a ↔ (a, b) ∈ s.lanes := by
  unfold Sd.toL
  rw [List.mem_map]
  constructor
  · rintro ⟨p, hp, rfl⟩
    obtain ⟨h1, h2⟩ := List.mem_filter.mp hp
    rw [← of_decide_eq_true h2]
    exact h1
  · intro h
    exact ⟨(a, b), List.mem_filter.mpr ⟨h, decide_eq_true rfl⟩, rfl⟩
theorem zp_way (w : List Nat) : zpT (w.map eN) ((w.map eN).drop 1) = (List.range (w.length - 1)).map fun i => .tup [eN (w.getD i 0), eN (w.getD (i + 1) 0)] := by
  refine List.ext_getElem? fun i => ?_
  by_cases h : i < w.length - 1
  · rw [zpT_get (getD_map (d := 0) (by omega)) (by rw [List.getElem?_drop]; exact getD_map (d := 0) (j := 1 + i) (by omega)), List.getElem?_map, List.getElem?_range h, Nat.add_comm 1 i]
    rfl
  · rw [List.getElem?_eq_none (by rw [zpT_len, List.length_map, List.length_drop, List.length_map]; omega), List.getElem?_eq_none (by simpa using by omega)]
/-- a sound standing -/
structure Sound (s : Sd) : Prop where
  st : OkSt s
  nt : s.nT ≤ 20
  ways : ∀ w ∈ s.ways, OkWay s w
  load : ∀ h < s.nH, (s.hungAt h).length ≤ s.peg h
theorem Sound.okay {s : Sd} (o : Sound s) : Okay s := ⟨o.st.nh, o.nt, fun w h => (o.ways w h).ne, fun w h => (o.ways w h).lt⟩
theorem map_nat {l : List Nat} : T.tup (l.map eN) = .tup ((l.map fun n : Nat => (n : Int)).map .int) := by rw [List.map_map]; rfl
section
variable {P : Program} {w : World} {K : PySem.W.Frag} {mg : Str → Option Value} {base : Heap}
variable {C CS : Addr} {k : Nat}
def SIsWay (CS : Addr) : List Sl → (T → Prop) → Prop := fun ss Po => ∃ (s : Sd) (w : List Nat) (t : T), s.nH ≤ 100 ∧ OkWay s w ∧ FzR 1 t (eNs w) ∧ ss = [.im (tStreet CS s), .im t] ∧ Po = (· = .bl true)
theorem ok_isWay (b : Bi mg) (g : IsSt K CS) (Hs : PrpOk P w K mg base CS "houses" 1 (SHouses CS)) (Fz : ∀ d, DefOk P w K mg base "frozen" (d + 1) ["value"] (SFz d)) (D : DefAt K mg "is_way" (top 29) ["street", "value"]) : DefOk P w K mg base "is_way" 3 ["street", "value"] (SIsWay CS) := by
  have nd : (["street", "value", "way", "a", "b"] : List Str).Nodup := by decide +kernel
  refine D.ok (N := ["street", "value", "way", "a", "b"]) ⟨rfl, rfl, rfl, nd, rfl, by decide +kernel, by decide +kernel⟩ (fun _ _ ⟨s, _, _, _, _, _, e, _⟩ => by rw [e]; rfl) ?_
  rintro f cdv A outer st H E hr _ _ ⟨s, v, t, hs, o, hz, rfl, rfl⟩
  have hne := List.length_pos_iff.mpr o.ne
  have hlen := o.len
  refine st_set 2 nd (ev_call (Fz 1) hr (ea_cons (ev_var 1 rfl) ea_nil) ⟨_, _, hz, rfl, rfl⟩) ?_
  refine st_ifR (k := false) (ET.to (et_eqN (m := 0) (ev_lenM ((ev_var 2 rfl).q rfl) b.len) ev_nat) (decide_eq_false (by omega))) (fun z => by cases z) fun _ => ?_
  have hne' : (v.map fun n : Nat => (n : Int)) ≠ [] := by simpa using o.ne
  have hmem : ∀ n ∈ (v.map fun n : Nat => (n : Int)), ∃ k : Nat, n = k ∧ k < s.nH := by
    intro n hn
    obtain ⟨k, hk, rfl⟩ := List.mem_map.mp hn
    exact ⟨k, rfl, o.lt k hk⟩
  refine st_ifR (k := false) (EW.et (ew_or (k1 := false) (k2 := false) (et_ltP (ep_minT (EV.to (ev_var 2 rfl) map_nat) hne' rfl hr.units b.min) ev_int fun t ⟨n, hn, e⟩ => ⟨n, e, ?_⟩) fun _ => ew_or1 (et_geP (j := (s.nH : Int)) (ep_maxT (EV.to (ev_var 2 rfl) map_nat) hne' rfl hr.units b.max) (EP.v (ep_prop Hs hr g.cls (ev_var 0 rfl) ⟨s, rfl, rfl⟩)) fun t ⟨n, hn, e⟩ => ⟨n, e, ?_⟩))) (fun z => by cases z) fun _ => ?_
  · obtain ⟨k, rfl, _⟩ := hmem n hn
    exact decide_eq_false (by omega)
  · obtain ⟨k, rfl, h⟩ := hmem n hn
    exact decide_eq_false (by omega)
  have hall : ((List.range (v.length - 1)).map fun i => decide (v.getD (i + 1) 0 ∈ s.toL (v.getD i 0))).all id = true := by
    rw [List.all_map, List.all_eq_true]
    intro i hi
    have := List.mem_range.mp hi
    exact decide_eq_true (mem_toL.mpr (o.st i (by omega)))
  refine st_ret (EV.to (ev_all (bs := (List.range (v.length - 1)).map fun i => decide (v.getD (i + 1) 0 ∈ s.toL (v.getD i 0))) (EL.o (EL.to (el_map (enc := fun i => .tup [eN (v.getD i 0), eN (v.getD (i + 1) 0)]) (g := fun i => .bl (decide (v.getD (i + 1) 0 ∈ s.toL (v.getD i 0)))) (rx := fun i => [some (.im (tStreet CS s)), some (.im t), some (.im (eNs v)), some (.im (eN (v.getD i 0))), some (.im (eN (v.getD (i + 1) 0)))]) rfl nd
    (EI.to (ei_zipT (ev_var 2 rfl) (ev_slice (ev_var 2 rfl) (ept_some ev_int) ept_none ?_) b.zip) ((congrArg _ (cut_from (k := 1))).trans (zp_way v))) (show BlkOk ["street", "value", "way", "a", "b"] (defScope (top 29)) _ [("a", 3), ("b", 4)] from blkOk_by (by decide +kernel)) (by simp) (fun s H C cl fp => gt_tup2 rfl (gt_name 3 nd) (gt_name 4 nd)) (fun n _ => ⟨_, _, _, rfl, rfl, rfl⟩)
    (fun i hi _ H' C' cl fp => ?_) (by simpa using by omega)) (by rw [List.map_map]; rfl))) rfl b.all) (by rw [hall])) rfl
  · rintro ⟨h1, _⟩
    have e1 : HT.sIx (v.map eN).length 0 (some 1) = min 1 (v.map eN).length := HT.sIx_nat _ _ 1
    rw [e1, List.length_map] at h1
    omega
  · have hi' := List.mem_range.mp hi
    exact ev_inN (ev_var 4 rfl) (EV.q (ev_tab (f_to g (ev_var 0 rfl)) (ev_var 3 rfl) (o.lt _ (getD_mem (by omega)))) rfl)
def SChecked (CS : Addr) : List Sl → (T → Prop) → Prop := fun ss Po => ∃ (s : Sd) (t : T), Sound s ∧ FzR 2 t (.tup (s.ways.map eNs)) ∧ ss = [.im (tStreet CS s), .im t] ∧ Po = (· = .tup (s.ways.map eNs))
theorem ok_checked (b : Bi mg) (Fz : ∀ d, DefOk P w K mg base "frozen" (d + 1) ["value"] (SFz d)) (W : DefOk P w K mg base "is_way" 3 ["street", "value"] (SIsWay CS)) (D : DefAt K mg "checked_ways" (top 31) ["street", "ways"]) : DefOk P w K mg base "checked_ways" 4 ["street", "ways"] (SChecked CS) := by
  have nd : (["street", "ways", "kept", "tool", "way"] : List Str).Nodup := by decide +kernel
  refine D.ok (N := ["street", "ways", "kept", "tool", "way"]) ⟨rfl, rfl, rfl, nd, rfl, by decide +kernel, by decide +kernel⟩ (fun _ _ ⟨s, _, _, _, e, _⟩ => by rw [e]; rfl) ?_
  rintro f cdv A outer st H E hr _ _ ⟨s, t, o, hz, rfl, rfl⟩
  have hn := o.st.nh
  refine st_set 2 nd (ev_call (Fz 2) hr (ea_cons (ev_var 1 rfl) ea_nil) ⟨_, _, hz, rfl, rfl⟩) ?_
  refine st_for (fun k r => ∃ x y, r = [some (.im (tStreet CS s)), some (.im t), some (.im (.tup (s.ways.map eNs))), x, y]) (EI.to (ei_enumT (ev_var 2 rfl) b.enum) (enT_range [] s.ways)) (gt_tup2 rfl (gt_name 3 nd) (gt_name 4 nd)) ⟨none, none, rfl⟩ ?_ ?_
  · rintro k t' r1 ht' ⟨x, y, rfl⟩
    obtain ⟨h, hy, rfl, hk⟩ := forM ht'
    obtain ⟨rfl, hk⟩ := rangeM hy
    have ow := o.ways _ (getD_mem (d := []) hk)
    refine ⟨_, ⟨_, _, _, rfl, rfl, rfl⟩, ?_⟩
    refine st_ifR (k := false) (et_not (k := true) (et_val (ev_call W hr (ea_cons (ev_var 0 rfl) (ea_cons (ev_var 4 rfl) ea_nil)) ⟨s, _, _, by omega, ow, .tup (fun _ _ => .nat) (by have := ow.len; omega), rfl, rfl⟩))) (fun z => by cases z) fun _ => st_nil ⟨_, _, rfl⟩
  · rintro r1 ⟨x, y, rfl⟩
    exact st_ret (ev_var 2 rfl) rfl
theorem eqS_eO {o : Option Nat} {n : Nat} : (eO o).eqS (eN n) = some (decide (o = some n)) := by
  cases o with
  | none => rfl
  | some k => simp [eO, T.eqS, Int.ofNat_inj]
def SHang (CS : Addr) : List Sl → (T → Prop) → Prop := fun ss Po => ∃ (s : Sd), Okay s ∧ ss = [.im (tStreet CS s), .im (.tup (s.ways.map eNs))] ∧ Po = (· = .tup ((List.range s.nH).map fun h => eNs (s.hungAt h)))
theorem ok_hang (b : Bi mg) (g : IsSt K CS) (Hs : PrpOk P w K mg base CS "houses" 1 (SHouses CS)) (D : DefAt K mg "hanging" (top 32) ["street", "ways"]) : DefOk P w K mg base "hanging" 3 ["street", "ways"] (SHang CS) := by
  have nd : (["street", "ways", "holders", "way", "tool", "holder", "house"] : List Str).Nodup := by decide +kernel
  refine D.ok (N := ["street", "ways", "holders", "way", "tool", "holder", "house"]) ⟨rfl, rfl, rfl, nd, rfl, by decide +kernel, by decide +kernel⟩ (fun _ _ ⟨s, _, e, _⟩ => by rw [e]; rfl) ?_
  rintro f cdv A outer st H E hr _ _ ⟨s, o, rfl, rfl⟩
  have hn := o.nh
  have ht : s.ways.length ≤ 20 := o.nt
  let R : Option Sl → Option Sl → Option Sl → Option Sl → Option Sl → Rho := fun h a b c d => [some (.im (tStreet CS s)), some (.im (.tup (s.ways.map eNs))), h, a, b, c, d]
  refine st_set 2 nd (EL.v (el_map (xs := s.ways) (enc := eNs) (g := fun v => eO (holder v)) (rx := fun v => R none (some (.im (eNs v))) none none none) rfl nd (ei_tup (ev_var 1 rfl)) (show BlkOk ["street", "ways", "holders", "way", "tool", "holder", "house"] (defScope (top 32)) _ [("way", 3)] from blkOk_by (by decide +kernel)) (by simp) (fun s H C cl fp => gt_name 3 nd) (fun n _ => rfl)
    (fun v hv _ H' C' cl fp => ev_if (k := decide (1 < v.length)) (et_gtN (m := 1) (ev_lenM (EV.q (ev_var 3 rfl) rfl) b.len) ev_nat) (fun z => EV.to (ev_last (d := 0) (EV.q (ev_var 3 rfl) rfl) (Nat.le_of_lt (of_decide_eq_true z))) ?_) (fun z => EV.to ev_non ?_)) (by omega))) ?_
  · unfold holder
    rw [if_pos (of_decide_eq_true z)]; rfl
  · unfold holder
    rw [if_neg (of_decide_eq_false z)]; rfl
  let H2 : Sl := .im (.lst (s.ways.map fun v => eO (holder v)))
  refine st_ret (ev_tupM (enc := eN) (g := fun h => eNs (s.hungAt h)) (rx := fun h => R (some H2) none none none (some (.im (eN h)))) b.tuple rfl nd (ei_rangeN (EP.v (ep_prop Hs hr g.cls (ev_var 0 rfl) ⟨s, rfl, rfl⟩)) (by omega) b.range) (show BlkOk ["street", "ways", "holders", "way", "tool", "holder", "house"] (defScope (top 32)) _ [("house", 6)] from blkOk_by (by decide +kernel)) (by simp) (fun s H C cl fp => gt_name 6 nd) (fun n _ => rfl)
    (fun h hh _ H' C' cl fp => EV.to (ev_tupC (xs := List.range s.ways.length) (enc := fun i => .tup [eN i, eO (holder (s.ways.getD i []))]) (pp := fun i => decide (holder (s.ways.getD i []) = some h)) (g := eN) (rx := fun i => R (some H2) none (some (.im (eN i))) (some (.im (eO (holder (s.ways.getD i []))))) (some (.im (eN h)))) b.tuple rfl nd (EI.to (ei_enumL (ev_var 2 rfl) b.enum) (enT_range [] s.ways)) (show BlkOk ["street", "ways", "holders", "way", "tool", "holder", "house"] _ _ [("tool", 4), ("holder", 5)] from blkOk_by (by kernel_rfl)) (by simp) (fun s H C cl fp => gt_tup2 rfl (gt_name 4 nd) (gt_name 5 nd)) (fun n _ => ⟨_, _, _, rfl, rfl, rfl⟩)
      (fun p hp _ H' C' cl fp => ets_one (et_eq (ev_var 5 rfl) (ev_var 6 rfl) eqS_eO)) (fun p hp _ _ H' C' cl fp => ev_var 4 rfl) (by simpa using by omega)) rfl) (by simpa using by omega)) rfl
def SLoads (CS : Addr) : List Sl → (T → Prop) → Prop := fun ss Po => ∃ (s : Sd), Sound s ∧ ss = [.im (tStreet CS s), .im (.tup ((List.range s.nH).map fun h => eNs (s.hungAt h)))] ∧ Po = (· = .non)
theorem getD_range {n i : Nat} (h : i < n) : (List.range n).getD i 0 = i := by rw [List.getD_eq_getElem?_getD, List.getElem?_range h]; rfl
theorem ok_loads (b : Bi mg) (g : IsSt K CS) (D : DefAt K mg "check_loads" (top 33) ["street", "hung"]) : DefOk P w K mg base "check_loads" 1 ["street", "hung"] (SLoads CS) := by
  have nd : (["street", "hung", "house", "tools"] : List Str).Nodup := by decide +kernel
  refine D.ok (N := ["street", "hung", "house", "tools"]) ⟨rfl, rfl, rfl, nd, rfl, by decide +kernel, by decide +kernel⟩ (fun _ _ ⟨s, _, e, _⟩ => by rw [e]; rfl) ?_
  rintro f cdv A outer st H E hr _ _ ⟨s, o, rfl, rfl⟩
  refine st_for (fun k r => ∃ x y, r = [some (.im (tStreet CS s)), some (.im (.tup ((List.range s.nH).map fun h => eNs (s.hungAt h)))), x, y]) (EI.to (ei_enumT (ev_var 1 rfl) b.enum) (enT_range 0 (List.range s.nH))) (gt_tup2 rfl (gt_name 2 nd) (gt_name 3 nd)) ⟨none, none, rfl⟩ ?_ ?_
  · rintro k t' r1 ht' ⟨x, y, rfl⟩
    obtain ⟨h, hy, rfl, hk⟩ := forM ht'
    obtain ⟨rfl, hk⟩ := rangeM hy
    rw [List.length_range] at hk
    have hl := o.load h hk
    refine ⟨_, ⟨_, _, _, rfl, rfl, rfl⟩, ?_⟩
    refine st_ifR (k := false) (ET.to (et_gtN (ev_lenM ((ev_var 3 rfl).q rfl) b.len) (ev_at (d := 0) ((f_pegs g (ev_var 0 rfl)).q rfl) (ev_var 2 rfl) hk)) (decide_eq_false ?_)) (fun z => by cases z) fun _ => st_nil ⟨_, _, rfl⟩
    rw [getD_range hk]
    exact Nat.not_lt.mpr hl
  · rintro r1 ⟨x, y, rfl⟩
    exact st_nil rfl
end
end TL

/-! the program's defs, part h: making a standing, the deeds -/
namespace TL
open PySem L2 PySem.Spec PyProof.Rows
inductive Deed where
  | lend (t h : Nat)
  | back (t : Nat)
def eD : Deed → T
  | .lend t h => .tup [.str "lend", eN t, eN h]
  | .back t => .tup [.str "back", eN t]
def Sd.upd (s : Sd) (t : Nat) (w : List Nat) : Sd := { s with ways := s.ways.set t w }
def Sd.after (s : Sd) : Deed → Sd
  | .lend t h => s.upd t (s.way t ++ [h])
  | .back t => s.upd t (s.way t).dropLast
def CanDo (s : Sd) : Deed → Prop
  | .lend t h => t < s.nT ∧ h < s.nH ∧ ((s.way t).getD ((s.way t).length - 1) 0, h) ∈ s.lanes ∧ s.full h = false
  | .back t => t < s.nT ∧ s.canBack t = true
theorem set_range {α : Type} {d : α} {xs : List α} {t : Nat} {w : α} {f : α → T} : (xs.set t w).map f = (List.range xs.length).map fun i => f (if i = t then w else xs.getD i d) := by
  refine List.ext_getElem? fun i => ?_
  by_cases h : i < xs.length
  · rw [List.getElem?_map, List.getElem?_map, List.getElem?_range h, List.getElem?_set]
    by_cases c : t = i
    · subst c; rw [if_pos rfl, if_pos h]; simp
    · rw [if_neg c, List.getElem?_eq_getElem h]
      have : ¬ i = t := fun e => c e.symm
      simp [this, List.getD_eq_getElem?_getD, List.getElem?_eq_getElem h]
  · rw [List.getElem?_eq_none (by simpa using h), List.getElem?_eq_none (by simpa using h)]
theorem Okay.upd {s : Sd} (o : Okay s) {t : Nat} {w : List Nat} (h1 : w ≠ []) (h2 : ∀ h ∈ w, h < s.nH) : Okay (s.upd t w) := by
  refine ⟨o.nh, ?_, fun v hv => ?_, fun v hv => ?_⟩
  · show (s.ways.set t w).length ≤ 20
    rw [List.length_set]; exact o.nt
  · rcases List.mem_or_eq_of_mem_set hv with h | rfl
    · exact o.ne v h
    · exact h1
  · rcases List.mem_or_eq_of_mem_set hv with h | rfl
    · exact o.lt v h
    · exact h2
theorem tStreet_upd {CS : Addr} {s : Sd} {t : Nat} {w : List Nat} : tStreet CS (s.upd t w) = tStreet CS s := rfl
section
variable {P : Program} {w : World} {K : PySem.W.Frag} {mg : Str → Option Value} {base : Heap}
variable {C CS : Addr} {k : Nat}
def SStand (C CS : Addr) : List T → List T → Prop := fun ss ts => ∃ s : Sd, ((∃ t, Sound s ∧ FzR 2 t (.tup (s.ways.map eNs)) ∧ ss = [tStreet CS s, t, .bl false]) ∨ (Okay s ∧ ss = [tStreet CS s, .lst (s.ways.map eNs), .bl true])) ∧ .ins C fsSg ts = tStand C CS s
theorem ok_stand {f : Addr} {fd : FuncData} {kws : List (Str × V)} (b : Bi mg) (g : IsSg K C) (Ch : DefOk P w K mg base "checked_ways" 4 ["street", "ways"] (SChecked CS)) (Hg : DefOk P w K mg base "hanging" 3 ["street", "ways"] (SHang CS)) (Ld : DefOk P w K mg base "check_loads" 1 ["street", "hung"] (SLoads CS))
    (F : FunD K "__init__" "Standing.__init__" (defArgs (inC 34 0)) (defBody (inC 34 0)) (defScope (inC 34 0)) [] kws f fd) : FnOk P w K mg base CX0 5 f fd ["self", "street", "ways", "sure"] (spI K C fsSg (SStand C CS)) := by
  have nd : (["self", "street", "ways", "sure", "way"] : List Str).Nodup := by decide +kernel
  refine fn_ID (N := ["self", "street", "ways", "sure", "way"]) F ⟨rfl, rfl, rfl, nd, rfl, by decide +kernel, by decide +kernel⟩ (fun _ _ ⟨s, h, _⟩ => by rcases h with ⟨_, _, _, e⟩ | ⟨_, e⟩ <;> rw [e] <;> rfl) ?_
  rintro cdv A outer st H E hr y ss ts ⟨s, h, hts⟩
  cases hts
  have o : Okay s := by
    rcases h with ⟨_, o, _⟩ | ⟨o, _⟩
    · exact o.okay
    · exact o
  obtain ⟨sure, t, rfl, hw⟩ : ∃ (sure : Bool) (t : T), ss = [tStreet CS s, t, .bl sure] ∧ ((sure = true ∧ t = .lst (s.ways.map eNs)) ∨ (sure = false ∧ Sound s ∧ FzR 2 t (.tup (s.ways.map eNs)))) := by
    rcases h with ⟨t, o, hz, rfl⟩ | ⟨o, rfl⟩
    · exact ⟨false, t, rfl, .inr ⟨rfl, o, hz⟩⟩
    · exact ⟨true, _, rfl, .inl ⟨rfl, rfl⟩⟩
  have hn := o.nh
  have ht : s.ways.length ≤ 20 := o.nt
  refine st_setf 0 rfl (ev_var 1 rfl) g.cls g.f0 ?_
  refine st_setf 0 rfl (ev_if (k := sure) (t := .tup (s.ways.map eNs)) (et_val (ev_var 3 rfl)) (fun z => ?_) (fun z => ?_)) g.cls g.f1 ?_
  · rcases hw with ⟨_, rfl⟩ | ⟨rfl, _⟩
    · exact ev_tupL (ev_var 2 rfl).o b.tuple
    · cases z
  · rcases hw with ⟨rfl, _⟩ | ⟨_, o, hz⟩
    · cases z
    · exact ev_call Ch hr (ea_cons (ev_var 1 rfl) (ea_cons (ev_var 2 rfl) ea_nil)) ⟨s, t, o, hz, rfl, rfl⟩
  refine st_setf 0 rfl (ev_call Hg (hr.mono (by decide)) (ea_cons (ev_var 1 rfl) (ea_cons (ev_sfld 0 1 rfl (by decide) g.cls g.f1 rfl rfl) ea_nil)) ⟨s, o, rfl, rfl⟩) g.cls g.f2 ?_
  let R : Option Sl → Rho := fun a => [some (.oi y C ["street", "ways", "hung"] [tStreet CS s, .tup (s.ways.map eNs), .tup ((List.range s.nH).map fun h => eNs (s.hungAt h))]), some (.im (tStreet CS s)), some (.im t), some (.im (.bl sure)), a]
  refine st_setf 0 rfl (EV.to (ev_tupM (xs := s.ways) (enc := eNs) (g := fun v => eO (wantOf v)) (rx := fun v => R (some (.im (eNs v)))) b.tuple rfl nd (ei_tup (ev_sfld 0 1 rfl (by decide) g.cls g.f1 rfl rfl)) (show BlkOk ["self", "street", "ways", "sure", "way"] (defScope (inC 34 0)) _ [("way", 4)] from blkOk_by (by decide +kernel)) (by simp) (fun s H C cl fp => gt_name 4 nd) (fun n _ => rfl)
    (fun v hv _ H' C' cl fp => ev_if (k := decide (2 < v.length)) (et_gtN (m := 2) (ev_lenM (EV.q (ev_var 4 rfl) rfl) b.len) ev_nat) (fun z => EV.to (ev_last2 (d := 0) (EV.q (ev_var 4 rfl) rfl) (Nat.le_of_lt (of_decide_eq_true z))) ?_) (fun z => EV.to ev_non ?_)) (by omega)) (t' := .tup ((List.range s.nT).map fun t => eO (s.want t))) ?_) g.cls g.f3 ?_
  · unfold wantOf
    rw [if_pos (of_decide_eq_true z)]; rfl
  · unfold wantOf
    rw [if_neg (of_decide_eq_false z)]; rfl
  · rw [map_range (d := []) s.ways]; rfl
  refine st_ifC (fun r' => r'[0]? = some (some (.oi y C fsSg [tStreet CS s, .tup (s.ways.map eNs), .tup ((List.range s.nH).map fun h => eNs (s.hungAt h)), .tup ((List.range s.nT).map fun t => eO (s.want t))]))) (et_not (et_val (ev_var 3 rfl))) (fun z => ?_) (fun z => st_nil rfl) (fun r' h => st_nil h)
  rcases hw with ⟨rfl, _⟩ | ⟨_, o, hz⟩
  · cases z
  · exact st_expr (ep_call Ld (hr.mono (by decide)) (ea_cons (ev_var 1 rfl) (ea_cons (ev_sfld 0 2 rfl (by decide) g.cls g.f2 rfl rfl) ea_nil)) ⟨s, o, rfl, rfl⟩) (st_nil rfl)

/-! ### deeds -/
def SBack (C CS : Addr) : List Sl → (T → Prop) → Prop := fun ss Po => ∃ (s : Sd) (t : Nat), Okay s ∧ t < s.nT ∧ 1 < (s.way t).length ∧ ss = [.im (tStand C CS s), .im (eN t)] ∧ Po = (· = tStand C CS (s.after (.back t)))
theorem ok_back (b : Bi mg) (g : IsSg K C) (M : ClsOkK P w K mg base "Standing" C 5 2 ["self", "street", "ways", "sure"] ["sure"] fsSg (SStand C CS)) (D : MetAt K C "given_back" "Standing.given_back" (inC 34 14) ["self", "tool"]) : MetOk P w K mg base C "given_back" 7 ["self", "tool"] (SBack C CS) := by
  have nd : (["self", "tool", "ways", "index", "way"] : List Str).Nodup := by decide +kernel
  refine D.ok (N := ["self", "tool", "ways", "index", "way"]) ⟨rfl, rfl, rfl, nd, rfl, by decide +kernel, by decide +kernel⟩ (fun _ _ ⟨s, h, _, _, _, e, _⟩ => by rw [e]; rfl) ?_
  rintro f cdv A outer st H E hr _ _ ⟨s, t, o, htn, hl, rfl, rfl⟩
  have ht : s.ways.length ≤ 20 := o.nt
  have o2 : Okay (s.after (.back t)) := o.upd (fun e => by have := congrArg List.length e; simp at this; omega) fun h hh => o.lt _ (o.way htn) h (List.dropLast_subset _ hh)
  refine st_lc (xs := List.range s.ways.length) (enc := fun i => .tup [eN i, eNs (s.ways.getD i [])]) (g := fun i => eNs (if i = t then (s.way t).dropLast else s.ways.getD i [])) (pp := fun _ => true) (rx := fun i => [some (.im (tStand C CS s)), some (.im (eN t)), none, some (.im (eN i)), some (.im (eNs (s.ways.getD i [])))]) 2 rfl nd (EI.to (ei_enumT (f_ways g (ev_var 0 rfl)) b.enum) (enT_range [] s.ways)) (show BlkOk ["self", "tool", "ways", "index", "way"] (defScope (inC 34 14)) _ [("index", 3), ("way", 4)] from blkOk_by (by decide +kernel)) (by simp) (fun s H C cl fp => gt_tup2 rfl (gt_name 3 nd) (gt_name 4 nd)) (fun n _ => ⟨_, _, _, rfl, rfl, rfl⟩)
    (fun i hi _ H' C' cl fp => ets_nil) (fun i hi _ _ H' C' cl fp => ev_if (k := decide (i = t)) (et_eqN (ev_var 3 rfl) (ev_var 1 rfl)) (fun z => ?_) (fun z => EV.to (ev_var 4 rfl) ?_)) (by simpa using by omega) ?_
  · have e := of_decide_eq_true z
    subst e
    refine EV.to (ev_slice (ev_var 4 rfl) ept_none (ept_some (ev_neg ev_int)) ?_) ?_
    · rintro ⟨_, h2⟩
      rw [sIx_neg1, List.length_map] at h2
      have : 1 < (s.ways.getD i []).length := hl
      omega
    · show T.tup (cut _ none (some (-1 : Int))) = _
      rw [cut_last, if_pos rfl]
      show T.tup (List.map eN (s.ways.getD i [])).dropLast = T.tup ((s.ways.getD i []).dropLast.map eN)
      rw [List.map_dropLast]
  · rw [if_neg (of_decide_eq_false z)]
  rw [List.filter_eq_self.mpr (fun _ _ => rfl), ← set_range (f := eNs)]
  exact st_ret (ev_makeK (ss := [tStreet CS s, .lst ((s.ways.set t (s.way t).dropLast).map eNs)]) M hr (ea_cons (f_street g (ev_var 0 rfl)) (ea_cons (ev_var 2 rfl) ea_nil)) ev_bl ⟨s.after (.back t), .inr ⟨o2, rfl⟩, rfl⟩ rfl rfl) rfl
def SLent (C CS : Addr) : List Sl → (T → Prop) → Prop := fun ss Po => ∃ (s : Sd) (t h : Nat), Okay s ∧ t < s.nT ∧ h < s.nH ∧ (s.way t).length < 1000 ∧ ss = [.im (tStand C CS s), .im (eN t), .im (eN h)] ∧ Po = (· = tStand C CS (s.after (.lend t h)))
theorem ok_lent (b : Bi mg) (g : IsSg K C) (M : ClsOkK P w K mg base "Standing" C 5 2 ["self", "street", "ways", "sure"] ["sure"] fsSg (SStand C CS)) (D : MetAt K C "lent" "Standing.lent" (inC 34 15) ["self", "tool", "house"]) : MetOk P w K mg base C "lent" 7 ["self", "tool", "house"] (SLent C CS) := by
  have nd : (["self", "tool", "house", "ways", "index", "way"] : List Str).Nodup := by decide +kernel
  refine D.ok (N := ["self", "tool", "house", "ways", "index", "way"]) ⟨rfl, rfl, rfl, nd, rfl, by decide +kernel, by decide +kernel⟩ (fun _ _ ⟨s, h, _, _, _, _, _, e, _⟩ => by rw [e]; rfl) ?_
  rintro f cdv A outer st H E hr _ _ ⟨s, t, h, o, htn, hh, hl, rfl, rfl⟩
  have ht : s.ways.length ≤ 20 := o.nt
  have o2 : Okay (s.after (.lend t h)) := o.upd (by simp) fun x hx => by
    rcases List.mem_append.mp hx with hx | hx
    · exact o.lt _ (o.way htn) x hx
    · rw [List.mem_singleton.mp hx]; exact hh
  refine st_lc (xs := List.range s.ways.length) (enc := fun i => .tup [eN i, eNs (s.ways.getD i [])]) (g := fun i => eNs (if i = t then s.way t ++ [h] else s.ways.getD i [])) (pp := fun _ => true) (rx := fun i => [some (.im (tStand C CS s)), some (.im (eN t)), some (.im (eN h)), none, some (.im (eN i)), some (.im (eNs (s.ways.getD i [])))]) 3 rfl nd (EI.to (ei_enumT (f_ways g (ev_var 0 rfl)) b.enum) (enT_range [] s.ways)) (show BlkOk ["self", "tool", "house", "ways", "index", "way"] (defScope (inC 34 15)) _ [("index", 4), ("way", 5)] from blkOk_by (by decide +kernel)) (by simp) (fun s H C cl fp => gt_tup2 rfl (gt_name 4 nd) (gt_name 5 nd)) (fun n _ => ⟨_, _, _, rfl, rfl, rfl⟩)
    (fun i hi _ H' C' cl fp => ets_nil) (fun i hi _ _ H' C' cl fp => ev_if (k := decide (i = t)) (et_eqN (ev_var 4 rfl) (ev_var 1 rfl)) (fun z => ?_) (fun z => EV.to (ev_var 5 rfl) ?_)) (by simpa using by omega) ?_
  · have e := of_decide_eq_true z
    subst e
    have h1 : 1 ≤ (s.ways.getD i []).length := o.len1 htn
    have h2 : (s.ways.getD i []).length < 1000 := hl
    refine EV.to (ev_catT (us := [eN h]) (ev_var 5 rfl) (ev_tup (ts := [eN h]) (ea_cons (ev_var 2 rfl) ea_nil) (by simp)) ?_ ?_) ?_
    · intro e
      have := congrArg List.length e
      rw [List.length_map] at this
      simp only [List.length_nil] at this
      omega
    · rw [List.length_map]
      simp only [List.length_singleton]
      omega
    · rw [if_pos rfl]
      show T.tup _ = T.tup _
      rw [List.map_append]
      rfl
  · rw [if_neg (of_decide_eq_false z)]
  rw [List.filter_eq_self.mpr (fun _ _ => rfl), ← set_range (f := eNs)]
  exact st_ret (ev_makeK (ss := [tStreet CS s, .lst ((s.ways.set t (s.way t ++ [h])).map eNs)]) M hr (ea_cons (f_street g (ev_var 0 rfl)) (ea_cons (ev_var 3 rfl) ea_nil)) ev_bl ⟨s.after (.lend t h), .inr ⟨o2, rfl⟩, rfl⟩ rfl rfl) rfl
def SDoLend (C CS : Addr) : List Sl → (T → Prop) → Prop := fun ss Po => ∃ (s : Sd) (t h : Nat), Okay s ∧ CanDo s (.lend t h) ∧ (s.way t).length < 1000 ∧ ss = [.im (tStand C CS s), .im (eN t), .im (eN h)] ∧ Po = (· = tStand C CS (s.after (.lend t h)))
theorem ok_doLend (b : Bi mg) (g : IsSg K C) (g2 : IsSt K CS) (F : MetOk P w K mg base C "is_full" 1 ["self", "house"] (SFull C CS)) (L : MetOk P w K mg base C "lent" 7 ["self", "tool", "house"] (SLent C CS)) (D : MetAt K C "after_lending" "Standing.after_lending" (inC 34 17) ["self", "tool", "house"]) : MetOk P w K mg base C "after_lending" 8 ["self", "tool", "house"] (SDoLend C CS) := by
  have nd : (["self", "tool", "house", "lender"] : List Str).Nodup := by decide +kernel
  refine D.ok (N := ["self", "tool", "house", "lender"]) ⟨rfl, rfl, rfl, nd, rfl, by decide +kernel, by decide +kernel⟩ (fun _ _ ⟨s, h, _, _, _, _, e, _⟩ => by rw [e]; rfl) ?_
  rintro f cdv A outer st H E hr _ _ ⟨s, t, h, o, ⟨htn, hh, hlane, hf⟩, hl, rfl, rfl⟩
  have h1 : 1 ≤ (s.ways.getD t []).length := o.len1 htn
  have hlane : ((s.ways.getD t []).getD ((s.ways.getD t []).length - 1) 0, h) ∈ s.lanes := hlane
  refine st_set 3 nd (ev_last (d := 0) (EV.q (ev_at (d := []) ((f_ways g (ev_var 0 rfl)).q rfl) (ev_var 1 rfl) htn) rfl) h1) ?_
  refine st_ifR (k := false) (ET.to (et_niN (ev_var 2 rfl) (EV.q (ev_tab (f_to g2 (f_street g (ev_var 0 rfl))) (ev_var 3 rfl) (o.lt _ (o.way htn) _ (getD_mem (Nat.sub_lt h1 Nat.one_pos)))) rfl)) (by rw [decide_eq_true (mem_toL.mpr hlane)]; rfl)) (fun z => by cases z) fun _ => ?_
  refine st_ifR (k := false) (ET.to (et_val (EP.v (ep_met F (hr.mono (by decide)) g.cls (ev_var 0 rfl) (by decide) (ea_cons (ev_var 2 rfl) ea_nil) ⟨s, h, hh, rfl, rfl⟩))) hf) (fun z => by cases z) fun _ => ?_
  exact st_ret (EP.v (ep_met L hr g.cls (ev_var 0 rfl) (by decide) (ea_cons (ev_var 1 rfl) (ea_cons (ev_var 2 rfl) ea_nil)) ⟨s, t, h, o, htn, hh, hl, rfl, rfl⟩)) rfl
def SDoBack (C CS : Addr) : List Sl → (T → Prop) → Prop := fun ss Po => ∃ (s : Sd) (t : Nat), Okay s ∧ CanDo s (.back t) ∧ ss = [.im (tStand C CS s), .im (eN t)] ∧ Po = (· = tStand C CS (s.after (.back t)))
theorem canBack_len {s : Sd} {t : Nat} (h : s.canBack t = true) : 1 < (s.way t).length := of_decide_eq_true (Bool.and_eq_true_iff.mp h).1
theorem ok_doBack (b : Bi mg) (g : IsSg K C) (F : MetOk P w K mg base C "can_return" 2 ["self", "tool"] (SCan C CS)) (L : MetOk P w K mg base C "given_back" 7 ["self", "tool"] (SBack C CS)) (D : MetAt K C "after_return" "Standing.after_return" (inC 34 18) ["self", "tool"]) : MetOk P w K mg base C "after_return" 8 ["self", "tool"] (SDoBack C CS) := by
  have nd : (["self", "tool"] : List Str).Nodup := by decide +kernel
  refine D.ok (N := ["self", "tool"]) ⟨rfl, rfl, rfl, nd, rfl, by decide +kernel, by decide +kernel⟩ (fun _ _ ⟨s, h, _, _, e, _⟩ => by rw [e]; rfl) ?_
  rintro f cdv A outer st H E hr _ _ ⟨s, t, o, ⟨htn, hc⟩, rfl, rfl⟩
  have h1 := canBack_len hc
  refine st_ifR (k := false) (ET.to (et_eqN (m := 1) (ev_lenM (EV.q (ev_at (d := []) ((f_ways g (ev_var 0 rfl)).q rfl) (ev_var 1 rfl) htn) rfl) b.len) ev_nat) (decide_eq_false (Nat.ne_of_gt h1))) (fun z => by cases z) fun _ => ?_
  refine st_ifR (k := false) (ET.to (et_not (et_val (EP.v (ep_met F (hr.mono (by decide)) g.cls (ev_var 0 rfl) (by decide) (ea_cons (ev_var 1 rfl) ea_nil) ⟨s, t, o, htn, rfl, rfl⟩)))) (by rw [hc]; rfl)) (fun z => by cases z) fun _ => ?_
  exact st_ret (EP.v (ep_met L hr g.cls (ev_var 0 rfl) (by decide) (ea_cons (ev_var 1 rfl) ea_nil) ⟨s, t, o, htn, h1, rfl, rfl⟩)) rfl
def SDeed (C CS : Addr) : List Sl → (T → Prop) → Prop := fun ss Po => ∃ (s : Sd) (d : Deed), Okay s ∧ CanDo s d ∧ (∀ t < s.nT, (s.way t).length < 1000) ∧ ss = [.im (tStand C CS s), .im (eD d)] ∧ Po = (· = tStand C CS (s.after d))
theorem fz_deed {d : Deed} : FzR 1 (eD d) (eD d) := by
  cases d with
  | lend t h => exact .inr ⟨[(.str "lend", .str "lend"), (eN t, eN t), (eN h, eN h)], .inl rfl, rfl, by simp, by simpa using ⟨FzR.base (d := 0) (.inr (.inr ⟨_, rfl⟩)), FzR.nat, FzR.nat⟩⟩
  | back t => exact .inr ⟨[(.str "back", .str "back"), (eN t, eN t)], .inl rfl, rfl, by simp, by simpa using ⟨FzR.base (d := 0) (.inr (.inr ⟨_, rfl⟩)), FzR.nat⟩⟩
theorem ok_shift (b : Bi mg) (g : IsSg K C) (Fz : ∀ d, DefOk P w K mg base "frozen" (d + 1) ["value"] (SFz d)) (L : MetOk P w K mg base C "after_lending" 8 ["self", "tool", "house"] (SDoLend C CS)) (B : MetOk P w K mg base C "after_return" 8 ["self", "tool"] (SDoBack C CS)) (D : MetAt K C (PySem.dunder "rshift") "Standing.__rshift__" (inC 34 19) ["self", "deed"]) : MetOk P w K mg base C (PySem.dunder "rshift") 9 ["self", "deed"] (SDeed C CS) := by
  have nd : (["self", "deed", "parts", "tool"] : List Str).Nodup := by decide +kernel
  refine D.ok (N := ["self", "deed", "parts", "tool"]) ⟨rfl, rfl, rfl, nd, rfl, by decide +kernel, by decide +kernel⟩ (fun _ _ ⟨s, h, _, _, _, e, _⟩ => by rw [e]; rfl) ?_
  rintro f cdv A outer st H E hr _ _ ⟨s, d, o, hd, hl, rfl, rfl⟩
  refine st_set 2 nd (ev_call (Fz 1) (hr.mono (by decide)) (ea_cons (ev_var 1 rfl) ea_nil) ⟨_, _, fz_deed, rfl, rfl⟩) ?_
  cases d with
  | lend t h =>
    have htn : t < s.ways.length := hd.1
    refine st_set 3 nd (ev_at' (j := 1) (t := eN t) ((ev_var 2 rfl).q rfl) ev_int rfl) ?_
    refine st_ifR (k := false) (EW.et (ew_or (k1 := false) (k2 := false) (ET.to (et_lt (ev_var 3 rfl) ev_int) (decide_eq_false (by omega))) fun _ => ew_or1 (ET.to (et_geN (ev_var 3 rfl) (ev_lenM ((f_ways g (ev_var 0 rfl)).q rfl) b.len)) (decide_eq_false (by omega))))) (fun z => by cases z) fun _ => ?_
    refine st_ifR (k := true) (ET.to (et_eq (ev_at' (j := 0) (t := .str "lend") ((ev_var 2 rfl).q rfl) ev_int rfl) ev_str rfl) (decide_eq_true rfl)) (fun _ => ?_) (fun z => by cases z)
    exact st_ret (EP.v (ep_met L hr g.cls (ev_var 0 rfl) (by decide) (ea_cons (ev_var 3 rfl) (ea_cons (ev_at' (j := 2) (t := eN h) ((ev_var 2 rfl).q rfl) ev_int rfl) ea_nil)) ⟨s, t, h, o, hd, hl t htn, rfl, rfl⟩)) rfl
  | back t =>
    have htn : t < s.ways.length := hd.1
    refine st_set 3 nd (ev_at' (j := 1) (t := eN t) ((ev_var 2 rfl).q rfl) ev_int rfl) ?_
    refine st_ifR (k := false) (EW.et (ew_or (k1 := false) (k2 := false) (ET.to (et_lt (ev_var 3 rfl) ev_int) (decide_eq_false (by omega))) fun _ => ew_or1 (ET.to (et_geN (ev_var 3 rfl) (ev_lenM ((f_ways g (ev_var 0 rfl)).q rfl) b.len)) (decide_eq_false (by omega))))) (fun z => by cases z) fun _ => ?_
    refine st_ifR (k := false) (ET.to (et_eq (ev_at' (j := 0) (t := .str "back") ((ev_var 2 rfl).q rfl) ev_int rfl) ev_str rfl) (decide_eq_false (by decide))) (fun z => by cases z) (fun _ => ?_)
    exact st_ret (EP.v (ep_met B hr g.cls (ev_var 0 rfl) (by decide) (ea_cons (ev_var 3 rfl) ea_nil) ⟨s, t, o, hd, rfl, rfl⟩)) rfl
theorem ok_after (g : IsSg K C) (hsf : PySem.W.selfFirst K C = true) (R : MetOk P w K mg base C (PySem.dunder "rshift") 9 ["self", "deed"] (SDeed C CS)) (D : DefAt K mg "after" (top 13) ["standing", "deed"]) : DefOk P w K mg base "after" 10 ["standing", "deed"] (SDeed C CS) := by
  have nd : (["standing", "deed"] : List Str).Nodup := by decide +kernel
  refine D.ok (N := ["standing", "deed"]) ⟨rfl, rfl, rfl, nd, rfl, by decide +kernel, by decide +kernel⟩ (fun _ _ ⟨s, h, _, _, _, e, _⟩ => by rw [e]; rfl) ?_
  rintro f cdv A outer st H E hr _ _ ⟨s, d, o, hd, hl, rfl, rfl⟩
  obtain ⟨us, hus⟩ : ∃ us, eD d = .tup us := by cases d <;> exact ⟨_, rfl⟩
  exact st_ret (EP.v (ep_shift R hr hsf (ev_var 0 rfl) (us := us) (ev_var 1 (by rw [hus]; rfl)) ⟨s, d, o, hd, hl, by rw [hus]; rfl, rfl⟩ fun t e => ⟨_, _, _, e⟩)) rfl
end
end TL

/-! the law's defs, part a -/
namespace TL
open PySem L2 PySem.Spec PyProof.Rows
abbrev tLs (s : Sd) : T := .lst [.lst (s.pegs.map eN), .lst (s.lanes.map eP)]
abbrev tLw (ws : List (List Nat)) : T := .lst (ws.map eNs)
def loadOf (ws : List (List Nat)) (h : Nat) : Nat := (ws.filter fun w => decide (holder w = some h)).length
theorem filter_range (ws : List (List Nat)) (p : List Nat → Bool) : ws.filter p = ((List.range ws.length).filter fun i => p (ws.getD i [])).map fun i => ws.getD i [] := by
  have e : ws = (List.range ws.length).map fun i => ws.getD i [] := by
    have := map_range (f := id) (d := ([] : List Nat)) ws
    rw [List.map_id] at this
    exact this
  conv => lhs; rw [e, List.filter_map]
  rfl
theorem hung_map {β : Type} (s : Sd) (h : Nat) (f : List Nat → β) : (s.ways.filter fun w => decide (holder w = some h)).map f = (s.hungAt h).map fun t => f (s.way t) := by
  rw [filter_range, List.map_map]; rfl
theorem loadOf_eq (s : Sd) (h : Nat) : loadOf s.ways h = (s.hungAt h).length := by
  have := congrArg List.length (hung_map s h id)
  simpa [loadOf] using this
theorem holds_iff (v : List Nat) (h : Nat) : (decide (1 < v.length) && decide (v.getD (v.length - 1) 0 = h)) = decide (holder v = some h) := by
  unfold holder
  by_cases c : 1 < v.length
  · rw [if_pos c, decide_eq_true c, Bool.true_and]
    congr 1
    simp
  · rw [if_neg c, decide_eq_false c, Bool.false_and]
    simp
theorem full_iff {s : Sd} (o : Sound s) {h : Nat} (hh : h < s.nH) : decide ((s.hungAt h).length = s.peg h) = s.full h := by
  have := o.load h hh
  unfold Sd.full
  congr 1
  exact propext ⟨fun e => by omega, fun e => by omega⟩
theorem less_iff {s : Sd} (o : Sound s) {h : Nat} (hh : h < s.nH) : decide (loadOf s.ways h < s.peg h) = !s.full h := by
  rw [loadOf_eq]
  unfold Sd.full
  rw [← decide_not]
  congr 1
  exact propext (by omega)
section
variable {P : Program} {w : World} {K : PySem.W.Frag} {mg : Str → Option Value} {base : Heap}
variable {C CS : Addr} {k : Nat}
def SLoad : List Sl → (T → Prop) → Prop := fun ss Po => ∃ (ws : List (List Nat)) (h : Nat), ws.length ≤ 10000 ∧ ss = [.ro (ws.map eNs), .im (eN h)] ∧ Po = (· = eN (loadOf ws h))
theorem ok_load (b : Bi mg) (D : DefAt K mg "_law_load" (top 50) ["_law_ways", "_law_house"]) : DefOk P w K mg base "_law_load" 1 ["_law_ways", "_law_house"] SLoad := by
  have nd : (["_law_ways", "_law_house", "_law_way"] : List Str).Nodup := by decide +kernel
  refine D.ok (N := ["_law_ways", "_law_house", "_law_way"]) ⟨rfl, rfl, rfl, nd, rfl, by decide +kernel, by decide +kernel⟩ (fun _ _ ⟨_, _, _, e, _⟩ => by rw [e]; rfl) ?_
  rintro f cdv A outer st H E hr _ _ ⟨ws, h, hl, rfl, rfl⟩
  refine st_ret (ev_lenN (n := loadOf ws h) (EL.q (el_comp (xs := ws) (enc := eNs) (p := fun v => decide (holder v = some h)) (g := eNs) (rx := fun v => [some (.ro (ws.map eNs)), some (.im (eN h)), some (.im (eNs v))]) rfl nd (ei_ro 0 rfl) (show BlkOk ["_law_ways", "_law_house", "_law_way"] (defScope (top 50)) _ [("_law_way", 2)] from blkOk_by (by decide +kernel)) (by simp) (fun s H C cl fp => gt_name 2 nd) (fun n _ => rfl)
    (fun v hv _ H' C' cl fp => ets_one (ET.to (EW.et (ew_and (et_gtN (m := 1) (ev_lenM (EV.q (ev_var 2 rfl) rfl) b.len) ev_nat) fun z => ew_and1 (et_eqN (ev_last (d := 0) (EV.q (ev_var 2 rfl) rfl) (Nat.le_of_lt (of_decide_eq_true z))) (ev_var 1 rfl)))) (holds_iff v h))) (fun v hv _ _ H' C' cl fp => ev_var 2 rfl) hl)) b.len (by simp [loadOf])) rfl
def nd1 (s : Sd) (h : Nat) : T := if s.full h then .lst ((s.hungAt h).map fun t => eO (s.want t)) else .non
abbrev tNeeds (s : Sd) : T := .lst ((List.range s.nH).map (nd1 s))
def SNeeds : List Sl → (T → Prop) → Prop := fun ss Po => ∃ (s : Sd), Sound s ∧ ss = [.im (tLs s), .im (tLw s.ways)] ∧ Po = (· = tNeeds s)
theorem ok_needs (b : Bi mg) (D : DefAt K mg "_law_needs" (top 57) ["_law_street", "_law_ways"]) : DefOk P w K mg base "_law_needs" 1 ["_law_street", "_law_ways"] SNeeds := by
  have nd : (["_law_street", "_law_ways", "_law_needs_here", "_law_house", "_law_wish", "_law_way"] : List Str).Nodup := by decide +kernel
  refine D.ok (N := ["_law_street", "_law_ways", "_law_needs_here", "_law_house", "_law_wish", "_law_way"]) ⟨rfl, rfl, rfl, nd, rfl, by decide +kernel, by decide +kernel⟩ (fun _ _ ⟨_, _, e, _⟩ => by rw [e]; rfl) ?_
  rintro f cdv A outer st H E hr _ _ ⟨s, o, rfl, rfl⟩
  have hn := o.st.nh
  have hn' : s.pegs.length ≤ 12 := hn
  have ht : s.ways.length ≤ 20 := o.nt
  refine st_setL 2 nd (el_lst (ts := []) ea_nil (by simp)) ?_
  refine st_for (fun k r => ∃ x y, r = [some (.im (tLs s)), some (.im (tLw s.ways)), some (.ow ((List.range k).map (nd1 s))), x, y, none]) (ei_rangeN (ev_lenM (EV.q (ev_at' (j := 0) (t := .lst (s.pegs.map eN)) ((ev_var 0 rfl).q rfl) ev_int rfl) rfl) b.len) (by omega) b.range) (gt_name 3 nd) ⟨none, none, rfl⟩ ?_ ?_
  · rintro k t' r1 ht' ⟨x, y, rfl⟩
    obtain ⟨h, hy, rfl, hk⟩ := forM ht'
    obtain ⟨rfl, hk⟩ := rangeM hy
    refine ⟨_, rfl, ?_⟩
    refine st_lc (xs := s.ways) (enc := eNs) (pp := fun v => decide (holder v = some h)) (g := fun v => eO (wantOf v)) (rx := fun v => [some (.im (tLs s)), some (.im (tLw s.ways)), some (.ow ((List.range h).map (nd1 s))), some (.im (eN h)), y, some (.im (eNs v))]) 4 rfl nd (ei_list (ev_var 1 rfl)) (show BlkOk ["_law_street", "_law_ways", "_law_needs_here", "_law_house", "_law_wish", "_law_way"] (defScope (top 57)) _ [("_law_way", 5)] from blkOk_by (by decide +kernel)) (by simp) (fun s H C cl fp => gt_name 5 nd) (fun n _ => rfl)
      (fun v hv _ H' C' cl fp => ets_one (ET.to (EW.et (ew_and (et_gtN (m := 1) (ev_lenM (EV.q (ev_var 5 rfl) rfl) b.len) ev_nat) fun z => ew_and1 (et_eqN (ev_last (d := 0) (EV.q (ev_var 5 rfl) rfl) (Nat.le_of_lt (of_decide_eq_true z))) (ev_var 3 rfl)))) (holds_iff v h)))
      (fun v hv _ _ H' C' cl fp => ev_if (k := decide (2 < v.length)) (et_gtN (m := 2) (ev_lenM (EV.q (ev_var 5 rfl) rfl) b.len) ev_nat) (fun z => EV.to (ev_last2 (d := 0) (EV.q (ev_var 5 rfl) rfl) (Nat.le_of_lt (of_decide_eq_true z))) ?_) (fun z => EV.to ev_non ?_)) (by omega) ?_
    · unfold wantOf
      rw [if_pos (of_decide_eq_true z)]; rfl
    · unfold wantOf
      rw [if_neg (of_decide_eq_false z)]; rfl
    rw [hung_map s h fun v => eO (wantOf v)]
    refine st_app 2 rfl (ev_if (k := s.full h) (t := nd1 s h) (ET.to (et_eqN (ev_lenM (EV.q (ev_var 4 rfl) rfl) b.len) (ev_at (d := 0) (EV.q (ev_at' (j := 0) (t := .lst (s.pegs.map eN)) ((ev_var 0 rfl).q rfl) ev_int rfl) rfl) (ev_var 3 rfl) hk)) (full_iff o hk)) (fun z => EV.to (ev_var 4 rfl) ?_) (fun z => EV.to ev_non ?_)) (by rw [List.length_map, List.length_range]; omega) (st_nil ⟨some (.im (eN h)), some (.im (.lst ((s.hungAt h).map fun t => eO (wantOf (s.way t))))), ?_⟩)
    · unfold nd1
      rw [if_pos z]; rfl
    · unfold nd1
      rw [if_neg (by rw [z]; exact Bool.false_ne_true)]
    · rw [List.range_succ, List.map_append]; rfl
  · rintro r1 ⟨x, y, rfl⟩
    refine st_give 2 rfl ?_
    rw [List.length_map, List.length_range]
    exact st_ret (ev_var 2 rfl) rfl
def SLStuck : List Sl → (T → Prop) → Prop := fun ss Po => ∃ (s : Sd) (l : List Nat), (∀ h ∈ l, h < s.nH) ∧ ss = [.im (tNeeds s), .im (eNs l)] ∧ Po = (· = .bl (s.stuck l))
theorem ok_lstuck (b : Bi mg) (D : DefAt K mg "_law_is_stuck" (top 58) ["_law_needs_here", "_law_lot"]) : DefOk P w K mg base "_law_is_stuck" 1 ["_law_needs_here", "_law_lot"] SLStuck := by
  have nd : (["_law_needs_here", "_law_lot", "_law_house", "_law_wish"] : List Str).Nodup := by decide +kernel
  refine D.ok (N := ["_law_needs_here", "_law_lot", "_law_house", "_law_wish"]) ⟨rfl, rfl, rfl, nd, rfl, by decide +kernel, by decide +kernel⟩ (fun _ _ ⟨_, _, _, e, _⟩ => by rw [e]; rfl) ?_
  rintro f cdv A outer st H E hr _ _ ⟨s, l, hl, rfl, rfl⟩
  refine st_ifR (et_eqN (m := 0) (ev_lenM (EV.q (ev_var 1 rfl) rfl) b.len) ev_nat) (fun z => st_ret ev_bl ?_) fun z => ?_
  · have : l = [] := List.eq_nil_of_length_eq_zero (of_decide_eq_true z)
    show T.bl false = T.bl _
    rw [this]; rfl
  have hne : l.isEmpty = false := by
    have := of_decide_eq_false z
    cases l with
    | nil => exact absurd rfl this
    | cons _ _ => rfl
  have no : ∀ y ∈ l, (s.full y && (s.hungAt y).all fun x => inO (s.want x) l) = false → T.bl false = T.bl (s.stuck l) := fun y hy h => by
    have : (l.all fun h => s.full h && (s.hungAt h).all fun x => inO (s.want x) l) = false := List.all_eq_false.mpr ⟨y, hy, by rw [h]; exact Bool.false_ne_true⟩
    simp only [Sd.stuck, this, Bool.and_false]
  refine st_for (fun k r => ∃ x y, r = [some (.im (tNeeds s)), some (.im (eNs l)), x, y] ∧ ∀ h ∈ l.take k, (s.full h && (s.hungAt h).all fun x => inO (s.want x) l) = true) (ei_tup (ev_var 1 rfl)) (gt_name 2 nd) ⟨none, none, rfl, by simp⟩ ?_ ?_
  · rintro k t' r1 ht' ⟨x, y, rfl, hv⟩
    obtain ⟨h, hy, rfl, hk⟩ := forM ht'
    have hm := mem_of_get hy
    have hn := hl h hm
    refine ⟨_, rfl, ?_⟩
    cases hf : s.full h with
    | false =>
      have e1 : nd1 s h = .non := by unfold nd1; rw [hf]; rfl
      exact st_ifR (k := true) (ET.to (et_isN (ev_tabL (ev_var 0 rfl) (ev_var 2 rfl) hn e1)) rfl) (fun _ => st_ret ev_bl (no h hm (by rw [hf]; rfl))) (fun z => by cases z)
    | true =>
      have e1 : nd1 s h = .lst ((s.hungAt h).map fun t => eO (s.want t)) := by unfold nd1; rw [hf]; rfl
      refine st_ifR (k := false) (ET.to (et_isN (ev_tabL (ev_var 0 rfl) (ev_var 2 rfl) hn e1)) rfl) (fun z => by cases z) fun _ => ?_
      refine st_for (fun j r => ∃ y, r = [some (.im (tNeeds s)), some (.im (eNs l)), some (.im (eN h)), y] ∧ ∀ x ∈ (s.hungAt h).take j, inO (s.want x) l = true) (ei_list (ev_tabL (ev_var 0 rfl) (ev_var 2 rfl) hn e1)) (gt_name 3 nd) ⟨y, rfl, by simp⟩ ?_ ?_
      · rintro j t2 r2 ht2 ⟨y, rfl, hv2⟩
        obtain ⟨x, hx, rfl, hj⟩ := forM ht2
        refine ⟨_, rfl, ?_⟩
        refine st_ifR (et_niO (ev_var 3 rfl) (EV.q (ev_var 1 rfl) rfl)) (fun z => st_ret ev_bl (no h hm ?_)) (fun z => st_nil ⟨_, rfl, take_succ_all hx hv2 (by simpa using z)⟩)
        rw [List.all_eq_false.mpr ⟨x, mem_of_get hx, by simpa using z⟩, Bool.and_false]
      · rintro r2 ⟨y, rfl, hv2⟩
        refine st_nil ⟨_, _, rfl, take_succ_all hy hv ?_⟩
        rw [hf, List.all_eq_true.mpr fun x hx => hv2 x (by rw [List.length_map, List.take_length]; exact hx)]; rfl
  · rintro r1 ⟨x, y, rfl, hv⟩
    refine st_ret ev_bl ?_
    show T.bl true = T.bl _
    have : (l.all fun h => s.full h && (s.hungAt h).all fun x => inO (s.want x) l) = true := List.all_eq_true.mpr fun x hx => hv x (by rw [List.length_map, List.take_length]; exact hx)
    simp only [Sd.stuck, this, hne, Bool.not_false, Bool.and_self]
end
end TL

/-! the law's defs, part b: the greatest lot, closures -/
namespace TL
open PySem L2 PySem.Spec PyProof.Rows
abbrev GL (s : Sd) (l : List Nat) : Prop := IsGL s.nH s.full s.hungAt s.want l
theorem GL.full {s : Sd} {l : List Nat} (g : GL s l) {h : Nat} (hh : h ∈ l) : s.full h = true := (g.lot h hh).2.1
theorem GL.nodup {s : Sd} {l : List Nat} (g : GL s l) : l.Nodup := List.nodup_range.sublist g.sub
theorem EO.to {X : Cx} {r : Rho} {e : Expr} {ts us : List T} (h : EO X r e ts) (q : ts = us) : EO X r e us := q ▸ h
theorem keep_len {hg : Nat → List Nat} {wf : Nat → Option Nat} {l : List Nat} : (keepL hg wf l).length ≤ l.length := List.length_filter_le _ _
/-- what the wishes close -/
def Shut (s : Sd) (l : List Nat) : Prop := ∀ h ∈ l, ∀ x ∈ s.hungAt h, ∀ k, s.want x = some k → k ∈ l
theorem nodup_len {l m : List Nat} (h : l.Nodup) (hs : ∀ x ∈ l, x ∈ m) : l.length ≤ m.length := h.length_le_of_subset hs
theorem eq_of_len {l m : List Nat} (h : l.Nodup) (hs : ∀ x ∈ l, x ∈ m) (hl : m.length ≤ l.length) : ∀ x ∈ m, x ∈ l := by
  intro x hx
  apply Classical.byContradiction
  intro hn
  have : (x :: l).Nodup := List.nodup_cons.mpr ⟨hn, h⟩
  have h2 := this.length_le_of_subset (l₂ := m) fun y hy => by
    rcases List.mem_cons.mp hy with rfl | hy
    · exact hx
    · exact hs y hy
  simp only [List.length_cons] at h2
  omega
theorem stuck_of {s : Sd} {l G : List Nat} (g : GL s G) (hs : ∀ x ∈ l, x ∈ G) (hne : l ≠ []) (c : Shut s l) : s.stuck l = true := by
  unfold Sd.stuck
  rw [Bool.and_eq_true]
  refine ⟨by cases l with | nil => exact absurd rfl hne | cons _ _ => rfl, List.all_eq_true.mpr fun h hh => ?_⟩
  rw [Bool.and_eq_true]
  refine ⟨g.full (hs h hh), List.all_eq_true.mpr fun x hx => ?_⟩
  have h1 := (g.lot h (hs h hh)).2.2 x hx
  cases e : s.want x with
  | none => rw [e] at h1; cases h1
  | some k => exact decide_eq_true (c h hh x hx k e)
section
variable {P : Program} {w : World} {K : PySem.W.Frag} {mg : Str → Option Value} {base : Heap}
variable {C CS : Addr} {k : Nat}
theorem nd1_t {s : Sd} {h : Nat} (hf : s.full h = true) : nd1 s h = .lst ((s.hungAt h).map fun t => eO (s.want t)) := by unfold nd1; rw [hf]; rfl
theorem nd1_n {s : Sd} {h : Nat} : (nd1 s h).isN = !s.full h := by unfold nd1; cases s.full h <;> rfl
def SLGreat : List Sl → (T → Prop) → Prop := fun ss Po => ∃ (s : Sd), Sound s ∧ ss = [.im (tNeeds s)] ∧ Po = fun t => ∃ l, GL s l ∧ t = eNs l
theorem ok_lgreat (b : Bi mg) (D : DefAt K mg "_law_greatest" (top 59) ["_law_needs_here"]) : DefOk P w K mg base "_law_greatest" 1 ["_law_needs_here"] SLGreat := by
  have nd : (["_law_needs_here", "_law_held_here", "_law_step", "_law_house", "_law_wish"] : List Str).Nodup := by decide +kernel
  refine D.ok (N := ["_law_needs_here", "_law_held_here", "_law_step", "_law_house", "_law_wish"]) ⟨rfl, rfl, rfl, nd, rfl, by decide +kernel, by decide +kernel⟩ (fun _ _ ⟨_, _, e, _⟩ => by rw [e]; rfl) ?_
  rintro f cdv A outer st H E hr _ _ ⟨s, o, rfl, rfl⟩
  have hn := o.st.nh
  let R : Option Sl → Option Sl → Option Sl → Option Sl → Rho := fun a b c d => [some (.im (tNeeds s)), a, b, c, d]
  refine st_set 1 nd (EL.v (el_comp (enc := eN) (p := s.full) (g := eN) (rx := fun h => R none none (some (.im (eN h))) none) rfl nd (ei_rangeN (ev_lenG (EV.q (ev_var 0 rfl) rfl) b.len) (by omega) b.range) (show BlkOk ["_law_needs_here", "_law_held_here", "_law_step", "_law_house", "_law_wish"] (defScope (top 59)) _ [("_law_house", 3)] from blkOk_by (by decide +kernel)) (by simp) (fun s H C cl fp => gt_name 3 nd) (fun n _ => rfl)
    (fun h hh _ H' C' cl fp => ets_one (ET.to (et_notN (ev_tabL (t := nd1 s h) (ev_var 0 rfl) (ev_var 3 rfl) (List.mem_range.mp hh) rfl)) (by rw [nd1_n, Bool.not_not]))) (fun h hh _ _ H' C' cl fp => ev_var 3 rfl) (by rw [List.length_range]; omega))) ?_
  refine st_for (fun k r => ∃ l x, Up s.nH s.full s.hungAt s.want l ∧ (l.length + k ≤ s.nH ∨ keepL s.hungAt s.want l = l) ∧ r = R (some (.im (.lst (l.map eN)))) x none none) (ei_rangeN (n := 13) ev_nat (by decide) b.range) (gt_name 2 nd) ⟨_, none, Up.start, .inl (Up.start (hg := s.hungAt) (wf := s.want)).len, rfl⟩ ?_ ?_
  · rintro k t' r1 ht' ⟨l, x, u, hv, rfl⟩
    obtain ⟨h, hy, rfl, hk⟩ := forM ht'
    have hml := u.len
    have hlt : ∀ h ∈ l, h < s.nH := fun h hh => List.mem_range.mp (u.sub.subset hh)
    refine ⟨_, rfl, ?_⟩
    refine st_set 1 nd (EL.v (el_comp (xs := l) (enc := eN) (p := fun h => (s.hungAt h).all fun x => inO (s.want x) l) (g := eN) (rx := fun y => R (some (.im (.lst (l.map eN)))) (some (.im (eN h))) (some (.im (eN y))) none) rfl nd (ei_list (ev_var 1 rfl)) (show BlkOk ["_law_needs_here", "_law_held_here", "_law_step", "_law_house", "_law_wish"] (defScope (top 59)) _ [("_law_house", 3)] from blkOk_by (by decide +kernel)) (by simp) (fun s H C cl fp => gt_name 3 nd) (fun n _ => rfl)
      (fun y hy _ H' C' cl fp => ets_one (et_val (EV.to (ev_all (bs := (s.hungAt y).map fun x => inO (s.want x) l) (EL.o (EL.to (el_map (xs := s.hungAt y) (enc := fun t => eO (s.want t)) (g := fun t => .bl (inO (s.want t) l)) (rx := fun t => R (some (.im (.lst (l.map eN)))) (some (.im (eN h))) (some (.im (eN y))) (some (.im (eO (s.want t))))) rfl nd (ei_list (ev_tabL (ev_var 0 rfl) (ev_var 3 rfl) (hlt y hy) (nd1_t (u.full y hy)))) (show BlkOk ["_law_needs_here", "_law_held_here", "_law_step", "_law_house", "_law_wish"] _ _ [("_law_wish", 4)] from blkOk_by (by kernel_rfl)) (by simp) (fun s H C cl fp => gt_name 4 nd) (fun n _ => rfl)
        (fun t ht _ H' C' cl fp => ev_inO (ev_var 4 rfl) (EV.q (ev_var 1 rfl) rfl)) (by have := hungAt_len (s := s) (h := y); have := o.nt; omega)) (by rw [List.map_map]; rfl))) rfl b.all) (by rw [List.all_map]; rfl)))) (fun h hh _ _ H' C' cl fp => ev_var 3 rfl) (by omega))) (st_nil ⟨keepL s.hungAt s.want l, _, u.keep, ?_, rfl⟩)
    rcases hv with hv | hv
    · have hk := keep_len (hg := s.hungAt) (wf := s.want) (l := l)
      rcases Nat.lt_or_ge (keepL s.hungAt s.want l).length l.length with c | c
      · exact .inl (by omega)
      · have e : keepL s.hungAt s.want l = l := List.filter_sublist.eq_of_length_le c
        exact .inr (by rw [e, e])
    · exact .inr (by rw [hv, hv])
  · rintro r1 ⟨l, x, u, hv, rfl⟩
    have e : keepL s.hungAt s.want l = l := by
      rcases hv with hv | hv
      · rw [List.length_map, List.length_range] at hv
        omega
      · exact hv
    exact st_ret (ev_tupL (ev_var 1 rfl).o b.tuple) ⟨l, u.gl (by rw [e]; exact Nat.le_refl _), rfl⟩
def SClos : List Sl → (T → Prop) → Prop := fun ss Po => ∃ (s : Sd) (h : Nat) (G : List Nat), Sound s ∧ GL s G ∧ h ∈ G ∧ ss = [.im (tNeeds s), .im (eN h)] ∧ Po = fun t => ∃ l : List Nat, l.Pairwise (· < ·) ∧ (∀ x ∈ l, x < s.nH) ∧ s.stuck l = true ∧ h ∈ l ∧ Shut s l ∧ (∀ L, h ∈ L → Shut s L → ∀ x ∈ l, x ∈ L) ∧ t = eNs l
/-- a round on its way: what was found at its start, what is found -/
structure Rnd (s : Sd) (G l0 l : List Nat) (h0 : Nat) : Prop where
  st : h0 ∈ l
  sub : ∀ x ∈ l0, x ∈ l
  inG : ∀ x ∈ l, x ∈ G
  nod : l.Nodup
  same : Shut s l0 → l = l0
  min : ∀ L, h0 ∈ L → Shut s L → ∀ x ∈ l, x ∈ L
theorem Rnd.snoc {s : Sd} {G l0 l : List Nat} {h0 h x k : Nat} (r : Rnd s G l0 l h0) (g : GL s G) (hh : h ∈ l) (hx : x ∈ s.hungAt h) (e : s.want x = some k) (hn : k ∉ l) : Rnd s G l0 (l ++ [k]) h0 := by
  refine ⟨List.mem_append_left _ r.st, fun y hy => List.mem_append_left _ (r.sub y hy), fun y hy => ?_, ?_, fun c => ?_, fun L l1 l2 y hy => ?_⟩
  · rcases List.mem_append.mp hy with hy | hy
    · exact r.inG y hy
    · rw [List.mem_singleton.mp hy]
      have := (g.lot h (r.inG h hh)).2.2 x hx
      rw [e] at this
      exact of_decide_eq_true this
  · rw [List.nodup_append]
    refine ⟨r.nod, by simp, fun a ha b hb => ?_⟩
    rw [List.mem_singleton.mp hb]
    rintro rfl
    exact hn ha
  · have e2 := r.same c
    exact absurd (e2 ▸ c h (e2 ▸ hh) x hx k e) hn
  · rcases List.mem_append.mp hy with hy | hy
    · exact r.min L l1 l2 y hy
    · rw [List.mem_singleton.mp hy]
      exact l2 h (r.min L l1 l2 h hh) x hx k e
theorem ok_clos (b : Bi mg) (D : DefAt K mg "_law_closure" (top 60) ["_law_needs_here", "_law_house"]) : DefOk P w K mg base "_law_closure" 1 ["_law_needs_here", "_law_house"] SClos := by
  have nd : (["_law_needs_here", "_law_house", "_law_found", "_law_step", "_law_other", "_law_wish"] : List Str).Nodup := by decide +kernel
  refine D.ok (N := ["_law_needs_here", "_law_house", "_law_found", "_law_step", "_law_other", "_law_wish"]) ⟨rfl, rfl, rfl, nd, rfl, by decide +kernel, by decide +kernel⟩ (fun _ _ ⟨_, _, _, _, _, _, e, _⟩ => by rw [e]; rfl) ?_
  rintro f cdv A outer st H E hr _ _ ⟨s, h0, G, o, g, hG, rfl, rfl⟩
  have hn := o.st.nh
  have hGlen : G.length ≤ s.nH := by have := g.sub.length_le; rwa [List.length_range] at this
  let R : List Nat → Option Sl → Option Sl → Option Sl → Rho := fun l a b c => [some (.im (tNeeds s)), some (.im (eN h0)), some (.ow (l.map eN)), a, b, c]
  refine st_setL 2 nd (el_lst (ts := [eN h0]) (ea_cons (ev_var 1 rfl) ea_nil) (by simp)) ?_
  refine st_for (fun k r => ∃ l x y z, (h0 ∈ l ∧ (∀ x ∈ l, x ∈ G) ∧ l.Nodup ∧ (k + 1 ≤ l.length ∨ Shut s l) ∧ (∀ L, h0 ∈ L → Shut s L → ∀ x ∈ l, x ∈ L)) ∧ r = R l x y z) (ei_rangeN (ev_lenG (EV.q (ev_var 0 rfl) rfl) b.len) (by omega) b.range) (gt_name 3 nd) ⟨[h0], none, none, none, ⟨by simp, by simpa using hG, by simp, .inl (by simp), fun L l1 _ x hx => by rw [List.mem_singleton.mp hx]; exact l1⟩, rfl⟩ ?_ ?_
  · rintro k t' r1 ht' ⟨l0, x, y, z, ⟨hst, hin, hnd, hor, hmin⟩, rfl⟩
    obtain ⟨q, hq, rfl, _⟩ := forM ht'
    obtain ⟨rfl, hk⟩ := rangeM hq
    refine ⟨_, rfl, ?_⟩
    refine st_for (fun j r => ∃ l y z, Rnd s G l0 l h0 ∧ (∀ h ∈ l0, h < j → ∀ x ∈ s.hungAt h, ∀ k, s.want x = some k → k ∈ l) ∧ r = R l (some (.im (eN q))) y z) (ei_rangeN (ev_lenG (EV.q (ev_var 0 rfl) rfl) b.len) (by omega) b.range) (gt_name 4 nd) ⟨l0, y, z, ⟨hst, fun _ h => h, hin, hnd, fun _ => rfl, hmin⟩, fun h _ e => absurd e (Nat.not_lt_zero _), rfl⟩ ?_ ?_
    · rintro j t2 r2 ht2 ⟨l, y, z, rd, hd, rfl⟩
      obtain ⟨p, hp, rfl, _⟩ := forM ht2
      obtain ⟨rfl, hj⟩ := rangeM hp
      refine ⟨_, rfl, ?_⟩
      refine st_ifC _ (EW.et (ew_and (k2 := s.full p) (et_inN (ev_var 4 rfl) (eo_ow 2 rfl).q) fun _ => ew_and1 (ET.to (et_notN (ev_tabL (t := nd1 s p) (ev_var 0 rfl) (ev_var 4 rfl) hj rfl)) (by rw [nd1_n, Bool.not_not])))) (fun c => ?_) (fun c => ?_) (fun r' h => st_nil h)
      · obtain ⟨c1, c2⟩ := Bool.and_eq_true_iff.mp c
        have hpl : p ∈ l := of_decide_eq_true c1
        refine st_for (fun i r => ∃ l z, Rnd s G l0 l h0 ∧ p ∈ l ∧ (∀ h ∈ l0, h < p → ∀ x ∈ s.hungAt h, ∀ k, s.want x = some k → k ∈ l) ∧ (∀ x ∈ (s.hungAt p).take i, ∀ k, s.want x = some k → k ∈ l) ∧ r = R l (some (.im (eN q))) (some (.im (eN p))) z) (ei_list (ev_tabL (ev_var 0 rfl) (ev_var 4 rfl) hj (nd1_t c2))) (gt_name 5 nd) ⟨l, z, rd, hpl, hd, by simp, rfl⟩ ?_ ?_
        · rintro i t3 r3 ht3 ⟨l, z, rd, hpl, hd, hi, rfl⟩
          obtain ⟨u, hu, rfl, hil⟩ := forM ht3
          have hum := mem_of_get hu
          refine ⟨_, rfl, ?_⟩
          refine st_ifC _ (EW.et (ew_and (k2 := !inO (s.want u) l) (ET.to (et_notN (ev_var 5 rfl)) (by rw [isN_eO])) fun _ => ew_and1 (et_niO (ev_var 5 rfl) (eo_ow 2 rfl).q))) (fun c => ?_) (fun c => ?_) (fun r' h => st_nil h)
          · obtain ⟨c3, c4⟩ := Bool.and_eq_true_iff.mp c
            cases e : s.want u with
            | none => rw [e] at c3; cases c3
            | some v =>
              rw [e] at c4
              have hv : v ∉ l := by simpa [inO] using c4
              have rd2 := rd.snoc g hpl hum e hv
              have hlen : l.length ≤ s.nH := Nat.le_trans (rd.nod.length_le_of_subset rd.inG) hGlen
              refine st_app 2 rfl (EV.to (ev_var 5 rfl) (t' := eN v) rfl) (by rw [List.length_map]; omega) (st_nil ⟨l ++ [v], some (.im (eN v)), rd2, List.mem_append_left _ hpl, fun h hh hlt x hx k hk => List.mem_append_left _ (hd h hh hlt x hx k hk), take_succ_all hu (fun x hx k hk => List.mem_append_left _ (hi x hx k hk)) (fun k hk => ?_), ?_⟩)
              · rw [e] at hk
                cases hk
                exact List.mem_append_right _ (by simp)
              · have e9 : (l ++ [v]).map eN = l.map eN ++ [eN v] := List.map_append
                show _ = [_, _, some (Sl.ow ((l ++ [v]).map eN)), _, _, _]
                rw [e9]
                rfl
          · refine st_nil ⟨l, _, rd, hpl, hd, take_succ_all hu hi (fun k hk => ?_), rfl⟩
            rw [hk] at c
            simpa [inO] using c
        · rintro r3 ⟨l, z, rd, hpl, hd, hi, rfl⟩
          refine st_nil ⟨l, _, z, rd, fun h hh hlt x hx k hk => ?_, rfl⟩
          rcases Nat.lt_succ_iff_lt_or_eq.mp hlt with hlt | rfl
          · exact hd h hh hlt x hx k hk
          · exact hi x (by rw [List.length_map, List.take_length]; exact hx) k hk
      · refine st_nil ⟨l, _, z, rd, fun h hh hlt x hx k hk => ?_, rfl⟩
        rcases Nat.lt_succ_iff_lt_or_eq.mp hlt with hlt | rfl
        · exact hd h hh hlt x hx k hk
        · have h1 := rd.sub _ hh
          rw [decide_eq_true h1, g.full (rd.inG _ h1)] at c
          cases c
    · rintro r2 ⟨l, y, z, rd, hd, rfl⟩
      refine st_nil ⟨l, _, y, z, ⟨rd.st, rd.inG, rd.nod, ?_, rd.min⟩, rfl⟩
      rw [List.length_map, List.length_range] at hd
      have all : ∀ h ∈ l0, ∀ x ∈ s.hungAt h, ∀ k, s.want x = some k → k ∈ l := fun h hh => hd h hh (List.mem_range.mp (g.sub.subset (hin h hh)))
      rcases hor with hor | hor
      · rcases Nat.lt_or_ge l0.length l.length with c | c
        · exact .inl (by omega)
        · exact .inr fun h hh => all h (eq_of_len hnd rd.sub c h hh)
      · rw [rd.same hor]
        exact .inr hor
  · rintro r1 ⟨l, x, y, z, ⟨hst, hin, hnd, hor, hmin⟩, rfl⟩
    have hlen : l.length ≤ s.nH := Nat.le_trans (hnd.length_le_of_subset hin) hGlen
    have hsh : Shut s l := by
      rcases hor with hor | hor
      · rw [List.length_map, List.length_range] at hor
        omega
      · exact hor
    have hperm := List.mergeSort_perm l (fun a b => decide (a ≤ b))
    have hpw : (l.mergeSort fun a b => decide (a ≤ b)).Pairwise (· < ·) := by
      have h1 := List.pairwise_mergeSort (le := fun a b : Nat => decide (a ≤ b)) (fun a b c h1 h2 => by simp at *; omega) (fun a b => by simp; omega) l
      have h2 : (l.mergeSort fun a b => decide (a ≤ b)).Nodup := hperm.nodup_iff.mpr hnd
      exact (h1.and h2).imp fun ⟨a, b⟩ => by have := of_decide_eq_true a; omega
    refine st_retP (EV.p (ev_tupL (EL.o (el_sorted (ns := l.map fun n : Nat => (n : Int)) (ms := (l.mergeSort fun a b => decide (a ≤ b)).map fun n : Nat => (n : Int)) (EO.to (eo_ow 2 rfl) (by rw [List.map_map]; rfl)) (hperm.map _) (List.pairwise_map.mpr (hpw.imp fun h => by omega)) b.sorted)) b.tuple) ?_) (fun t h => h)
    refine ⟨l.mergeSort fun a b => decide (a ≤ b), hpw, fun x hx => List.mem_range.mp (g.sub.subset (hin x (hperm.mem_iff.mp hx))), ?_, hperm.mem_iff.mpr hst, fun h hh x hx k hk => hperm.mem_iff.mpr (hsh h (hperm.mem_iff.mp hh) x hx k hk), fun L l1 l2 x hx => hmin L l1 l2 x (hperm.mem_iff.mp hx), by rw [List.map_map]; rfl⟩
    refine stuck_of g (fun x hx => hin x (hperm.mem_iff.mp hx)) (fun e => ?_) (fun h hh x hx k hk => hperm.mem_iff.mpr (hsh h (hperm.mem_iff.mp hh) x hx k hk))
    have := hperm.mem_iff.mpr hst
    rw [e] at this
    cases this
end
end TL

/-! the law's defs, part c: same, waiting, next out -/
namespace TL
open PySem L2 PySem.Spec PyProof.Rows
inductive DS : Nat → T → Prop
  | non {d : Nat} : DS d .non
  | bl {d : Nat} {b : Bool} : DS d (.bl b)
  | int {d : Nat} {i : Int} : DS d (.int i)
  | tup {d : Nat} {ts : List T} (h : ∀ t ∈ ts, DS d t) (hl : ts.length ≤ 10000) : DS (d + 1) (.tup ts)
theorem DS.eO {d : Nat} {o : Option Nat} : DS d (eO o) := by
  cases o with
  | none => exact .non
  | some n => exact .int
theorem DS.nats {d : Nat} {l : List Nat} (h : l.length ≤ 10000) : DS (d + 1) (eNs l) := .tup (fun t ht => by
  obtain ⟨x, _, rfl⟩ := List.mem_map.mp ht
  exact .int) (by simpa using h)
theorem DS.tri {d : Nat} {l : List (Nat × Nat × Nat)} (h : l.length ≤ 10000) : DS (d + 2) (.tup (l.map e3)) := .tup (fun t ht => by
  obtain ⟨x, _, rfl⟩ := List.mem_map.mp ht
  exact .tup (fun t ht => by
    simp only [List.mem_cons, List.not_mem_nil, or_false] at ht
    rcases ht with rfl | rfl | rfl <;> exact .int) (by simp)) (by simpa using h)
theorem DS.eR {d : Nat} {p : Nat × Option Nat} : DS (d + 1) (eR p) := .tup (fun t ht => by
  simp only [List.mem_cons, List.not_mem_nil, or_false] at ht
  rcases ht with rfl | rfl
  · exact .int
  · exact .eO) (by simp)
section
variable {P : Program} {w : World} {K : PySem.W.Frag} {mg : Str → Option Value} {base : Heap}
variable {C CS : Addr} {k : Nat}
def SWhole : List Sl → (T → Prop) → Prop := fun ss Po => ∃ n : Int, ss = [.im (.int n)] ∧ Po = (· = .bl true)
theorem ok_whole (b : Bi mg) (D : DefAt K mg "_law_whole" (top 42) ["_law_value"]) : DefOk P w K mg base "_law_whole" 1 ["_law_value"] SWhole := by
  refine D.ok (N := ["_law_value"]) ⟨rfl, rfl, rfl, by decide +kernel, rfl, by decide +kernel, by decide +kernel⟩ (fun _ _ ⟨s, e, _⟩ => by rw [e]; rfl) ?_
  rintro f cdv A outer st H E hr _ _ ⟨n, rfl, rfl⟩
  exact st_ret (ev_and (k1 := true) (k2 := true) (ev_isi (ev_var 0 rfl) (ev_tyn (n := "int") b.int) rfl (by decide +kernel) b.isi) fun _ => ev_one (ev_not (k := false) (ev_isi (ev_var 0 rfl) (ev_tyn (n := "bool") b.bool) rfl (by decide +kernel) b.isi))) rfl
def SSame (d : Nat) : List Sl → (T → Prop) → Prop := fun ss Po => ∃ t, DS d t ∧ ss = [.im t, .im t] ∧ Po = (· = .bl true)
theorem ok_same1 (b : Bi mg) (Wh : DefOk P w K mg base "_law_whole" 1 ["_law_value"] SWhole) (D : DefAt K mg "_law_same" (top 43) ["_law_actual", "_law_due"]) (d k : Nat) (hk : 1 ≤ k) (R : ∀ d', d = d' + 1 → DefOk P w K mg base "_law_same" k ["_law_actual", "_law_due"] (SSame d')) :
    DefOk P w K mg base "_law_same" (k + 1) ["_law_actual", "_law_due"] (SSame d) := by
  have nd : (["_law_actual", "_law_due", "_law_k"] : List Str).Nodup := by decide +kernel
  refine D.ok (N := ["_law_actual", "_law_due", "_law_k"]) ⟨rfl, rfl, rfl, nd, rfl, by decide +kernel, by decide +kernel⟩ (fun _ _ ⟨s, _, e, _⟩ => by rw [e]; rfl) ?_
  rintro f cdv A outer st H E hr _ _ ⟨t, h, rfl, rfl⟩
  cases h with
  | non => exact st_ifR (et_isN (ev_var 1 rfl)) (fun _ => st_ret (ev_isN (ev_var 0 rfl)) rfl) (fun z => by cases z)
  | @bl _ bb =>
    refine st_ifR (et_isN (ev_var 1 rfl)) (fun z => by cases z) fun _ => ?_
    cases bb with
    | true => exact st_ifR (et_isB (b0 := true) (ev_var 1 rfl)) (fun _ => st_ret (ev_isB (b0 := true) (ev_var 0 rfl)) rfl) (fun z => by cases z)
    | false =>
      refine st_ifR (et_isB (b0 := true) (ev_var 1 rfl)) (fun z => by cases z) fun _ => ?_
      exact st_ifR (et_isB (b0 := false) (ev_var 1 rfl)) (fun _ => st_ret (ev_isB (b0 := false) (ev_var 0 rfl)) rfl) (fun z => by cases z)
  | @int _ i =>
    refine st_ifR (et_isN (ev_var 1 rfl)) (fun z => by cases z) fun _ => ?_
    refine st_ifR (et_isB (b0 := true) (ev_var 1 rfl)) (fun z => by cases z) fun _ => ?_
    refine st_ifR (et_isB (b0 := false) (ev_var 1 rfl)) (fun z => by cases z) fun _ => ?_
    refine st_ifR (k := false) (et_val (ev_isi (ev_var 1 rfl) (ev_tyn (n := "tuple") b.tuple) rfl (by decide +kernel) b.isi)) (fun z => by cases z) fun _ => ?_
    refine st_ifR (k := false) (et_val (ev_isi (ev_var 1 rfl) (ev_tyn (n := "str") b.str) rfl (by decide +kernel) b.isi)) (fun z => by cases z) fun _ => ?_
    exact st_ret (ev_and (k1 := true) (k2 := true) (ev_call Wh (hr.mono hk) (ea_cons (ev_var 0 rfl) ea_nil) ⟨i, rfl, rfl⟩) fun _ => ev_one (EV.to (ev_eq (ev_var 0 rfl) (ev_var 1 rfl) rfl) (by simp))) rfl
  | @tup d ts h hl =>
    refine st_ifR (et_isN (ev_var 1 rfl)) (fun z => by cases z) fun _ => ?_
    refine st_ifR (et_isB (b0 := true) (ev_var 1 rfl)) (fun z => by cases z) fun _ => ?_
    refine st_ifR (et_isB (b0 := false) (ev_var 1 rfl)) (fun z => by cases z) fun _ => ?_
    refine st_ifR (k := true) (et_val (ev_isi (ev_var 1 rfl) (ev_tyn (n := "tuple") b.tuple) rfl (by decide +kernel) b.isi)) (fun _ => ?_) fun z => by cases z
    refine st_ifR (k := false) (ET.to (EW.et (ew_or (k1 := false) (k2 := false) (et_not (k := true) (et_val (ev_isi (ev_var 0 rfl) (ev_tyn (n := "tuple") b.tuple) rfl (by decide +kernel) b.isi))) fun _ => ew_or1 (ET.to (et_neN (ev_lenN (n := ts.length) (EV.q (ev_var 0 rfl) rfl) b.len rfl) (ev_lenN (n := ts.length) (EV.q (ev_var 1 rfl) rfl) b.len rfl)) (by simp)))) rfl) (fun z => by cases z) fun _ => ?_
    refine st_ret (EV.to (ev_all (bs := (List.range ts.length).map fun _ => true) (EL.o (EL.to (el_map (xs := List.range ts.length) (enc := eN) (g := fun _ => .bl true) (rx := fun i => [some (.im (.tup ts)), some (.im (.tup ts)), some (.im (eN i))]) rfl nd (ei_rangeN (ev_lenN (n := ts.length) (EV.q (ev_var 1 rfl) rfl) b.len rfl) (by omega) b.range) (show BlkOk ["_law_actual", "_law_due", "_law_k"] (defScope (top 43)) _ [("_law_k", 2)] from blkOk_by (by decide +kernel)) (by simp) (fun s H C cl fp => gt_name 2 nd) (fun n _ => rfl)
      (fun i hi _ H' C' cl fp => ev_call (R d rfl) hr (ea_cons (ev_at' (t := ts.getD i .non) (EV.q (ev_var 0 rfl) rfl) (ev_var 2 rfl) (by rw [List.getD_eq_getElem?_getD, List.getElem?_eq_getElem (List.mem_range.mp hi)]; rfl)) (ea_cons (ev_at' (t := ts.getD i .non) (EV.q (ev_var 1 rfl) rfl) (ev_var 2 rfl) (by rw [List.getD_eq_getElem?_getD, List.getElem?_eq_getElem (List.mem_range.mp hi)]; rfl)) ea_nil)) ⟨_, h _ (getD_mem (List.mem_range.mp hi)), rfl, rfl⟩) (by rw [List.length_range]; exact hl)) (by rw [List.map_map]; rfl))) rfl b.all) (by simp)) rfl
theorem ok_same (b : Bi mg) (Wh : DefOk P w K mg base "_law_whole" 1 ["_law_value"] SWhole) (D : DefAt K mg "_law_same" (top 43) ["_law_actual", "_law_due"]) : ∀ d, DefOk P w K mg base "_law_same" (d + 2) ["_law_actual", "_law_due"] (SSame d)
  | 0 => ok_same1 b Wh D 0 1 (by decide) (fun _ e => by cases e)
  | d + 1 => ok_same1 b Wh D (d + 1) (d + 2) (by omega) (fun d' e => by cases e; exact ok_same b Wh D d)

/-! ### waiting -/
theorem mem_wait {s : Sd} {m : Nat} {q : Nat × Nat × Nat} : q ∈ waitTo s m ↔ q.1 < m ∧ q.2.1 ∈ s.hungAt q.1 ∧ s.want q.2.1 = some q.2.2 := by
  unfold waitTo waitAt
  rw [List.mem_flatMap]
  constructor
  · rintro ⟨h, hh, hq⟩
    obtain ⟨t, ht, e⟩ := List.mem_filterMap.mp hq
    cases c : s.want t with
    | none => rw [c] at e; cases e
    | some x => rw [c] at e; cases e; exact ⟨List.mem_range.mp hh, ht, c⟩
  · rintro ⟨h1, h2, h3⟩
    exact ⟨q.1, List.mem_range.mpr h1, List.mem_filterMap.mpr ⟨q.2.1, h2, by rw [h3]; rfl⟩⟩
theorem hungAt_pw {s : Sd} {h : Nat} : (s.hungAt h).Pairwise (· < ·) := List.Pairwise.sublist List.filter_sublist List.pairwise_lt_range
def lex3 (q p : Nat × Nat × Nat) : Prop := q.1 < p.1 ∨ (q.1 = p.1 ∧ q.2.1 < p.2.1)
theorem wait_pw {s : Sd} {m : Nat} : (waitTo s m).Pairwise lex3 := by
  unfold waitTo
  rw [List.pairwise_flatMap]
  refine ⟨fun h hh => ?_, ?_⟩
  · unfold waitAt
    rw [List.pairwise_filterMap]
    refine hungAt_pw.imp fun {a b} hab x hx y hy => ?_
    cases c : s.want a with
    | none => rw [c] at hx; cases hx
    | some u =>
      cases c' : s.want b with
      | none => rw [c'] at hy; cases hy
      | some v =>
        rw [c] at hx; rw [c'] at hy
        cases hx; cases hy
        exact .inr ⟨rfl, hab⟩
  · refine List.pairwise_lt_range.imp fun {a b} hab x hx y hy => ?_
    unfold waitAt at hx hy
    obtain ⟨t, _, e⟩ := List.mem_filterMap.mp hx
    obtain ⟨t', _, e'⟩ := List.mem_filterMap.mp hy
    cases c : s.want t with
    | none => rw [c] at e; cases e
    | some u =>
      cases c' : s.want t' with
      | none => rw [c'] at e'; cases e'
      | some v =>
        rw [c] at e; rw [c'] at e'
        cases e; cases e'
        exact .inl hab
def wl (s : Sd) : List (Nat × Nat × Nat) := ((List.range s.nT).filter fun t => decide (2 < (s.way t).length)).map fun t => ((s.way t).getD ((s.way t).length - 1) 0, t, (s.way t).getD ((s.way t).length - 2) 0)
theorem mem_wl {s : Sd} (o : Okay s) {q : Nat × Nat × Nat} : q ∈ wl s ↔ q ∈ waitTo s s.nH := by
  rw [mem_wait]
  unfold wl
  rw [List.mem_map]
  constructor
  · rintro ⟨t, ht, rfl⟩
    obtain ⟨h1, h2⟩ := List.mem_filter.mp ht
    have h1 := List.mem_range.mp h1
    have h2 := of_decide_eq_true h2
    refine ⟨o.lt _ (o.way h1) _ (getD_mem (by omega)), List.mem_filter.mpr ⟨List.mem_range.mpr h1, ?_⟩, ?_⟩
    · show decide (holder (s.way t) = some ((s.way t).getD ((s.way t).length - 1) 0)) = true
      unfold holder
      rw [if_pos (by omega)]
      exact decide_eq_true rfl
    · unfold Sd.want wantOf
      rw [if_pos h2]
  · rintro ⟨h1, h2, h3⟩
    obtain ⟨a, t, x⟩ := q
    have h4 : t < s.nT := hungAt_lt h2
    have h5 : holder (s.way t) = some a := of_decide_eq_true (List.mem_filter.mp h2).2
    have h3 : wantOf (s.way t) = some x := h3
    unfold wantOf at h3
    by_cases c : 2 < (s.way t).length
    · rw [if_pos c] at h3
      unfold holder at h5
      rw [if_pos (by omega)] at h5
      exact ⟨t, List.mem_filter.mpr ⟨List.mem_range.mpr h4, decide_eq_true c⟩, by rw [Option.some.inj h5, Option.some.inj h3]⟩
    · rw [if_neg c] at h3
      cases h3
theorem wl_nodup (s : Sd) : (wl s).Nodup := by
  unfold wl
  refine List.pairwise_map.mpr ((List.nodup_range.sublist List.filter_sublist).imp fun {a b} hab e => hab ?_)
  exact congrArg (fun q : Nat × Nat × Nat => q.2.1) e
theorem wait_perm {s : Sd} (o : Okay s) : (waitTo s s.nH).Perm (wl s) := by
  refine (List.perm_ext_iff_of_nodup (wait_pw.imp fun {a b} h e => ?_) (wl_nodup s)).mpr fun q => (mem_wl o).symm
  subst e
  rcases h with h | ⟨_, h⟩ <;> exact Nat.lt_irrefl _ h
theorem c3_eq (q : Nat × Nat × Nat) : c3 q = (q.1 : Int) * 4096 + ((q.2.1 : Int) * 64 + (q.2.2 : Int)) := by
  simp [c3, TS.code]
def SLWait : List Sl → (T → Prop) → Prop := fun ss Po => ∃ s : Sd, Okay s ∧ ss = [.im (tLw s.ways)] ∧ Po = (· = .tup ((waitTo s s.nH).map e3))
theorem ok_lwait (b : Bi mg) (D : DefAt K mg "_law_waiting" (top 61) ["_law_ways"]) : DefOk P w K mg base "_law_waiting" 1 ["_law_ways"] SLWait := by
  have nd : (["_law_ways", "_law_k"] : List Str).Nodup := by decide +kernel
  refine D.ok (N := ["_law_ways", "_law_k"]) ⟨rfl, rfl, rfl, nd, rfl, by decide +kernel, by decide +kernel⟩ (fun _ _ ⟨s, _, e, _⟩ => by rw [e]; rfl) ?_
  rintro f cdv A outer st H E hr _ _ ⟨s, o, rfl, rfl⟩
  have ht : s.ways.length ≤ 20 := o.nt
  have hn := o.nh
  have bd : ∀ q ∈ wl s, q.1 < 64 ∧ q.2.1 < 64 ∧ q.2.2 < 64 := fun q hq => by
    obtain ⟨h1, h2, h3⟩ := mem_wait.mp ((mem_wl o).mp hq)
    have h4 := hungAt_lt h2
    have h5 := o.want h4 h3
    have h6 : s.nT ≤ 20 := o.nt
    omega
  refine st_ret (ev_tupL (EL.o (el_sort3 (xs := wl s) (ys := waitTo s s.nH) (EL.o (EL.to (el_comp (xs := List.range s.ways.length) (enc := eN) (p := fun t => decide (2 < (s.ways.getD t []).length)) (g := fun t => .tup [eN ((s.ways.getD t []).getD ((s.ways.getD t []).length - 1) 0), eN t, eN ((s.ways.getD t []).getD ((s.ways.getD t []).length - 2) 0)]) (rx := fun t => [some (.im (tLw s.ways)), some (.im (eN t))]) rfl nd
    (ei_rangeN (ev_lenM (EV.q (ev_var 0 rfl) rfl) b.len) (by omega) b.range) (show BlkOk ["_law_ways", "_law_k"] (defScope (top 61)) _ [("_law_k", 1)] from blkOk_by (by decide +kernel)) (by simp) (fun s H C cl fp => gt_name 1 nd) (fun n _ => rfl)
    (fun t ht _ H' C' cl fp => ets_one (et_gtN (m := 2) (ev_lenM (EV.q (ev_at (d := []) (EV.q (ev_var 0 rfl) rfl) (ev_var 1 rfl) (List.mem_range.mp ht)) rfl) b.len) ev_nat))
    (fun t ht hp _ H' C' cl fp => ev_tup (ts := [_, _, _]) (ea_cons (ev_last (d := 0) (EV.q (ev_at (d := []) (EV.q (ev_var 0 rfl) rfl) (ev_var 1 rfl) (List.mem_range.mp ht)) rfl) (by have := of_decide_eq_true hp; omega)) (ea_cons (ev_var 1 rfl) (ea_cons (ev_last2 (d := 0) (EV.q (ev_at (d := []) (EV.q (ev_var 0 rfl) rfl) (ev_var 1 rfl) (List.mem_range.mp ht)) rfl) (by have := of_decide_eq_true hp; omega)) ea_nil))) (by simp)) (by rw [List.length_range]; omega)) (by unfold wl; rw [List.map_map]; rfl))) ?_ bd (wait_perm o) ?_ ?_ b.sorted)) b.tuple) rfl
  · unfold wl
    rw [List.length_map]
    have := List.length_filter_le (fun t => decide (2 < (s.way t).length)) (List.range s.nT)
    rw [List.length_range] at this
    have : s.nT ≤ 20 := o.nt
    omega
  · have mm : ∀ q ∈ waitTo s s.nH, q.1 < 64 ∧ q.2.1 < 64 ∧ q.2.2 < 64 := fun q hq => bd q ((mem_wl o).mpr hq)
    refine List.Pairwise.imp_of_mem (fun {a b} ha hb h => ?_) wait_pw
    have h1 := mm a ha
    have h2 := mm b hb
    rw [c3_eq, c3_eq]
    rcases h with h | ⟨h, h'⟩ <;> omega
  · intro q hq p hp e
    have h1 := bd q hq
    have h2 := bd p hp
    rw [c3_eq, c3_eq] at e
    obtain ⟨a, b, c⟩ := q
    obtain ⟨a', b', c'⟩ := p
    simp only at e h1 h2
    have : a = a' ∧ b = b' ∧ c = c' := by omega
    rw [this.1, this.2.1, this.2.2]
end
end TL

/-! the law's defs, part d: a moment -/
namespace TL
open PySem L2 PySem.Spec PyProof.Rows
theorem fs_filter {α β : Type} {p : α → Bool} {f : α → Option β} : ∀ (xs : List α), (xs.filter p).findSome? f = xs.findSome? fun x => if p x then f x else none
  | [] => rfl
  | x :: xs => by
    rw [List.filter_cons, List.findSome?_cons]
    cases h : p x with
    | true =>
      simp only [if_true]
      rw [List.findSome?_cons, fs_filter xs]
    | false =>
      simp only [Bool.false_eq_true, if_false]
      exact fs_filter xs
def Sd.hit (s : Sd) (h : Nat) (l : List Nat) (x : Nat) : Bool := decide (holder (s.way x) = some h) && s.freed l x
theorem least_full {s : Sd} {h : Nat} {l : List Nat} (hf : s.full h = true) : s.least h l = (List.range s.nT).findSome? fun x => if s.hit h l x then some (some x) else none := by
  unfold Sd.least Sd.hungAt
  rw [if_pos hf, fs_filter]
  congr 1
  funext x
  unfold Sd.hit
  cases decide (holder (s.way x) = some h) <;> simp
theorem hit_iff {s : Sd} {h : Nat} {l : List Nat} {x : Nat} : (decide (1 < (s.way x).length) && (decide ((s.way x).getD ((s.way x).length - 1) 0 = h) && (decide ((s.way x).length = 2) || decide ((s.way x).getD ((s.way x).length - 2) 0 ∈ l)))) = s.hit h l x := by
  unfold Sd.hit
  rw [← Bool.and_assoc, holds_iff]
  by_cases c : holder (s.way x) = some h
  · rw [decide_eq_true c, Bool.true_and, Bool.true_and]
    unfold Sd.freed Sd.want wantOf
    have h1 : 1 < (s.way x).length := by
      unfold holder at c
      by_cases z : 1 < (s.way x).length
      · exact z
      · rw [if_neg z] at c; cases c
    by_cases h2 : 2 < (s.way x).length
    · rw [if_pos h2, decide_eq_false (by omega), Bool.false_or]
    · rw [if_neg h2, decide_eq_true (by omega), Bool.true_or]
  · rw [decide_eq_false c, Bool.false_and, Bool.false_and]
/-! ### the lot left over -/
theorem least_reason {s : Sd} {h : Nat} {l : List Nat} {o : Option Nat} (e : s.least h l = some o) : s.reason h o l = true := by
  unfold Sd.least at e
  by_cases c : s.full h = true
  · rw [if_pos c] at e
    obtain ⟨x, hx, hy⟩ := List.exists_of_findSome?_eq_some e
    by_cases d : s.freed l x = true
    · rw [if_pos d] at hy
      cases hy
      show (decide (x ∈ s.hungAt h) && s.freed l x) = true
      rw [decide_eq_true hx, d]; rfl
    · rw [if_neg d] at hy; cases hy
  · rw [if_neg c] at e
    cases e
    show (!s.full h) = true
    simpa using c
def restOf (s : Sd) (l : List Nat) : List Nat := (List.range s.nH).filter fun h => !decide (h ∈ l)
theorem rest_lot {s : Sd} (o : Okay s) {l : List Nat} (e : s.next l = none) : Lot s.nH s.full s.hungAt s.want (restOf s l) := by
  intro h hh
  obtain ⟨h1, h2⟩ := List.mem_filter.mp hh
  have h2 : h ∉ l := by simpa using h2
  have h3 := List.findSome?_eq_none_iff.mp e h h1
  rw [if_neg h2] at h3
  have h4 : s.least h l = none := by
    cases c : s.least h l with
    | none => rfl
    | some o => rw [c] at h3; cases h3
  unfold Sd.least at h4
  by_cases c : s.full h = true
  · rw [if_pos c] at h4
    refine ⟨List.mem_range.mp h1, c, fun x hx => ?_⟩
    have h5 := List.findSome?_eq_none_iff.mp h4 x hx
    have h6 : s.freed l x = false := by
      cases d : s.freed l x with
      | false => rfl
      | true => rw [if_pos d] at h5; cases h5
    unfold Sd.freed at h6
    cases d : s.want x with
    | none => rw [d] at h6; cases h6
    | some k =>
      rw [d] at h6
      exact decide_eq_true (List.mem_filter.mpr ⟨List.mem_range.mpr (o.want (hungAt_lt hx) d), by simpa using h6⟩)
  · rw [if_neg c] at h4; cases h4
theorem chain_out {s : Sd} {ps : List (Nat × Option Nat)} (c : Chain s ps) {l : List Nat} (g : Lot s.nH s.full s.hungAt s.want l) : ∀ (k : Nat) (q : Nat × Option Nat), ps[k]? = some q → q.1 ∉ l := by
  intro k
  induction k using Nat.strongRecOn with
  | _ k ih =>
    intro q hq hm
    obtain ⟨h1, h2, h3⟩ := next_some (o := q.2) (c k q hq)
    obtain ⟨g1, g2, g3⟩ := g q.1 hm
    have hr := least_reason h3
    cases e : q.2 with
    | none =>
      rw [e] at hr
      have : (!s.full q.1) = true := hr
      rw [g2] at this; cases this
    | some x =>
      rw [e] at hr
      obtain ⟨r1, r2⟩ := Bool.and_eq_true_iff.mp (show (decide (x ∈ s.hungAt q.1) && s.freed ((ps.take k).map (·.1)) x) = true from hr)
      have hx := of_decide_eq_true r1
      have hw := g3 x hx
      unfold Sd.freed at r2
      cases d : s.want x with
      | none => rw [d] at hw; cases hw
      | some j =>
        rw [d] at hw r2
        have hj : j ∈ l := of_decide_eq_true hw
        obtain ⟨p, hp, rfl⟩ := List.mem_map.mp (of_decide_eq_true r2)
        obtain ⟨i, hi⟩ := List.getElem?_of_mem hp
        have hik : i < k := by
          have := (List.getElem?_eq_some_iff.mp hi).1
          rw [List.length_take] at this
          omega
        rw [List.getElem?_take_of_lt hik] at hi
        exact ih i hik p hi hj
theorem rest_gl {s : Sd} (o : Okay s) {ps : List (Nat × Option Nat)} (e : Ends s ps) {l : List Nat} (g : GL s l) : l = restOf s (ps.map (·.1)) := by
  have hl := rest_lot o e.fin
  have p1 : l.Pairwise (· < ·) := List.pairwise_lt_range.sublist g.sub
  have p2 : (restOf s (ps.map (·.1))).Pairwise (· < ·) := List.pairwise_lt_range.sublist List.filter_sublist
  refine List.Perm.eq_of_pairwise (le := fun a b => a < b) (fun a b _ _ z1 z2 => absurd z1 (Nat.lt_asymm z2)) p1 p2 ((List.perm_ext_iff_of_nodup (p1.imp fun h => Nat.ne_of_lt h) (p2.imp fun h => Nat.ne_of_lt h)).mpr fun h => ⟨fun hh => ?_, fun hh => g.top _ hl h hh⟩)
  refine List.mem_filter.mpr ⟨g.sub.subset hh, ?_⟩
  have : h ∉ ps.map (·.1) := fun hm => by
    obtain ⟨q, hq, rfl⟩ := List.mem_map.mp hm
    obtain ⟨k, hk⟩ := List.getElem?_of_mem hq
    exact chain_out e.ch g.lot k q hk hh
  simpa using this
theorem gl_stuck {s : Sd} {l : List Nat} (g : GL s l) : s.stuck l = !l.isEmpty := by
  unfold Sd.stuck
  rw [List.all_eq_true.mpr fun h hh => ?_, Bool.and_true]
  obtain ⟨_, g2, g3⟩ := g.lot h hh
  rw [g2, List.all_eq_true.mpr fun x hx => g3 x hx]; rfl
section
variable {P : Program} {w : World} {K : PySem.W.Frag} {mg : Str → Option Value} {base : Heap}
variable {C CS : Addr} {k : Nat}
def SLNext : List Sl → (T → Prop) → Prop := fun ss Po => ∃ (s : Sd) (l : List Nat), Sound s ∧ ss = [.im (tLs s), .im (tLw s.ways), .ro (l.map eN)] ∧ Po = (· = eNx (s.next l))
theorem ok_lnext (b : Bi mg) (Ld : DefOk P w K mg base "_law_load" 1 ["_law_ways", "_law_house"] SLoad) (D : DefAt K mg "_law_next_out" (top 63) ["_law_street", "_law_ways", "_law_outside"]) : DefOk P w K mg base "_law_next_out" 2 ["_law_street", "_law_ways", "_law_outside"] SLNext := by
  have nd : (["_law_street", "_law_ways", "_law_outside", "_law_house", "_law_k"] : List Str).Nodup := by decide +kernel
  refine D.ok (N := ["_law_street", "_law_ways", "_law_outside", "_law_house", "_law_k"]) ⟨rfl, rfl, rfl, nd, rfl, by decide +kernel, by decide +kernel⟩ (fun _ _ ⟨_, _, _, e, _⟩ => by rw [e]; rfl) ?_
  rintro f cdv A outer st H E hr _ _ ⟨s, l, o, rfl, rfl⟩
  have hn : s.pegs.length ≤ 12 := o.st.nh
  have ht : s.ways.length ≤ 20 := o.nt
  let R : Option Sl → Option Sl → Rho := fun a b => [some (.im (tLs s)), some (.im (tLw s.ways)), some (.ro (l.map eN)), a, b]
  refine st_for (fun k r => ∃ x y, r = R x y ∧ ∀ h ∈ (List.range s.nH).take k, (if h ∈ l then none else (s.least h l).map fun o => (h, o)) = none) (ei_rangeN (ev_lenM (EV.q (ev_at' (j := 0) (t := .lst (s.pegs.map eN)) ((ev_var 0 rfl).q rfl) ev_int rfl) rfl) b.len) (by omega) b.range) (gt_name 3 nd) ⟨none, none, rfl, by simp⟩ ?_ ?_
  · rintro k t' r1 ht' ⟨x, y, rfl, hv⟩
    obtain ⟨h, hy, rfl, _⟩ := forM ht'
    obtain ⟨rfl, hk⟩ := rangeM hy
    have hy : (List.range s.nH)[h]? = some h := hy
    refine ⟨_, rfl, ?_⟩
    refine st_ifC _ (et_niN (ev_var 3 rfl) (eo_ro 2 rfl).q) (fun z => ?_) (fun z => ?_) (fun r' h => st_nil h)
    · have hl : ¬ h ∈ l := by simpa using z
      refine st_ifR (ET.to (et_ltN (ev_call Ld hr (ea_consO (EV.o (ev_var 1 rfl)) (ea_cons (ev_var 3 rfl) ea_nil)) ⟨s.ways, h, by omega, rfl, rfl⟩) (ev_at (d := 0) (EV.q (ev_at' (j := 0) (t := .lst (s.pegs.map eN)) ((ev_var 0 rfl).q rfl) ev_int rfl) rfl) (ev_var 3 rfl) hk)) (less_iff o hk)) (fun c => st_ret (ev_tup (ts := [eN h, .non]) (ea_cons (ev_var 3 rfl) (ea_cons ev_non ea_nil)) (by simp)) ?_) fun c => ?_
      · show _ = eNx _
        have c : s.full h = false := by simpa using c
        unfold Sd.next
        rw [fs_some hy hv (v := (h, none)) (by rw [if_neg hl]; unfold Sd.least; rw [if_neg (by rw [c]; exact Bool.false_ne_true)]; rfl)]
        rfl
      have hf : s.full h = true := by simpa using c
      refine st_for (fun j r => ∃ y, r = R (some (.im (eN h))) y ∧ ∀ x ∈ (List.range s.nT).take j, (if s.hit h l x then some (some x) else none) = (none : Option (Option Nat))) (ei_rangeN (ev_lenM (EV.q (ev_var 1 rfl) rfl) b.len) (by omega) b.range) (gt_name 4 nd) ⟨y, rfl, by simp⟩ ?_ ?_
      · rintro j t2 r2 ht2 ⟨y, rfl, hv2⟩
        obtain ⟨x, hx, rfl, _⟩ := forM ht2
        obtain ⟨rfl, hj⟩ := rangeM hx
        have hx : (List.range s.nT)[x]? = some x := hx
        refine ⟨_, rfl, ?_⟩
        have h1 : 1 ≤ (s.ways.getD x []).length := o.okay.len1 hj
        refine st_ifR (ET.to (EW.et (ew_and (et_gtN (m := 1) (ev_lenM (EV.q (ev_at (d := []) (EV.q (ev_var 1 rfl) rfl) (ev_var 4 rfl) hj) rfl) b.len) ev_nat) fun z1 => ew_and (et_eqN (ev_last (d := 0) (EV.q (ev_at (d := []) (EV.q (ev_var 1 rfl) rfl) (ev_var 4 rfl) hj) rfl) h1) (ev_var 3 rfl)) fun z2 => ew_and1 (EW.et (ew_or (et_eqN (m := 2) (ev_lenM (EV.q (ev_at (d := []) (EV.q (ev_var 1 rfl) rfl) (ev_var 4 rfl) hj) rfl) b.len) ev_nat) fun z3 => ew_or1 (et_inN (l := l) (ev_last2 (d := 0) (EV.q (ev_at (d := []) (EV.q (ev_var 1 rfl) rfl) (ev_var 4 rfl) hj) rfl) (of_decide_eq_true z1)) (eo_ro 2 rfl).q))))) hit_iff) (fun z => st_ret (ev_tup (ts := [eN h, eN x]) (ea_cons (ev_var 3 rfl) (ea_cons (ev_var 4 rfl) ea_nil)) (by simp)) ?_) fun z => st_nil ⟨_, rfl, take_succ_all hx hv2 (by rw [if_neg (by rw [z]; exact Bool.false_ne_true)])⟩
        show _ = eNx _
        unfold Sd.next
        rw [fs_some hy hv (v := (h, some x)) (by rw [if_neg hl, least_full hf, fs_some hx hv2 (by rw [if_pos z])]; rfl)]
        rfl
      · rintro r2 ⟨y, rfl, hv2⟩
        refine st_nil ⟨_, _, rfl, take_succ_all hy hv ?_⟩
        rw [if_neg hl, least_full hf, fs_none fun x hx => hv2 x (by rw [List.length_map, List.length_range, show s.ways.length = s.nT from rfl, List.take_of_length_le (by rw [List.length_range]; exact Nat.le_refl _)]; exact hx)]
        rfl
    · have hl : h ∈ l := by simpa using z
      exact st_nil ⟨_, _, rfl, take_succ_all hy hv (by rw [if_pos hl])⟩
  · rintro r' ⟨x, y, rfl, hv⟩
    refine st_ret ev_non ?_
    show _ = eNx _
    unfold Sd.next
    rw [fs_none fun x hx => hv x (by rw [List.length_map, List.length_range, show s.pegs.length = s.nH from rfl, List.take_of_length_le (by rw [List.length_range]; exact Nat.le_refl _)]; exact hx)]
    rfl
def SWaits (C CS : Addr) : List Sl → (T → Prop) → Prop := fun ss Po => ∃ (s : Sd), Okay s ∧ ss = [.im (tLw s.ways), .im (tStand C CS s)] ∧ Po = (· = .bl true)
theorem ok_waits (b : Bi mg) (g : IsSg K C) (Sm : ∀ d, DefOk P w K mg base "_law_same" (d + 2) ["_law_actual", "_law_due"] (SSame d)) (Wt : DefOk P w K mg base "waiting" 3 ["standing"] (SWaiting C CS)) (Lw : DefOk P w K mg base "_law_waiting" 1 ["_law_ways"] SLWait) (Wd : MetOk P w K mg base C "wanted" 1 ["self", "tool"] (SWanted C CS))
    (D : DefAt K mg "_law_waits" (top 62) ["_law_ways", "_law_standing"]) : DefOk P w K mg base "_law_waits" 5 ["_law_ways", "_law_standing"] (SWaits C CS) := by
  have nd : (["_law_ways", "_law_standing", "_law_k", "_law_due"] : List Str).Nodup := by decide +kernel
  refine D.ok (N := ["_law_ways", "_law_standing", "_law_k", "_law_due"]) ⟨rfl, rfl, rfl, nd, rfl, by decide +kernel, by decide +kernel⟩ (fun _ _ ⟨_, _, e, _⟩ => by rw [e]; rfl) ?_
  rintro f cdv A outer st H E hr _ _ ⟨s, o, rfl, rfl⟩
  have hn := o.nh
  have ht : s.ways.length ≤ 20 := o.nt
  have hl := waitTo_len (s := s) (k := s.nH)
  have hl2 : s.nH * s.nT ≤ 12 * 20 := Nat.mul_le_mul hn o.nt
  refine st_ifR (k := false) (et_not (k := true) (et_val (ev_call (Sm 2) hr (ea_cons (ev_call Wt (hr.mono (by decide)) (ea_cons (ev_var 1 rfl) ea_nil) ⟨s, by omega, by have : s.nT ≤ 20 := o.nt; omega, rfl, rfl⟩) (ea_cons (ev_call Lw (hr.mono (by decide)) (ea_cons (ev_var 0 rfl) ea_nil) ⟨s, o, rfl, rfl⟩) ea_nil)) ⟨_, DS.tri (d := 0) (by omega), rfl, rfl⟩))) (fun z => by cases z) fun _ => ?_
  refine st_for (fun k r => ∃ x y, r = [some (.im (tLw s.ways)), some (.im (tStand C CS s)), x, y]) (ei_rangeN (ev_lenM (EV.q (ev_var 0 rfl) rfl) b.len) (by omega) b.range) (gt_name 2 nd) ⟨none, none, rfl⟩ ?_ ?_
  · rintro k t' r1 ht' ⟨x, y, rfl⟩
    obtain ⟨h, hy, rfl, _⟩ := forM ht'
    obtain ⟨rfl, hk⟩ := rangeM hy
    refine ⟨_, rfl, ?_⟩
    refine st_set 3 nd (ev_if (k := decide (2 < (s.ways.getD h []).length)) (t := eO (s.want h)) (et_gtN (m := 2) (ev_lenM (EV.q (ev_at (d := []) (EV.q (ev_var 0 rfl) rfl) (ev_var 2 rfl) hk) rfl) b.len) ev_nat) (fun z => EV.to (ev_last2 (d := 0) (EV.q (ev_at (d := []) (EV.q (ev_var 0 rfl) rfl) (ev_var 2 rfl) hk) rfl) (Nat.le_of_lt (of_decide_eq_true z))) ?_) (fun z => EV.to ev_non ?_)) ?_
    · show _ = eO (wantOf (s.ways.getD h []))
      unfold wantOf
      rw [if_pos (of_decide_eq_true z)]; rfl
    · show _ = eO (wantOf (s.ways.getD h []))
      unfold wantOf
      rw [if_neg (of_decide_eq_false z)]; rfl
    exact st_ifR (k := false) (et_not (k := true) (et_val (ev_call (Sm 0) (hr.mono (by decide)) (ea_cons (EP.v (ep_met Wd (hr.mono (by decide)) g.cls (ev_var 1 rfl) (by decide) (ea_cons (ev_var 2 rfl) ea_nil) ⟨s, h, hk, rfl, rfl⟩)) (ea_cons (ev_var 3 rfl) ea_nil)) ⟨_, DS.eO, rfl, rfl⟩))) (fun z => by cases z) fun _ => st_nil ⟨_, _, rfl⟩
  · rintro r' ⟨x, y, rfl⟩
    exact st_ret ev_bl rfl
end
end TL

/-! the law's defs, part e: a moment, what is held -/
namespace TL
open PySem L2 PySem.Spec PyProof.Rows
section
variable {P : Program} {w : World} {K : PySem.W.Frag} {mg : Str → Option Value} {base : Heap}
variable {C CS : Addr} {k : Nat}
abbrev heads (ps : List (Nat × Option Nat)) : List Nat := ps.map fun q => q.1
theorem rest_lt {s : Sd} {l : List Nat} : ∀ h ∈ restOf s l, h < s.nH := fun h hh => List.mem_range.mp (List.mem_filter.mp hh).1
theorem rest_pw {s : Sd} {l : List Nat} : (restOf s l).Pairwise (· < ·) := List.pairwise_lt_range.sublist List.filter_sublist
def SMoment (C CS : Addr) : List Sl → (T → Prop) → Prop := fun ss Po => ∃ (s : Sd), Sound s ∧ ss = [.im (tLs s), .im (tLw s.ways), .im (tStand C CS s)] ∧ Po = (· = .bl true)
theorem ok_moment (b : Bi mg) (g : IsSg K C) (Wa : DefOk P w K mg base "_law_waits" 5 ["_law_ways", "_law_standing"] (SWaits C CS)) (Tk : DefOk P w K mg base "taking_out" 5 ["standing"] (STaking C CS)) (Gr : DefOk P w K mg base "greatest_lot" 4 ["standing"] (SGreat C CS)) (Nx : DefOk P w K mg base "_law_next_out" 2 ["_law_street", "_law_ways", "_law_outside"] SLNext)
    (Sm : ∀ d, DefOk P w K mg base "_law_same" (d + 2) ["_law_actual", "_law_due"] (SSame d)) (Ls : DefOk P w K mg base "_law_is_stuck" 1 ["_law_needs_here", "_law_lot"] SLStuck) (Ne : DefOk P w K mg base "_law_needs" 1 ["_law_street", "_law_ways"] SNeeds) (It : DefOk P w K mg base "is_taking_out" 4 ["standing", "pairs"] (SIsTaking C CS)) (Sk : DefOk P w K mg base "is_stuck" 4 ["standing", "lot"] (SStuck C CS))
    (D : DefAt K mg "_law_moment" (top 64) ["_law_street", "_law_ways", "_law_standing"]) : DefOk P w K mg base "_law_moment" 6 ["_law_street", "_law_ways", "_law_standing"] (SMoment C CS) := by
  have nd : (["_law_street", "_law_ways", "_law_standing", "_law_order", "_law_lot", "_law_outside", "_law_pair", "_law_due", "_law_rest", "_law_house"] : List Str).Nodup := by decide +kernel
  refine D.ok (N := ["_law_street", "_law_ways", "_law_standing", "_law_order", "_law_lot", "_law_outside", "_law_pair", "_law_due", "_law_rest", "_law_house"]) ⟨rfl, rfl, rfl, nd, rfl, by decide +kernel, by decide +kernel⟩ (fun _ _ ⟨_, _, e, _⟩ => by rw [e]; rfl) ?_
  rintro f cdv A outer st H E hr _ _ ⟨s, o, rfl, rfl⟩
  have oo := o.okay
  have hn := o.st.nh
  have hn' : s.pegs.length ≤ 12 := hn
  have ht : s.nT ≤ 20 := o.nt
  refine st_ifR (k := false) (et_not (k := true) (et_val (ev_call Wa hr (ea_cons (ev_var 1 rfl) (ea_cons (ev_var 2 rfl) ea_nil)) ⟨s, oo, rfl, rfl⟩))) (fun z => by cases z) fun _ => ?_
  refine st_setP 3 nd (ep_call Tk hr (ea_cons (ev_var 2 rfl) ea_nil) ⟨s, by omega, rfl, rfl⟩) ?_
  rintro _ ⟨ps, en, rfl⟩
  have hpl := en.ch.len
  refine st_setP 4 nd (ep_call Gr (hr.mono (by decide)) (ea_cons (ev_var 2 rfl) ea_nil) ⟨s, by omega, by omega, rfl, rfl⟩) ?_
  rintro _ ⟨l, gl, rfl⟩
  have hrest := rest_gl oo en gl
  have hlen : l.length ≤ 12 := Nat.le_trans (by have := gl.sub.length_le; rwa [List.length_range] at this) hn
  refine st_ifR (k := false) (EW.et (ew_or (k1 := false) (k2 := false) (et_not (k := true) (et_val (ev_isi (ev_var 3 rfl) (ev_tyn (n := "tuple") b.tuple) rfl (by decide +kernel) b.isi))) fun _ => ew_or1 (ET.to (et_gtN (ev_lenM (EV.q (ev_var 3 rfl) rfl) b.len) (ev_lenM (EV.q (ev_at' (j := 0) (t := .lst (s.pegs.map eN)) ((ev_var 0 rfl).q rfl) ev_int rfl) rfl) b.len)) (decide_eq_false (Nat.not_lt.mpr hpl))))) (fun z => by cases z) fun _ => ?_
  refine st_setL 5 nd (el_lst (ts := []) ea_nil (by simp)) ?_
  let R : Option Sl → Option Sl → Option Sl → Option Sl → Option Sl → Rho := fun u a c d e => [some (.im (tLs s)), some (.im (tLw s.ways)), some (.im (tStand C CS s)), some (.im (.tup (ps.map eR))), some (.im (eNs l)), u, a, c, d, e]
  refine st_for (fun k r => ∃ x y, r = R (some (.ow ((heads (ps.take k)).map eN))) x y none none) (ei_tup (ev_var 3 rfl)) (gt_name 6 nd) ⟨none, none, rfl⟩ ?_ ?_
  · rintro k t' r1 ht' ⟨x, y, rfl⟩
    obtain ⟨q, hq, rfl, hk⟩ := forM ht'
    have e1 := en.ch k q hq
    refine ⟨_, rfl, ?_⟩
    refine st_set 7 nd (EV.to (ev_call Nx (hr.mono (by decide)) (ea_cons (ev_var 0 rfl) (ea_cons (ev_var 1 rfl) (ea_consO (eo_ow 5 rfl) ea_nil))) ⟨s, heads (ps.take k), o, rfl, rfl⟩) (t' := eR q) (by rw [e1]; rfl)) ?_
    refine st_ifR (k := false) (EW.et (ew_or (k1 := false) (k2 := false) (ET.to (et_isN (ev_var 7 rfl)) rfl) fun _ => ew_or1 (et_not (k := true) (et_val (ev_call (Sm 1) (hr.mono (by decide)) (ea_cons (ev_var 6 rfl) (ea_cons (ev_var 7 rfl) ea_nil)) ⟨_, DS.eR, rfl, rfl⟩))))) (fun z => by cases z) fun _ => ?_
    refine st_app 5 rfl (ev_at' (j := 0) (t := eN q.1) (EV.q (ev_var 7 rfl) rfl) ev_int rfl) (by rw [List.length_map, List.length_map, List.length_take]; omega) (st_nil ⟨some (.im (eR q)), some (.im (eR q)), ?_⟩)
    rw [List.take_add_one, hq]
    show _ = R (some (Sl.ow ((heads (ps.take k ++ [q])).map eN))) _ _ _ _
    rw [show (heads (ps.take k ++ [q])).map eN = (heads (ps.take k)).map eN ++ [eN q.1] by simp [heads]]
    rfl
  rintro r1 ⟨x, y, rfl⟩
  rw [List.length_map, List.take_length]
  have e2 := en.fin
  refine st_ifR (k := false) (ET.to (et_notN (ev_call Nx (hr.mono (by decide)) (ea_cons (ev_var 0 rfl) (ea_cons (ev_var 1 rfl) (ea_consO (eo_ow 5 rfl) ea_nil))) ⟨s, heads ps, o, rfl, rfl⟩)) (by rw [e2]; rfl)) (fun z => by cases z) fun _ => ?_
  refine st_set 8 nd (EV.to (ev_tupC (xs := List.range s.pegs.length) (enc := eN) (pp := fun h => !decide (h ∈ heads ps)) (g := eN) (rx := fun h => R (some (.ow ((heads ps).map eN))) x y none (some (.im (eN h)))) b.tuple rfl nd (ei_rangeN (ev_lenM (EV.q (ev_at' (j := 0) (t := .lst (s.pegs.map eN)) ((ev_var 0 rfl).q rfl) ev_int rfl) rfl) b.len) (by omega) b.range) (show BlkOk ["_law_street", "_law_ways", "_law_standing", "_law_order", "_law_lot", "_law_outside", "_law_pair", "_law_due", "_law_rest", "_law_house"] (defScope (top 64)) _ [("_law_house", 9)] from blkOk_by (by decide +kernel)) (by simp) (fun s H C cl fp => gt_name 9 nd) (fun n _ => rfl)
    (fun h hh _ H' C' cl fp => ets_one (et_niN (l := heads ps) (ev_var 9 rfl) (eo_ow 5 rfl).q)) (fun h hh _ _ H' C' cl fp => ev_var 9 rfl) (by rw [List.length_range]; omega)) (t' := eNs l) (by rw [hrest]; rfl)) ?_
  refine st_ifR (k := false) (et_not (k := true) (et_val (ev_call (Sm 1) (hr.mono (by decide)) (ea_cons (ev_var 4 rfl) (ea_cons (ev_var 8 rfl) ea_nil)) ⟨_, DS.nats (by omega), rfl, rfl⟩))) (fun z => by cases z) fun _ => ?_
  have hst := gl_stuck gl
  have hlt : ∀ h ∈ l, h < s.nH := fun h hh => List.mem_range.mp (gl.sub.subset hh)
  refine st_ifR (k := false) (ET.to (EW.et (ew_and (k2 := false) (et_gtN (m := 0) (ev_lenM (EV.q (ev_var 8 rfl) rfl) b.len) ev_nat) fun z => ew_and1 (ET.to (et_not (et_val (ev_call Ls (hr.mono (by decide)) (ea_cons (ev_call Ne (hr.mono (by decide)) (ea_cons (ev_var 0 rfl) (ea_cons (ev_var 1 rfl) ea_nil)) ⟨s, o, rfl, rfl⟩) (ea_cons (ev_var 8 rfl) ea_nil)) ⟨s, l, hlt, rfl, rfl⟩))) ?_))) (by rw [Bool.and_false])) (fun z => by cases z) fun _ => ?_
  · rw [hst]
    have := of_decide_eq_true z
    cases l with
    | nil => exact absurd this (by simp)
    | cons _ _ => rfl
  refine st_ifR (k := false) (ET.to (et_notB (b0 := true) (ev_call It (hr.mono (by decide)) (ea_cons (ev_var 2 rfl) (ea_cons ?lst ea_nil)) ⟨s, ps, by omega, ?chn, rfl, rfl⟩)) rfl) (fun z => by cases z) fun _ => ?go
  case lst => exact (EL.v (el_map (xs := ps) (enc := eR) (g := fun q => .lst [eN q.1, eO q.2]) (rx := fun q => R (some (.ow ((heads ps).map eN))) (some (.im (eR q))) y (some (.im (eNs l))) none) rfl nd (ei_tup (ev_var 3 rfl)) (show BlkOk ["_law_street", "_law_ways", "_law_standing", "_law_order", "_law_lot", "_law_outside", "_law_pair", "_law_due", "_law_rest", "_law_house"] (defScope (top 64)) _ [("_law_pair", 6)] from blkOk_by (by decide +kernel)) (by simp) (fun s H C cl fp => gt_name 6 nd) (fun n _ => rfl)
    (fun q hq _ H' C' cl fp => EL.v (el_list (EV.q (ev_var 6 rfl) rfl) b.list)) (by omega)))
  case chn =>
    intro k q hq
    obtain ⟨h1, h2, h3⟩ := next_some (o := q.2) (en.ch k q hq)
    exact ⟨h1, h2, least_reason h3⟩
  refine st_ret (ev_call (Sm 0) (hr.mono (by decide)) (ea_cons (ev_call Sk (hr.mono (by decide)) (ea_cons (ev_var 2 rfl) (ea_cons (EL.v (el_list (EV.q (ev_var 4 rfl) rfl) b.list)) ea_nil)) ⟨s, l, _, oo, .inr rfl, List.pairwise_lt_range.sublist gl.sub, hlt, rfl, rfl⟩) (ea_cons (EV.to (ev_gtN (m := 0) (ev_lenM (EV.q (ev_var 8 rfl) rfl) b.len) ev_nat) (t' := .bl (s.stuck l)) ?_) ea_nil)) ⟨_, .bl, rfl, rfl⟩) rfl
  rw [hst]
  cases l <;> simp
def SHoldL (C CS : Addr) : List Sl → (T → Prop) → Prop := fun ss Po => ∃ (s : Sd) (ls : List (List Nat)), Sound s ∧ ls.length ≤ 1000 ∧ (∀ l ∈ ls, l.Pairwise (· < ·) ∧ (∀ x ∈ l, x < s.nH) ∧ s.stuck l = true) ∧ ss = [.im (tLw s.ways), .im (tStand C CS s), .im (.lst (ls.map eNs))] ∧ Po = (· = .bl true)
theorem stuck_back {s : Sd} (o : Okay s) {l : List Nat} (h : s.stuck l = true) {t : Nat} (ht : t < s.nT) : (decide (1 < (s.way t).length) && (decide ((s.way t).getD ((s.way t).length - 1) 0 ∈ l) && decide (t ∈ (List.range s.nT).filter s.canBack))) = false := by
  by_cases h1 : 1 < (s.way t).length
  · by_cases h2 : (s.way t).getD ((s.way t).length - 1) 0 ∈ l
    · have h3 := (Bool.and_eq_true_iff.mp h).2
      have h4 := List.all_eq_true.mp h3 _ h2
      have hx : t ∈ s.hungAt ((s.way t).getD ((s.way t).length - 1) 0) := List.mem_filter.mpr ⟨List.mem_range.mpr ht, by unfold holder; rw [if_pos h1]; exact decide_eq_true rfl⟩
      have h5 := List.all_eq_true.mp (Bool.and_eq_true_iff.mp h4).2 t hx
      cases e : s.want t with
      | none => rw [e] at h5; cases h5
      | some k =>
        rw [e] at h5
        have h6 := List.all_eq_true.mp h3 k (of_decide_eq_true h5)
        have h7 : s.canBack t = false := by
          unfold Sd.canBack
          rw [e]
          show (decide (1 < (s.way t).length) && !s.full k) = false
          rw [(Bool.and_eq_true_iff.mp h6).1]
          simp
        have : t ∉ (List.range s.nT).filter s.canBack := fun hm => by
          have := (List.mem_filter.mp hm).2
          rw [h7] at this; cases this
        rw [decide_eq_false this, Bool.and_false, Bool.and_false]
    · rw [decide_eq_false h2, Bool.false_and, Bool.and_false]
  · rw [decide_eq_false h1, Bool.false_and]
theorem ok_holdL (b : Bi mg) (Re : DefOk P w K mg base "returns" 3 ["standing"] (SRet C CS)) (Sk : DefOk P w K mg base "is_stuck" 4 ["standing", "lot"] (SStuck C CS)) (D : DefAt K mg "_law_held" (top 65) ["_law_ways", "_law_standing", "_law_lots"]) : DefOk P w K mg base "_law_held" 5 ["_law_ways", "_law_standing", "_law_lots"] (SHoldL C CS) := by
  have nd : (["_law_ways", "_law_standing", "_law_lots", "_law_backs", "_law_lot", "_law_k"] : List Str).Nodup := by decide +kernel
  refine D.ok (N := ["_law_ways", "_law_standing", "_law_lots", "_law_backs", "_law_lot", "_law_k"]) ⟨rfl, rfl, rfl, nd, rfl, by decide +kernel, by decide +kernel⟩ (fun _ _ ⟨_, _, _, _, _, e, _⟩ => by rw [e]; rfl) ?_
  rintro f cdv A outer st H E hr _ _ ⟨s, ls, o, hls, hl, rfl, rfl⟩
  have oo := o.okay
  have ht : s.ways.length ≤ 20 := o.nt
  refine st_set 3 nd (ev_call Re (hr.mono (by decide)) (ea_cons (ev_var 1 rfl) ea_nil) ⟨s, oo, rfl, rfl⟩) ?_
  let R : Option Sl → Option Sl → Rho := fun a b => [some (.im (tLw s.ways)), some (.im (tStand C CS s)), some (.im (.lst (ls.map eNs))), some (.im (eNs ((List.range s.nT).filter s.canBack))), a, b]
  refine st_for (fun k r => ∃ x, r = R x none) (ei_list (ev_var 2 rfl)) (gt_name 4 nd) ⟨none, rfl⟩ ?_ ?_
  · rintro k t' r1 ht' ⟨x, rfl⟩
    obtain ⟨l, hq, rfl, hk⟩ := forM ht'
    obtain ⟨h1, h2, h3⟩ := hl l (mem_of_get hq)
    refine ⟨_, rfl, ?_⟩
    refine st_ifR (k := false) (ET.to (et_notB (b0 := true) (ev_call Sk hr (ea_cons (ev_var 1 rfl) (ea_cons (ev_var 4 rfl) ea_nil)) ⟨s, l, _, oo, .inl rfl, h1, h2, rfl, rfl⟩)) (by rw [h3]; rfl)) (fun z => by cases z) fun _ => ?_
    refine st_ifR (k := false) (et_val (EV.to (ev_any (bs := (List.range s.ways.length).map fun _ => false) (EL.o (EL.to (el_map (xs := List.range s.ways.length) (enc := eN) (g := fun _ => .bl false) (rx := fun i => R (some (.im (eNs l))) (some (.im (eN i)))) rfl nd (ei_rangeN (ev_lenM (EV.q (ev_var 0 rfl) rfl) b.len) (by omega) b.range) (show BlkOk ["_law_ways", "_law_standing", "_law_lots", "_law_backs", "_law_lot", "_law_k"] (defScope (top 65)) _ [("_law_k", 5)] from blkOk_by (by decide +kernel)) (by simp) (fun s H C cl fp => gt_name 5 nd) (fun n _ => rfl)
      (fun i hi _ H' C' cl fp => ?_) (by rw [List.length_range]; omega)) (by rw [List.map_map]; rfl))) rfl b.any) (t' := .bl false) (by simp))) (fun z => by cases z) fun _ => st_nil ⟨_, rfl⟩
    have hi' : i < s.nT := List.mem_range.mp hi
    have h1 : 1 ≤ (s.ways.getD i []).length := oo.len1 hi'
    refine EV.to (ev_and (ev_gtN (m := 1) (ev_lenM (EV.q (ev_at (d := []) (EV.q (ev_var 0 rfl) rfl) (ev_var 5 rfl) hi') rfl) b.len) ev_nat) fun _ => ev_and (ev_inN (ev_last (d := 0) (EV.q (ev_at (d := []) (EV.q (ev_var 0 rfl) rfl) (ev_var 5 rfl) hi') rfl) h1) (EV.q (ev_var 4 rfl) rfl)) fun _ => ev_one (ev_inN (l := (List.range s.nT).filter s.canBack) (ev_var 5 rfl) (EV.q (ev_var 3 rfl) rfl))) ?_
    exact congrArg T.bl (stuck_back oo h3 hi')
  · rintro r1 ⟨x, rfl⟩
    exact st_ret ev_bl rfl
end
end TL

/-! what a deed changes -/
namespace TL
open PySem L2
theorem way_upd {s : Sd} {t i : Nat} {w : List Nat} (ht : t < s.nT) : (s.upd t w).way i = if i = t then w else s.way i := by
  show (s.ways.set t w).getD i [] = if i = t then w else s.ways.getD i []
  have ht' : t < s.ways.length := ht
  rw [List.getD_eq_getElem?_getD, List.getElem?_set]
  by_cases c : i = t
  · subst c; rw [if_pos rfl, if_pos rfl, if_pos ht']; rfl
  · rw [if_neg (fun e => c e.symm), if_neg c, List.getD_eq_getElem?_getD]
theorem nT_upd {s : Sd} {t : Nat} {w : List Nat} : (s.upd t w).nT = s.nT := List.length_set
theorem hung_upd {s : Sd} {t : Nat} {w : List Nat} {h : Nat} (ht : t < s.nT) : (s.upd t w).hungAt h = (List.range s.nT).filter fun i => decide (holder (if i = t then w else s.way i) = some h) := by
  unfold Sd.hungAt
  rw [nT_upd]
  exact List.filter_congr fun i _ => by rw [way_upd ht]
theorem hung_same {s : Sd} {t : Nat} {w : List Nat} {h : Nat} (ht : t < s.nT) (h1 : holder (s.way t) ≠ some h) (h2 : holder w ≠ some h) : (s.upd t w).hungAt h = s.hungAt h := by
  rw [hung_upd ht]
  unfold Sd.hungAt
  refine List.filter_congr fun i _ => ?_
  by_cases c : i = t
  · subst c; rw [if_pos rfl, decide_eq_false h1, decide_eq_false h2]
  · rw [if_neg c]
theorem hung_nodup {s : Sd} {h : Nat} : (s.hungAt h).Nodup := List.nodup_range.sublist List.filter_sublist
theorem hung_le {s : Sd} {t : Nat} {w : List Nat} {h : Nat} (ht : t < s.nT) : ((s.upd t w).hungAt h).length ≤ (s.hungAt h).length + (if holder w = some h then 1 else 0) := by
  have hs : ∀ x ∈ (s.upd t w).hungAt h, x ∈ s.hungAt h ++ (if holder w = some h then [t] else []) := fun x hx => by
    rw [hung_upd ht] at hx
    obtain ⟨h1, h2⟩ := List.mem_filter.mp hx
    have h2 := of_decide_eq_true h2
    by_cases c : x = t
    · rw [if_pos c] at h2
      rw [if_pos h2, c]
      exact List.mem_append_right _ (by simp)
    · rw [if_neg c] at h2
      exact List.mem_append_left _ (List.mem_filter.mpr ⟨h1, decide_eq_true h2⟩)
  have := hung_nodup.length_le_of_subset hs
  rw [List.length_append] at this
  split at this <;> simp_all
theorem want_upd {s : Sd} {t i : Nat} {w : List Nat} (ht : t < s.nT) (c : i ≠ t) : (s.upd t w).want i = s.want i := by
  unfold Sd.want
  rw [way_upd ht, if_neg c]
def newWay (s : Sd) : Deed → List Nat
  | .lend t h => s.way t ++ [h]
  | .back t => (s.way t).dropLast
def dt : Deed → Nat
  | .lend t _ => t
  | .back t => t
theorem after_eq (s : Sd) (d : Deed) : s.after d = s.upd (dt d) (newWay s d) := by cases d <;> rfl
theorem CanDo.lt {s : Sd} {d : Deed} (c : CanDo s d) : dt d < s.nT := by cases d <;> exact c.1
/-- where the tool hangs behind the deed: no full house -/
theorem new_holder {s : Sd} (o : Sound s) {d : Deed} (c : CanDo s d) {h : Nat} (e : holder (newWay s d) = some h) : s.full h = false := by
  cases d with
  | lend t h0 =>
    have : h = h0 := by
      have e : holder (s.way t ++ [h0]) = some h := e
      unfold holder at e
      split at e
      · have e := Option.some.inj e
        rw [← e]
        simp [List.getD_eq_getElem?_getD]
      · cases e
    rw [this]; exact c.2.2.2
  | back t =>
    have hl : 1 < (s.way t).length := canBack_len c.2
    have hc := (Bool.and_eq_true_iff.mp c.2).2
    have e : holder (s.way t).dropLast = some h := e
    unfold holder at e
    split at e
    · rename_i h1
      have e := Option.some.inj e
      have h2 : 2 < (s.way t).length := by rw [List.length_dropLast] at h1; omega
      have hw : s.want t = some h := by
        unfold Sd.want wantOf
        rw [if_pos h2, ← e]
        congr 1
        rw [List.length_dropLast, List.getD_eq_getElem?_getD, List.getD_eq_getElem?_getD, List.getElem?_dropLast, if_pos (by omega)]
        rfl
      rw [hw] at hc
      have hc : (!s.full h) = true := hc
      simpa using hc
    · cases e
def Short (b : Nat) (s : Sd) : Prop := ∀ w ∈ s.ways, w.length ≤ b
theorem new_way_ok {s : Sd} (o : Sound s) {d : Deed} (c : CanDo s d) (hs : Short 99 s) : OkWay s (newWay s d) := by
  have ow := o.ways _ (o.okay.way c.lt)
  have hsl := hs _ (o.okay.way c.lt)
  cases d with
  | lend t h =>
    have h1 : 1 ≤ (s.way t).length := o.okay.len1 c.1
    have hsl : (s.way t).length ≤ 99 := hsl
    refine ⟨by simp [newWay], fun x hx => ?_, fun i hi => ?_, by simp only [newWay, List.length_append, List.length_singleton]; omega⟩
    · rcases List.mem_append.mp hx with hx | hx
      · exact ow.lt x hx
      · rw [List.mem_singleton.mp hx]; exact c.2.1
    · have hi : i + 1 < (s.way t).length + 1 := by simpa [newWay] using hi
      show ((s.way t ++ [h]).getD i 0, (s.way t ++ [h]).getD (i + 1) 0) ∈ s.lanes
      rw [List.getD_eq_getElem?_getD, List.getD_eq_getElem?_getD, List.getElem?_append_left (by omega)]
      by_cases z : i + 1 < (s.way t).length
      · rw [List.getElem?_append_left z, ← List.getD_eq_getElem?_getD, ← List.getD_eq_getElem?_getD]
        exact ow.st i z
      · have e : i = (s.way t).length - 1 := by omega
        rw [List.getElem?_append_right (by omega), show i + 1 - (s.way t).length = 0 by omega, ← List.getD_eq_getElem?_getD, e]
        exact c.2.2.1
  | back t =>
    have hl : 1 < (s.way t).length := canBack_len c.2
    refine ⟨fun e => ?_, fun x hx => ow.lt x (List.dropLast_subset _ hx), fun i hi => ?_, ?_⟩
    · have := congrArg List.length e
      simp only [newWay, List.length_dropLast, List.length_nil] at this
      omega
    · have hi : i + 1 < (s.way t).length - 1 := by simpa [newWay] using hi
      show ((s.way t).dropLast.getD i 0, (s.way t).dropLast.getD (i + 1) 0) ∈ s.lanes
      rw [List.getD_eq_getElem?_getD, List.getD_eq_getElem?_getD, List.getElem?_dropLast, List.getElem?_dropLast, if_pos (by omega), if_pos (by omega), ← List.getD_eq_getElem?_getD, ← List.getD_eq_getElem?_getD]
      exact ow.st i (by show i + 1 < (s.way t).length; omega)
    · have : (s.way t).length ≤ 99 := hsl
      simp only [newWay, List.length_dropLast]
      omega
theorem Sound.after {s : Sd} (o : Sound s) {d : Deed} (c : CanDo s d) (hs : Short 99 s) : Sound (s.after d) := by
  rw [after_eq]
  have hw := new_way_ok o c hs
  refine ⟨⟨o.st.nh, o.st.pegs, o.st.lt, o.st.asc, o.st.len⟩, ?_, fun w h => ?_, fun h hh => ?_⟩
  · rw [nT_upd]; exact o.nt
  · rcases List.mem_or_eq_of_mem_set h with h | rfl
    · have := o.ways w h
      exact ⟨this.ne, this.lt, this.st, this.len⟩
    · exact ⟨hw.ne, hw.lt, hw.st, hw.len⟩
  · show _ ≤ s.peg h
    refine Nat.le_trans (hung_le c.lt) ?_
    have h1 := o.load h hh
    by_cases e : holder (newWay s d) = some h
    · have := new_holder o c e
      have : ¬ s.peg h ≤ (s.hungAt h).length := of_decide_eq_false this
      rw [if_pos e]
      omega
    · rw [if_neg e]
      exact h1
theorem Short.after {s : Sd} {b : Nat} {d : Deed} (o : Okay s) (c : CanDo s d) (hs : Short b s) : Short (b + 1) (s.after d) := by
  rw [after_eq]
  intro w hw
  have h1 := hs _ (o.way c.lt)
  rcases List.mem_or_eq_of_mem_set hw with h | rfl
  · exact Nat.le_succ_of_le (hs w h)
  · cases d with
    | lend t h =>
      have h1 : (s.way t).length ≤ b := h1
      simp only [newWay, List.length_append, List.length_singleton]; omega
    | back t =>
      have h1 : (s.way t).length ≤ b := h1
      simp only [newWay, List.length_dropLast]; omega
/-- a lot stays held under a deed by a tool that hangs elsewhere -/
theorem stuck_after {s : Sd} (o : Sound s) {d : Deed} (c : CanDo s d) {l : List Nat} (h : s.stuck l = true) (hx : ∀ h, holder (s.way (dt d)) = some h → h ∉ l) : (s.after d).stuck l = true := by
  rw [after_eq]
  obtain ⟨h1, h2⟩ := Bool.and_eq_true_iff.mp h
  have h2 := List.all_eq_true.mp h2
  refine Bool.and_eq_true_iff.mpr ⟨h1, List.all_eq_true.mpr fun k hk => ?_⟩
  obtain ⟨h3, h4⟩ := Bool.and_eq_true_iff.mp (h2 k hk)
  have e1 : (s.upd (dt d) (newWay s d)).hungAt k = s.hungAt k := hung_same c.lt (fun e => hx k e hk) (fun e => by
    have := new_holder o c e
    rw [h3] at this; cases this)
  refine Bool.and_eq_true_iff.mpr ⟨?_, List.all_eq_true.mpr fun x hx' => ?_⟩
  · unfold Sd.full
    rw [e1]; exact h3
  · rw [e1] at hx'
    have hne : x ≠ dt d := fun e => by
      have := of_decide_eq_true (List.mem_filter.mp hx').2
      rw [e] at this
      exact hx k this hk
    rw [want_upd c.lt hne]
    exact List.all_eq_true.mp h4 x hx'
theorem stuck_out {s : Sd} (o : Sound s) {t : Nat} (c : CanDo s (.back t)) {l : List Nat} (h : s.stuck l = true) : ∀ h, holder (s.way t) = some h → h ∉ l := by
  intro k e hk
  have h1 := stuck_back o.okay h c.1
  have h2 := canBack_len c.2
  unfold holder at e
  rw [if_pos h2] at e
  rw [decide_eq_true h2, Option.some.inj e, decide_eq_true hk, decide_eq_true (List.mem_filter.mpr ⟨List.mem_range.mpr c.1, c.2⟩)] at h1
  cases h1
end TL

/-! the law's defs, part f: deeds -/
namespace TL
open PySem L2 PySem.Spec PyProof.Rows
theorem ix_ok {n j : Nat} (hj : j < n) : ixN n (j : Int) = some j := by
  unfold ixN
  rw [if_pos (by omega), if_pos (by omega)]; simp
theorem room65 {k : Nat} {A : Around} (r : Room k A) : A.units + 65 < cLine := by have := r.un; omega
section
variable {P : Program} {w : World} {K : PySem.W.Frag} {mg : Str → Option Value} {base : Heap}
variable {C CS : Addr} {k : Nat}
def SCBack : List Sl → (T → Prop) → Prop := fun ss Po => ∃ (s : Sd) (t : Nat), Sound s ∧ t < s.nT ∧ ss = [.im (tLs s), .im (tLw s.ways), .im (eN t)] ∧ Po = (· = .bl (s.canBack t))
theorem ok_cback (b : Bi mg) (Ld : DefOk P w K mg base "_law_load" 1 ["_law_ways", "_law_house"] SLoad) (D : DefAt K mg "_law_can_back" (top 53) ["_law_street", "_law_ways", "_law_tool"]) : DefOk P w K mg base "_law_can_back" 2 ["_law_street", "_law_ways", "_law_tool"] SCBack := by
  have nd : (["_law_street", "_law_ways", "_law_tool", "_law_way"] : List Str).Nodup := by decide +kernel
  refine D.ok (N := ["_law_street", "_law_ways", "_law_tool", "_law_way"]) ⟨rfl, rfl, rfl, nd, rfl, by decide +kernel, by decide +kernel⟩ (fun _ _ ⟨_, _, _, _, e, _⟩ => by rw [e]; rfl) ?_
  rintro f cdv A outer st H E hr _ _ ⟨s, t, o, htn, rfl, rfl⟩
  have ht : s.ways.length ≤ 20 := o.nt
  refine st_set 3 nd (ev_at (d := []) (EV.q (ev_var 1 rfl) rfl) (ev_var 2 rfl) htn) ?_
  refine st_ifR (et_ltN (m := 2) (ev_lenM (EV.q (ev_var 3 rfl) rfl) b.len) ev_nat) (fun z => st_ret ev_bl ?_) fun z => ?_
  · show T.bl false = T.bl (decide (1 < (s.ways.getD t []).length) && _)
    rw [decide_eq_false (by have := of_decide_eq_true z; omega), Bool.false_and]
  have h2 : 2 ≤ (s.ways.getD t []).length := by have := of_decide_eq_false z; omega
  by_cases c : (s.ways.getD t []).length = 2
  · refine st_ret (ev_or (k1 := true) (k2 := true) (EV.to (ev_eqN (m := 2) (ev_lenM (EV.q (ev_var 3 rfl) rfl) b.len) ev_nat) (by rw [decide_eq_true c])) fun z => by cases z) ?_
    have e : s.want t = none := by
      show wantOf (s.ways.getD t []) = none
      unfold wantOf; rw [if_neg (by omega)]
    show T.bl true = T.bl (decide (1 < (s.ways.getD t []).length) && _)
    rw [e, decide_eq_true (by omega)]; rfl
  · have h3 : 2 < (s.ways.getD t []).length := by omega
    have e : s.want t = some ((s.ways.getD t []).getD ((s.ways.getD t []).length - 2) 0) := by
      show wantOf (s.ways.getD t []) = _
      unfold wantOf; rw [if_pos h3]
    have hk := o.okay.want htn e
    refine st_ret (ev_or (k1 := false) (EV.to (ev_eqN (m := 2) (ev_lenM (EV.q (ev_var 3 rfl) rfl) b.len) ev_nat) (by rw [decide_eq_false c])) fun _ => ev_one (EV.to (ev_ltN (ev_call Ld hr (ea_consO (EV.o (ev_var 1 rfl)) (ea_cons (ev_last2 (d := 0) (EV.q (ev_var 3 rfl) rfl) h2) ea_nil)) ⟨s.ways, _, by omega, rfl, rfl⟩) (ev_at (d := 0) (EV.q (ev_at' (j := 0) (t := .lst (s.pegs.map eN)) ((ev_var 0 rfl).q rfl) ev_int rfl) rfl) (ev_last2 (d := 0) (EV.q (ev_var 3 rfl) rfl) h2) hk)) (congrArg T.bl (less_iff o hk)))) ?_
    show T.bl (false || _) = T.bl (decide (1 < (s.ways.getD t []).length) && _)
    rw [e, decide_eq_true (by omega), Bool.false_or, Bool.true_and]
def SCLend : List Sl → (T → Prop) → Prop := fun ss Po => ∃ (s : Sd) (t h : Nat), Sound s ∧ t < s.nT ∧ h < s.nH ∧ ss = [.im (tLs s), .im (tLw s.ways), .im (eN t), .im (eN h)] ∧ Po = (· = .bl (decide (((s.way t).getD ((s.way t).length - 1) 0, h) ∈ s.lanes) && !s.full h))
theorem ok_clend (b : Bi mg) (Ld : DefOk P w K mg base "_law_load" 1 ["_law_ways", "_law_house"] SLoad) (D : DefAt K mg "_law_can_lend" (top 54) ["_law_street", "_law_ways", "_law_tool", "_law_house"]) : DefOk P w K mg base "_law_can_lend" 2 ["_law_street", "_law_ways", "_law_tool", "_law_house"] SCLend := by
  have nd : (["_law_street", "_law_ways", "_law_tool", "_law_house"] : List Str).Nodup := by decide +kernel
  refine D.ok (N := ["_law_street", "_law_ways", "_law_tool", "_law_house"]) ⟨rfl, rfl, rfl, nd, rfl, by decide +kernel, by decide +kernel⟩ (fun _ _ ⟨_, _, _, _, _, _, e, _⟩ => by rw [e]; rfl) ?_
  rintro f cdv A outer st H E hr _ _ ⟨s, t, h, o, htn, hh, rfl, rfl⟩
  have ht : s.ways.length ≤ 20 := o.nt
  have h1 : 1 ≤ (s.ways.getD t []).length := o.okay.len1 htn
  exact st_ret (ev_and (ev_inP (q := ((s.ways.getD t []).getD ((s.ways.getD t []).length - 1) 0, h)) (ps := s.lanes) (ev_tup (ts := [_, _]) (ea_cons (ev_last (d := 0) (EV.q (ev_at (d := []) (EV.q (ev_var 1 rfl) rfl) (ev_var 2 rfl) htn) rfl) h1) (ea_cons (ev_var 3 rfl) ea_nil)) (by simp)) (ev_at' (j := 1) (t := .lst (s.lanes.map eP)) ((ev_var 0 rfl).q rfl) ev_int rfl) (room65 hr)) fun _ => ev_one (EV.to (ev_ltN (ev_call Ld hr (ea_consO (EV.o (ev_var 1 rfl)) (ea_cons (ev_var 3 rfl) ea_nil)) ⟨s.ways, h, by omega, rfl, rfl⟩) (ev_at (d := 0) (EV.q (ev_at' (j := 0) (t := .lst (s.pegs.map eN)) ((ev_var 0 rfl).q rfl) ev_int rfl) rfl) (ev_var 3 rfl) hh)) (congrArg T.bl (less_iff o hh)))) rfl
def SDone : List Sl → (T → Prop) → Prop := fun ss Po => ∃ (s : Sd) (d : Deed), Sound s ∧ CanDo s d ∧ ss = [.im (tLw s.ways), .im (eD d)] ∧ Po = (· = tLw (s.after d).ways)
theorem ok_done (b : Bi mg) (D : DefAt K mg "_law_done" (top 55) ["_law_ways", "_law_deed_here"]) : DefOk P w K mg base "_law_done" 1 ["_law_ways", "_law_deed_here"] SDone := by
  have nd : (["_law_ways", "_law_deed_here", "_law_later"] : List Str).Nodup := by decide +kernel
  refine D.ok (N := ["_law_ways", "_law_deed_here", "_law_later"]) ⟨rfl, rfl, rfl, nd, rfl, by decide +kernel, by decide +kernel⟩ (fun _ _ ⟨_, _, _, _, e, _⟩ => by rw [e]; rfl) ?_
  rintro f cdv A outer st H E hr _ _ ⟨s, d, o, c, rfl, rfl⟩
  have hlt : dt d < s.ways.length := c.lt
  have hw := o.ways _ (o.okay.way c.lt)
  have hwl : (s.ways.getD (dt d) []).length ≤ 100 := hw.len
  have h1 : 1 ≤ (s.ways.getD (dt d) []).length := o.okay.len1 c.lt
  refine st_setL 2 nd (el_list (EV.q (ev_var 0 rfl) rfl) b.list) ?_
  refine st_ifC (fun r => r = [some (.im (tLw s.ways)), some (.im (eD d)), some (.ow ((s.ways.map eNs).set (dt d) (eNs (newWay s d))))]) (k := match d with | .lend _ _ => true | .back _ => false) ?_ (fun z => ?_) (fun z => ?_) ?_
  · cases d with
    | lend t h => exact ET.to (et_eq (ev_at' (j := 0) (t := .str "lend") ((ev_var 1 rfl).q rfl) ev_int rfl) ev_str rfl) (decide_eq_true rfl)
    | back t => exact ET.to (et_eq (ev_at' (j := 0) (t := .str "back") ((ev_var 1 rfl).q rfl) ev_int rfl) ev_str rfl) (decide_eq_false (by decide))
  · cases d with
    | back t => cases z
    | lend t h =>
      have hlt : t < s.ways.length := hlt
      have ix : ∀ {q : Nat}, ixN (s.ways.map eNs).length ((t : Nat) : Int) = some t := by
        intro _
        exact ix_ok (by rw [List.length_map]; exact hlt)
      refine st_one (s1_setix (q2 := ⟨0, 0, 0, 0⟩) (P := (· = eNs (s.way t ++ [h]))) 2 rfl (EV.p (EV.to (ev_catT (us := [eN h]) (ev_at (f := eNs) (d := []) (EV.q (ev_var 0 rfl) rfl) (ev_at' (j := 1) (t := eN t) ((ev_var 1 rfl).q rfl) ev_int rfl) hlt) (ev_tup (ts := [eN h]) (ea_cons (ev_at' (j := 2) (t := eN h) ((ev_var 1 rfl).q rfl) ev_int rfl) ea_nil) (by simp)) ?_ ?_) (t' := eNs (s.way t ++ [h])) ?_) rfl) (ev_at' (j := 1) (t := eN t) ((ev_var 1 rfl).q rfl) ev_int rfl) (ix (q := 0)) (fun u e => by subst e; rfl))
      · intro e
        have e := congrArg List.length e
        rw [List.length_map] at e
        simp only [List.length_nil] at e
        have h1 : 1 ≤ (s.ways.getD t []).length := h1
        omega
      · rw [List.length_map]
        have hwl : (s.ways.getD t []).length ≤ 100 := hwl
        simp only [List.length_singleton]
        omega
      · show T.tup _ = T.tup _
        rw [List.map_append]; rfl
  · cases d with
    | lend t h => cases z
    | back t =>
      have hlt : t < s.ways.length := hlt
      have ix : ∀ {q : Nat}, ixN (s.ways.map eNs).length ((t : Nat) : Int) = some t := by
        intro _
        exact ix_ok (by rw [List.length_map]; exact hlt)
      refine st_one (s1_setix (q2 := ⟨0, 0, 0, 0⟩) (P := (· = eNs (s.way t).dropLast)) 2 rfl (EV.p (EV.to (ev_slice (ts := (s.way t).map eN) (ev_at (f := eNs) (d := []) (EV.q (ev_var 0 rfl) rfl) (ev_at' (j := 1) (t := eN t) ((ev_var 1 rfl).q rfl) ev_int rfl) hlt) ept_none (ept_some (ev_neg ev_int)) ?_) (t' := eNs (s.way t).dropLast) ?_) rfl) (ev_at' (j := 1) (t := eN t) ((ev_var 1 rfl).q rfl) ev_int rfl) (ix (q := 0)) (fun u e => by subst e; rfl))
      · rintro ⟨_, h2⟩
        rw [sIx_neg1, List.length_map] at h2
        have h1 : 1 ≤ (s.way t).length := h1
        omega
      · show T.tup (cut _ none (some (-1 : Int))) = _
        rw [cut_last]
        show T.tup ((s.way t).map eN).dropLast = T.tup ((s.way t).dropLast.map eN)
        rw [List.map_dropLast]
  · rintro r1 rfl
    refine st_give 2 rfl ?_
    refine st_ret (ev_var 2 rfl) ?_
    show T.lst _ = T.lst _
    rw [after_eq]
    show _ = T.lst ((s.ways.set (dt d) (newWay s d)).map eNs)
    rw [List.map_set]
def SLDeed : List Sl → (T → Prop) → Prop := fun ss Po => ∃ (s : Sd) (a b c : Nat), Sound s ∧ ss = [.im (tLs s), .im (tLw s.ways), .im (.lst [eN a, eN b, eN c])] ∧ Po = fun t => t = .non ∨ ∃ d, CanDo s d ∧ t = eD d
theorem ok_ldeed (b : Bi mg) (Cb : DefOk P w K mg base "_law_can_back" 2 ["_law_street", "_law_ways", "_law_tool"] SCBack) (Cl : DefOk P w K mg base "_law_can_lend" 2 ["_law_street", "_law_ways", "_law_tool", "_law_house"] SCLend) (D : DefAt K mg "_law_deed" (top 56) ["_law_street", "_law_ways", "_law_row"]) : DefOk P w K mg base "_law_deed" 3 ["_law_street", "_law_ways", "_law_row"] SLDeed := by
  have nd : (["_law_street", "_law_ways", "_law_row", "_law_many", "_law_step", "_law_tool", "_law_turn", "_law_house"] : List Str).Nodup := by decide +kernel
  refine D.ok (N := ["_law_street", "_law_ways", "_law_row", "_law_many", "_law_step", "_law_tool", "_law_turn", "_law_house"]) ⟨rfl, rfl, rfl, nd, rfl, by decide +kernel, by decide +kernel⟩ (fun _ _ ⟨_, _, _, _, _, e, _⟩ => by rw [e]; rfl) ?_
  rintro f cdv A outer st H E hr _ _ ⟨s, a1, a2, a3, o, rfl, rfl⟩
  have ht : s.ways.length ≤ 20 := o.nt
  have hn : s.nH ≤ 12 := o.st.nh
  let R : Option Sl → Option Sl → Option Sl → Option Sl → Rho := fun a b c d => [some (.im (tLs s)), some (.im (tLw s.ways)), some (.im (.lst [eN a1, eN a2, eN a3])), some (.im (eN s.nH)), a, b, c, d]
  refine st_set 3 nd (EV.to (ev_lenM (EV.q (ev_at' (j := 0) (t := .lst (s.pegs.map eN)) ((ev_var 0 rfl).q rfl) ev_int rfl) rfl) b.len) (t' := eN s.nH) rfl) ?_
  refine st_for (fun k r => ∃ x y z u, r = R x y z u) (ei_rangeN (ev_lenM (EV.q (ev_var 1 rfl) rfl) b.len) (by omega) b.range) (gt_name 4 nd) ⟨none, none, none, none, rfl⟩ ?_ ?_
  · rintro k t' r1 ht' ⟨x, y, z, u, rfl⟩
    obtain ⟨q, hq, rfl, _⟩ := forM ht'
    obtain ⟨rfl, hk⟩ := rangeM hq
    have hpos : 0 < s.ways.length := by omega
    have hx : (a2 + q) % s.ways.length < s.nT := Nat.mod_lt _ hpos
    refine ⟨_, rfl, ?_⟩
    refine st_set 5 nd (ev_modN (ev_int1 (ev_addN (ev_at' (j := 1) (t := eN a2) ((ev_var 2 rfl).q rfl) ev_int rfl) (ev_var 4 rfl)) b.int) (ev_lenM (EV.q (ev_var 1 rfl) rfl) b.len) hpos) ?_
    refine st_ifR (EW.et (ew_and (k2 := s.canBack ((a2 + q) % s.ways.length)) (et_gtN (m := 0) (ev_at' (j := 0) (t := eN a1) ((ev_var 2 rfl).q rfl) ev_int rfl) ev_nat) fun _ => ew_and1 (et_val (ev_call Cb hr (ea_cons (ev_var 0 rfl) (ea_cons (ev_var 1 rfl) (ea_cons (ev_var 5 rfl) ea_nil))) ⟨s, _, o, hx, rfl, rfl⟩)))) (fun c => st_ret (ev_tup (ts := [.str "back", eN ((a2 + q) % s.ways.length)]) (ea_cons ev_str (ea_cons (ev_var 5 rfl) ea_nil)) (by simp)) (.inr ⟨.back _, ⟨hx, (Bool.and_eq_true_iff.mp c).2⟩, rfl⟩)) fun c => ?_
    refine st_for (fun j r => ∃ z u, r = R (some (.im (eN q))) (some (.im (eN ((a2 + q) % s.ways.length)))) z u) (ei_rangeN (ev_var 3 rfl) (by omega) b.range) (gt_name 6 nd) ⟨z, u, rfl⟩ ?_ ?_
    · rintro j t2 r2 ht2 ⟨z, u, rfl⟩
      obtain ⟨p, hp, rfl, _⟩ := forM ht2
      obtain ⟨rfl, hj⟩ := rangeM hp
      have hpos2 : 0 < s.nH := by omega
      have hy : (a3 + p) % s.nH < s.nH := Nat.mod_lt _ hpos2
      refine ⟨_, rfl, ?_⟩
      refine st_set 7 nd (ev_modN (ev_int1 (ev_addN (ev_at' (j := 2) (t := eN a3) ((ev_var 2 rfl).q rfl) ev_int rfl) (ev_var 6 rfl)) b.int) (ev_var 3 rfl) hpos2) ?_
      refine st_ifR (et_val (ev_call Cl hr (ea_cons (ev_var 0 rfl) (ea_cons (ev_var 1 rfl) (ea_cons (ev_var 5 rfl) (ea_cons (ev_var 7 rfl) ea_nil)))) ⟨s, _, _, o, hx, hy, rfl, rfl⟩)) (fun c => st_ret (ev_tup (ts := [.str "lend", eN ((a2 + q) % s.ways.length), eN ((a3 + p) % s.nH)]) (ea_cons ev_str (ea_cons (ev_var 5 rfl) (ea_cons (ev_var 7 rfl) ea_nil))) (by simp)) (.inr ⟨.lend _ _, ⟨hx, hy, of_decide_eq_true (Bool.and_eq_true_iff.mp c).1, by simpa using (Bool.and_eq_true_iff.mp c).2⟩, rfl⟩)) fun c => st_nil ⟨_, _, rfl⟩
    · rintro r2 ⟨z, u, rfl⟩
      exact st_nil ⟨_, _, z, u, rfl⟩
  · rintro r1 ⟨x, y, z, u, rfl⟩
    exact st_ret ev_non (.inl rfl)
end
end TL

/-! the law's defs, part g: cells, digits, partners, spurs -/
namespace TL
open PySem L2 PySem.Spec PyProof.Rows
section
variable {P : Program} {w : World} {K : PySem.W.Frag} {mg : Str → Option Value} {base : Heap}
variable {C CS : Addr} {k : Nat}
def SCell : List Sl → (T → Prop) → Prop := fun ss Po => ∃ (ns : List Int) (k : Nat), k ≤ 1000 ∧ ns.length ≤ 1000 ∧ ss = [.ro (ns.map .int), .im (eN k)] ∧ Po = fun t => ∃ i : Int, t = .int i
theorem ok_cell (b : Bi mg) (D : DefAt K mg "_law_cell" (top 44) ["_law_script", "_law_k"]) : DefOk P w K mg base "_law_cell" 1 ["_law_script", "_law_k"] SCell := by
  have nd : (["_law_script", "_law_k", "_law_seed", "_law_cell_here"] : List Str).Nodup := by decide +kernel
  refine D.ok (N := ["_law_script", "_law_k", "_law_seed", "_law_cell_here"]) ⟨rfl, rfl, rfl, nd, rfl, by decide +kernel, by decide +kernel⟩ (fun _ _ ⟨_, _, _, _, e, _⟩ => by rw [e]; rfl) ?_
  rintro f cdv A outer st H E hr _ _ ⟨ns, k, hk, hl, rfl, rfl⟩
  refine st_ifR (et_ltN (ev_var 1 rfl) (ev_lenM (eo_ro 0 rfl).q b.len)) (fun z => st_ret (ev_at (f := .int) (d := 0) (eo_ro 0 rfl).q (ev_var 1 rfl) (of_decide_eq_true z)) ⟨_, rfl⟩) fun _ => ?_
  refine st_set 2 nd (ev_int (i := 17)) ?_
  refine st_for (fun j r => ∃ (i : Int) (x : Option Sl), 0 ≤ i ∧ i < 1000003 ∧ r = [some (.ro (ns.map .int)), some (.im (eN k)), some (.im (.int i)), x]) (ei_ro 0 rfl) (gt_name 3 nd) ⟨17, none, by decide, by decide, rfl⟩ ?_ ?_
  · rintro j t' r1 ht' ⟨i, x, h1, h2, rfl⟩
    obtain ⟨n, hn, rfl, _⟩ := forM ht'
    refine ⟨_, rfl, ?_⟩
    refine st_set 2 nd (ev_mod (ev_int1 (ev_add (ev_mul (ev_var 2 rfl) ev_int (.inl (by omega))) (ev_mod (ev_int1 (ev_var 3 rfl) b.int) ev_int (by decide))) b.int) ev_int (by decide)) (st_nil ⟨_, _, Int.emod_nonneg _ (by decide), Int.emod_lt_of_pos _ (by decide), rfl⟩)
  · rintro r1 ⟨i, x, h1, h2, rfl⟩
    refine st_ret (ev_mod (ev_int1 (ev_mul (ev_mul (ev_add (ev_var 2 rfl) ev_int) (ev_add (ev_var 1 rfl) ev_int) (.inl (by omega))) ev_int (.inr (by decide))) b.int) ev_int (by decide)) ⟨_, rfl⟩
/-- digits within their sizes -/
structure Dg (sz ds : List Nat) : Prop where
  len : ds.length = sz.length
  lt : ∀ i < sz.length, ds.getD i 0 < sz.getD i 0
theorem dg_snoc {sz ds : List Nat} {k d : Nat} (h1 : ds.length = k) (h2 : ∀ i < k, ds.getD i 0 < sz.getD i 0) (h3 : d < sz.getD k 0) : (ds ++ [d]).length = k + 1 ∧ ∀ i < k + 1, (ds ++ [d]).getD i 0 < sz.getD i 0 := by
  refine ⟨by simp [h1], fun i hi => ?_⟩
  rw [List.getD_eq_getElem?_getD (l := ds ++ [d])]
  rcases Nat.lt_succ_iff_lt_or_eq.mp hi with hi | rfl
  · rw [List.getElem?_append_left (by omega), ← List.getD_eq_getElem?_getD]
    exact h2 i hi
  · rw [List.getElem?_append_right (by omega), h1, Nat.sub_self]
    exact h3
theorem mod_nat (i : Int) {n : Nat} (h : 0 < n) : ∃ d : Nat, i % (n : Int) = (d : Int) ∧ d < n := by
  have h1 := Int.emod_nonneg i (show (n : Int) ≠ 0 by omega)
  have h2 := Int.emod_lt_of_pos i (show (0 : Int) < n by omega)
  exact ⟨(i % (n : Int)).toNat, by omega, by omega⟩
theorem get_of {xs : List Nat} {k y : Nat} (h : xs[k]? = some y) : xs.getD k 0 = y := by rw [List.getD_eq_getElem?_getD, h]; rfl
def SDigits : List Sl → (T → Prop) → Prop := fun ss Po => ∃ (i : Int) (sz : List Nat), (∀ s ∈ sz, 0 < s ∧ s < 1000) ∧ sz.length ≤ 100 ∧ ss = [.im (.int i), .im (.lst (sz.map eN))] ∧ Po = fun t => ∃ ds, Dg sz ds ∧ t = .lst (ds.map eN)
theorem ok_digits (b : Bi mg) (D : DefAt K mg "_law_digits" (top 45) ["_law_cell_here", "_law_sizes"]) : DefOk P w K mg base "_law_digits" 1 ["_law_cell_here", "_law_sizes"] SDigits := by
  have nd : (["_law_cell_here", "_law_sizes", "_law_row", "_law_rest", "_law_size", "_law_seed", "_law_k", "_law_twice"] : List Str).Nodup := by decide +kernel
  refine D.ok (N := ["_law_cell_here", "_law_sizes", "_law_row", "_law_rest", "_law_size", "_law_seed", "_law_k", "_law_twice"]) ⟨rfl, rfl, rfl, nd, rfl, by decide +kernel, by decide +kernel⟩ (fun _ _ ⟨_, _, _, _, e, _⟩ => by rw [e]; rfl) ?_
  rintro f cdv A outer st H E hr _ _ ⟨i0, sz, hz, hl, rfl, rfl⟩
  refine st_setL 2 nd (el_lst (ts := []) ea_nil (by simp)) ?_
  refine st_set 3 nd (ev_int1 (ev_var 0 rfl) b.int) ?_
  let R : List Nat → Option Sl → Option Sl → Option Sl → Option Sl → Option Sl → Rho := fun ds a b c d e => [some (.im (.int i0)), some (.im (.lst (sz.map eN))), some (.ow (ds.map eN)), a, b, c, d, e]
  refine st_ifR (et_ge (ev_var 3 rfl) (ev_pow ev_int ev_int (by unfold CPow; decide))) (fun _ => ?_) (fun _ => ?_)
  · refine st_set 3 nd (ev_sub (ev_var 3 rfl) (ev_pow ev_int ev_int (by unfold CPow; decide))) ?_
    refine st_for (fun k r => ∃ (ds : List Nat) (i : Int) (x : Option Sl), ds.length = k ∧ (∀ i < k, ds.getD i 0 < sz.getD i 0) ∧ r = R ds (some (.im (.int i))) x none none none) (ei_list (ev_var 1 rfl)) (gt_name 4 nd) ⟨[], _, none, rfl, fun i h => absurd h (Nat.not_lt_zero _), rfl⟩ ?_ ?_
    · rintro k t' r1 ht' ⟨ds, i, x, h1, h2, rfl⟩
      obtain ⟨z, hzz, rfl, hk⟩ := forM ht'
      obtain ⟨z1, z2⟩ := hz z (mem_of_get hzz)
      obtain ⟨d, e, hd⟩ := mod_nat i z1
      refine ⟨_, rfl, ?_⟩
      refine st_app 2 rfl (EV.to (ev_mod (ev_int1 (ev_var 3 rfl) b.int) (ev_var 4 rfl) (by omega)) (t' := eN d) (congrArg T.int e)) (by rw [List.length_map]; omega) ?_
      refine st_set 3 nd (ev_fdiv (ev_int1 (ev_var 3 rfl) b.int) (ev_var 4 rfl) ⟨by omega, by omega⟩) ?_
      obtain ⟨g1, g2⟩ := dg_snoc h1 h2 (show d < sz.getD k 0 by rw [get_of hzz]; exact hd)
      exact st_nil ⟨ds ++ [d], _, some (.im (eN z)), g1, g2, by rw [show (List.map eN ds ++ [eN d]) = (ds ++ [d]).map eN by simp]; rfl⟩
    · rintro r1 ⟨ds, i, x, h1, h2, rfl⟩
      rw [List.length_map] at h1 h2
      refine st_give 2 rfl ?_
      exact st_ret (ev_var 2 rfl) ⟨ds, ⟨h1, h2⟩, rfl⟩
  · refine st_set 5 nd (ev_mod (ev_int1 (ev_var 3 rfl) b.int) ev_int (by decide)) ?_
    refine st_for (fun k r => ∃ (ds : List Nat) (i : Int) (x y : Option Sl), ds.length = k ∧ (∀ i < k, ds.getD i 0 < sz.getD i 0) ∧ 0 ≤ i ∧ i < 2147483647 ∧ r = R ds (some (.im (.int i0))) none (some (.im (.int i))) x y) (ei_rangeN (ev_lenM (EV.q (ev_var 1 rfl) rfl) b.len) (by omega) b.range) (gt_name 6 nd)
      ⟨[], _, none, none, rfl, fun i h => absurd h (Nat.not_lt_zero _), Int.emod_nonneg _ (by decide), Int.lt_trans (Int.emod_lt_of_pos _ (by decide)) (by decide), rfl⟩ ?_ ?_
    · rintro k t' r1 ht' ⟨ds, i, x, y, h1, h2, h3, h4, rfl⟩
      obtain ⟨q, hq, rfl, _⟩ := forM ht'
      obtain ⟨rfl, hk⟩ := rangeM hq
      obtain ⟨z1, z2⟩ := hz _ (getD_mem (d := 0) hk)
      refine ⟨_, rfl, ?_⟩
      refine st_set 5 nd (ev_mod (ev_int1 (ev_add (ev_add (ev_mul (ev_var 5 rfl) ev_int (.inr (by decide))) (ev_mul ev_int (ev_var 6 rfl) (.inl (by decide)))) ev_int) b.int) ev_int (by decide)) ?_
      refine st_set 7 nd (ev_mod (ev_int1 (ev_mul (ev_var 5 rfl) (ev_add (ev_fdiv (ev_var 5 rfl) ev_int (by unfold CDiv; decide)) ev_int) (.inl ⟨?_, ?_⟩)) b.int) ev_int (by decide)) ?_
      · exact Int.lt_of_lt_of_le (by decide) (Int.emod_nonneg _ (by decide))
      · exact Int.lt_trans (Int.emod_lt_of_pos _ (by decide)) (by decide)
      obtain ⟨d, e, hd⟩ := mod_nat (((((i * 48271 + 974711 * (q : Int) + 12345) % 2147483647) * (((i * 48271 + 974711 * (q : Int) + 12345) % 2147483647) / 65537 + 3)) % 2147483629) / 19) z1
      refine st_app 2 rfl (EV.to (ev_mod (ev_fdiv (ev_var 7 rfl) ev_int (by unfold CDiv; decide)) (ev_at (f := eN) (d := 0) (EV.q (ev_var 1 rfl) rfl) (ev_var 6 rfl) hk) (by omega)) (t' := eN d) (congrArg T.int e)) (by rw [List.length_map]; omega) ?_
      obtain ⟨g1, g2⟩ := dg_snoc h1 h2 hd
      exact st_nil ⟨ds ++ [d], _, some (.im (eN q)), _, g1, g2, Int.emod_nonneg _ (by decide), Int.emod_lt_of_pos _ (by decide), by rw [show (List.map eN ds ++ [eN d]) = (ds ++ [d]).map eN by simp]; rfl⟩
    · rintro r1 ⟨ds, i, x, y, h1, h2, _, _, rfl⟩
      rw [List.length_map, List.length_range] at h1 h2
      refine st_give 2 rfl ?_
      exact st_ret (ev_var 2 rfl) ⟨ds, ⟨h1, h2⟩, rfl⟩
end
end TL

/-! the law's defs, part h: partners, spurs, ways -/
namespace TL
open PySem L2 PySem.Spec PyProof.Rows
section
variable {P : Program} {w : World} {K : PySem.W.Frag} {mg : Str → Option Value} {base : Heap}
variable {C CS : Addr} {k : Nat}
/-- a list of houses, one for each -/
structure Pt (m : Nat) (ps : List Nat) : Prop where
  len : ps.length = m
  lt : ∀ p ∈ ps, p < m
theorem Pt.get {m : Nat} {ps : List Nat} (h : Pt m ps) {i : Nat} (hi : i < m) : ps.getD i 0 < m := h.lt _ (getD_mem (by rw [h.len]; exact hi))
theorem Pt.set {m : Nat} {ps : List Nat} (h : Pt m ps) {i v : Nat} (hv : v < m) : Pt m (ps.set i v) := by
  refine ⟨by rw [List.length_set]; exact h.len, fun p hp => ?_⟩
  rcases List.mem_or_eq_of_mem_set hp with hp | rfl
  · exact h.lt p hp
  · exact hv
def SParts : List Sl → (T → Prop) → Prop := fun ss Po => ∃ (m style turn : Nat) (row : List Nat), 1 ≤ m ∧ m ≤ 12 ∧ style < 4 ∧ m ≤ row.length ∧ ss = [.im (eN m), .im (eN style), .im (eN turn), .im (.lst (row.map eN))] ∧ Po = fun t => ∃ ps, Pt m ps ∧ t = .lst (ps.map eN)
theorem ok_parts (b : Bi mg) (D : DefAt K mg "_law_partners" (top 46) ["_law_many", "_law_style", "_law_turn", "_law_row"]) : DefOk P w K mg base "_law_partners" 1 ["_law_many", "_law_style", "_law_turn", "_law_row"] SParts := by
  have nd : (["_law_many", "_law_style", "_law_turn", "_law_row", "_law_partners_here", "_law_last", "_law_k", "_law_drawn", "_law_other"] : List Str).Nodup := by decide +kernel
  refine D.ok (N := ["_law_many", "_law_style", "_law_turn", "_law_row", "_law_partners_here", "_law_last", "_law_k", "_law_drawn", "_law_other"]) ⟨rfl, rfl, rfl, nd, rfl, by decide +kernel, by decide +kernel⟩ (fun _ _ ⟨_, _, _, _, _, _, _, _, e, _⟩ => by rw [e]; rfl) ?_
  rintro f cdv A outer st H E hr _ _ ⟨m, style, turn, row, h1, h2, h3, h4, rfl, rfl⟩
  let R : List Nat → Int → Option Sl → Option Sl → Option Sl → Rho := fun ps l a b c => [some (.im (eN m)), some (.im (eN style)), some (.im (eN turn)), some (.im (.lst (row.map eN))), some (.ow (ps.map eN)), some (.im (.int l)), a, b, c]
  refine st_setL 4 nd (EL.to (el_rep (t := eN 0) (EL.k (el_lst (ts := [eN 0]) (ea_cons ev_int ea_nil) (by simp))) (ev_var 0 rfl) (by omega) (by omega)) (us := (List.replicate m 0).map eN) (by simp)) ?_
  refine st_set 5 nd (ev_max2 ev_int (ev_sub (ev_var 0 rfl) ev_int) rfl b.max) ?_
  obtain ⟨l, hl, hl1⟩ : ∃ l : Int, (if ((m : Int) - 1) > 1 then ((m : Int) - 1) else 1) = l ∧ 0 < l := ⟨_, rfl, by split <;> omega⟩
  rw [hl]
  refine st_for (fun k r => ∃ ps x y z, Pt m ps ∧ r = R ps l x y z) (ei_rangeN (ev_var 0 rfl) (by omega) b.range) (gt_name 6 nd) ⟨List.replicate m 0, none, none, none, ⟨by simp, fun p hp => by rw [(List.mem_replicate.mp hp).2]; omega⟩, rfl⟩ ?_ ?_
  · rintro k t' r1 ht' ⟨ps, x, y, z, pt, rfl⟩
    obtain ⟨q, hq, rfl, _⟩ := forM ht'
    obtain ⟨rfl, hk⟩ := rangeM hq
    obtain ⟨d, ed, hd⟩ := mod_nat ((q : Int) + 1 + (row.getD q 0 : Int) % l) h1
    refine ⟨_, rfl, ?_⟩
    refine st_set 7 nd (EV.to (ev_mod (ev_int1 (ev_add (ev_add (ev_var 6 rfl) ev_int) (ev_mod (ev_int1 (ev_at (f := eN) (d := 0) (EV.q (ev_var 3 rfl) rfl) (ev_var 6 rfl) (by omega)) b.int) (ev_var 5 rfl) hl1)) b.int) (ev_var 0 rfl) (by omega)) (t' := eN d) (congrArg T.int ed)) ?_
    refine st_set 8 nd (ev_at (f := .int) (d := 0) (xs := [(q : Int) + 1 - 2 * ((q : Int) % 2), (q : Int) / 3 * 3 + ((q : Int) + 1) % 3, ((q : Int) + 1) % l, (d : Int)]) (EL.q (el_lst (ts := [_, _, _, _]) (ea_cons (ev_sub (ev_add (ev_var 6 rfl) ev_int) (ev_mul ev_int (ev_int1 (ev_mod (ev_var 6 rfl) ev_int (by decide)) b.int) (.inl (by decide)))) (ea_cons (ev_add (ev_mul (ev_fdiv (ev_var 6 rfl) ev_int (by unfold CDiv; decide)) ev_int (.inr (by decide))) (ev_mod (ev_int1 (ev_add (ev_var 6 rfl) ev_int) b.int) ev_int (by decide))) (ea_cons (ev_mod (ev_int1 (ev_add (ev_var 6 rfl) ev_int) b.int) (ev_var 5 rfl) hl1) (ea_cons (ev_var 7 rfl) ea_nil)))) (by simp))) (ev_var 1 rfl) h3) ?_
    generalize hv : List.getD [(q : Int) + 1 - 2 * ((q : Int) % 2), (q : Int) / 3 * 3 + ((q : Int) + 1) % 3, ((q : Int) + 1) % l, (d : Int)] style 0 = v
    refine st_ifC (fun r => ∃ u : Int, r = R ps l (some (.im (eN q))) (some (.im (eN d))) (some (.im (.int u)))) (EW.et (ew_or (et_ge (ev_var 8 rfl) (ev_var 0 rfl)) fun _ => ew_or (et_eq (ev_var 8 rfl) (ev_var 6 rfl) rfl) fun _ => ew_or1 (EW.et (ew_and (et_eqN (m := 2) (ev_var 1 rfl) ev_nat) fun _ => ew_and1 (et_eq (ev_var 6 rfl) (ev_var 5 rfl) rfl))))) (fun _ => st_set 8 nd (ev_var 7 rfl) (st_nil ⟨_, rfl⟩)) (fun _ => st_nil ⟨_, rfl⟩) ?_
    rintro r2 ⟨u, rfl⟩
    obtain ⟨j, ej, hj⟩ := mod_nat ((q : Int) + (turn : Int)) h1
    obtain ⟨n, en, hn⟩ := mod_nat (u + (turn : Int)) h1
    refine st_one (s1_setix (q2 := ⟨0, 0, 0, 0⟩) (P := (· = eN n)) 4 rfl (EV.p (EV.to (ev_mod (ev_int1 (ev_add (ev_var 8 rfl) (ev_var 2 rfl)) b.int) (ev_var 0 rfl) (by omega)) (congrArg T.int en)) rfl) (EV.to (ev_mod (ev_int1 (ev_add (ev_var 6 rfl) (ev_var 2 rfl)) b.int) (ev_var 0 rfl) (by omega)) (congrArg T.int ej)) (ix_ok (by rw [List.length_map, pt.len]; exact hj)) (fun t e => ?_))
    subst e
    exact ⟨ps.set j n, _, _, _, pt.set hn, by rw [← List.map_set]; rfl⟩
  · rintro r1 ⟨ps, x, y, z, pt, rfl⟩
    refine st_give 4 rfl ?_
    exact st_ret (ev_var 4 rfl) ⟨ps, pt, rfl⟩
def eS : Option (Nat × Nat) → List T
  | none => [.int (-1), .int (-1)]
  | some q => [eN q.1, eN q.2]
def SSpur : List Sl → (T → Prop) → Prop := fun ss Po => ∃ (ps : List Nat) (kind a c : Nat), Pt ps.length ps ∧ 1 ≤ ps.length ∧ ps.length ≤ 12 ∧ ss = [.im (.lst (ps.map eN)), .im (eN kind), .im (eN a), .im (eN c)] ∧ Po = fun t => ∃ o : Option (Nat × Nat), (∀ q, o = some q → q.1 ≠ q.2 ∧ q.1 < ps.length ∧ q.2 < ps.length) ∧ t = .tup (eS o)
theorem ok_spur (b : Bi mg) (D : DefAt K mg "_law_spur" (top 47) ["_law_partners_here", "_law_kind", "_law_first", "_law_second"]) : DefOk P w K mg base "_law_spur" 1 ["_law_partners_here", "_law_kind", "_law_first", "_law_second"] SSpur := by
  have nd : (["_law_partners_here", "_law_kind", "_law_first", "_law_second", "_law_many", "_law_house", "_law_tails", "_law_chain", "_law_step", "_law_others", "_law_other"] : List Str).Nodup := by decide +kernel
  refine D.ok (N := ["_law_partners_here", "_law_kind", "_law_first", "_law_second", "_law_many", "_law_house", "_law_tails", "_law_chain", "_law_step", "_law_others", "_law_other"]) ⟨rfl, rfl, rfl, nd, rfl, by decide +kernel, by decide +kernel⟩ (fun _ _ ⟨_, _, _, _, _, _, _, e, _⟩ => by rw [e]; rfl) ?_
  rintro f cdv A outer st H E hr _ _ ⟨ps, kind, a, c, pt, h1, h2, rfl, rfl⟩
  let R : Option Sl → Option Sl → Option Sl → Option Sl → Option Sl → Option Sl → Rho := fun x1 x2 x3 x4 x5 x6 => [some (.im (.lst (ps.map eN))), some (.im (eN kind)), some (.im (eN a)), some (.im (eN c)), some (.im (eN ps.length)), x1, x2, x3, x4, x5, x6]
  refine st_set 4 nd (ev_lenM (EV.q (ev_var 0 rfl) rfl) b.len) ?_
  refine st_ifR (EW.et (ew_or (et_eqN (m := 0) (ev_var 1 rfl) ev_nat) fun _ => ew_or1 (et_ltN (m := 2) (ev_var 4 rfl) ev_nat))) (fun _ => st_ret (ev_tup (ts := [.int (-1), .int (-1)]) (ea_cons (ev_neg ev_int) (ea_cons (ev_neg ev_int) ea_nil)) (by simp)) ⟨none, (fun q e => by cases e), rfl⟩) fun z => ?_
  have hm2 : 2 ≤ ps.length := by
    have := (Bool.or_eq_false_iff.mp z).2
    have := of_decide_eq_false this
    omega
  refine st_lc (xs := List.range ps.length) (enc := eN) (pp := fun h => !decide (h ∈ ps)) (g := eN) (rx := fun h => R (some (.im (eN h))) none none none none none) 6 rfl nd (ei_rangeN (ev_var 4 rfl) (by omega) b.range) (show BlkOk ["_law_partners_here", "_law_kind", "_law_first", "_law_second", "_law_many", "_law_house", "_law_tails", "_law_chain", "_law_step", "_law_others", "_law_other"] (defScope (top 47)) _ [("_law_house", 5)] from blkOk_by (by decide +kernel)) (by simp) (fun s H C cl fp => gt_name 5 nd) (fun n _ => rfl)
    (fun h hh _ H' C' cl fp => ets_one (et_niN (ev_var 5 rfl) (EV.q (ev_var 0 rfl) rfl))) (fun h hh _ _ H' C' cl fp => ev_var 5 rfl) (by rw [List.length_range]; omega) ?_
  obtain ⟨tl, htl⟩ : ∃ tl, (List.range ps.length).filter (fun h => !decide (h ∈ ps)) = tl := ⟨_, rfl⟩
  have htm : ∀ h ∈ tl, h < ps.length := fun h hh => by rw [← htl] at hh; exact List.mem_range.mp (List.mem_filter.mp hh).1
  rw [htl]
  refine st_set 5 nd (ev_modN (ev_int1 (ev_var 2 rfl) b.int) (ev_var 4 rfl) (by omega)) ?_
  refine st_ifC (fun r => ∃ h, h < ps.length ∧ r = R (some (.im (eN h))) (some (.im (.lst (tl.map eN)))) none none none none) (EW.et (ew_and (k2 := decide (0 < tl.length)) (et_eqN (m := 2) (ev_var 1 rfl) ev_nat) fun _ => ew_and1 (et_gtN (m := 0) (ev_lenM (EV.q (ev_var 6 rfl) rfl) b.len) ev_nat))) (fun z => ?_) (fun _ => st_nil ⟨_, Nat.mod_lt _ (by omega), rfl⟩) ?_
  · have hp : 0 < tl.length := of_decide_eq_true (Bool.and_eq_true_iff.mp z).2
    exact st_set 5 nd (ev_at (f := eN) (d := 0) (EV.q (ev_var 6 rfl) rfl) (ev_modN (ev_int1 (ev_var 2 rfl) b.int) (ev_lenM (EV.q (ev_var 6 rfl) rfl) b.len) hp) (Nat.mod_lt _ hp)) (st_nil ⟨_, htm _ (getD_mem (Nat.mod_lt _ hp)), rfl⟩)
  rintro r1 ⟨h, hh, rfl⟩
  refine st_setL 7 nd (el_lst (ts := [eN h]) (ea_cons (ev_var 5 rfl) ea_nil) (by simp)) ?_
  refine st_for (fun k r => ∃ ch x, h ∈ ch ∧ (∀ y ∈ ch, y < ps.length) ∧ ch.length = k + 1 ∧ r = R (some (.im (eN h))) (some (.im (.lst (tl.map eN)))) (some (.ow (ch.map eN))) x none none) (ei_rangeN (ev_var 4 rfl) (by omega) b.range) (gt_name 8 nd) ⟨[h], none, by simp, by simpa using hh, rfl, rfl⟩ ?_ ?_
  · rintro k t' r2 ht' ⟨ch, x, c1, c2, c3, rfl⟩
    obtain ⟨q, hq, rfl, _⟩ := forM ht'
    obtain ⟨rfl, hk⟩ := rangeM hq
    have hla : ch.getD (ch.length - 1) 0 < ps.length := c2 _ (getD_mem (by omega))
    refine ⟨_, rfl, ?_⟩
    refine st_app 7 rfl (ev_at (f := eN) (d := 0) (EV.q (ev_var 0 rfl) rfl) (ev_last (f := eN) (d := 0) (eo_ow 7 rfl).q (by omega)) hla) (by rw [List.length_map]; omega) (st_nil ⟨ch ++ [ps.getD (ch.getD (ch.length - 1) 0) 0], _, List.mem_append_left _ c1, fun y hy => ?_, by simp [c3], by rw [show ((ch ++ [ps.getD (ch.getD (ch.length - 1) 0) 0]).map eN) = ch.map eN ++ [eN (ps.getD (ch.getD (ch.length - 1) 0) 0)] by simp]; rfl⟩)
    rcases List.mem_append.mp hy with hy | hy
    · exact c2 y hy
    · rw [List.mem_singleton.mp hy]; exact pt.get hla
  rintro r2 ⟨ch, x, c1, c2, c3, rfl⟩
  refine st_lc (xs := List.range ps.length) (enc := eN) (pp := fun h => !decide (h ∈ ch)) (g := eN) (rx := fun o => R (some (.im (eN h))) (some (.im (.lst (tl.map eN)))) (some (.ow (ch.map eN))) x none (some (.im (eN o)))) 9 rfl nd (ei_rangeN (ev_var 4 rfl) (by omega) b.range) (show BlkOk ["_law_partners_here", "_law_kind", "_law_first", "_law_second", "_law_many", "_law_house", "_law_tails", "_law_chain", "_law_step", "_law_others", "_law_other"] (defScope (top 47)) _ [("_law_other", 10)] from blkOk_by (by decide +kernel)) (by simp) (fun s H C cl fp => gt_name 10 nd) (fun n _ => rfl)
    (fun h hh _ H' C' cl fp => ets_one (et_niN (l := ch) (ev_var 10 rfl) (eo_ow 7 rfl).q)) (fun h hh _ _ H' C' cl fp => ev_var 10 rfl) (by rw [List.length_range]; omega) ?_
  obtain ⟨ot, hot⟩ : ∃ ot, (List.range ps.length).filter (fun h => !decide (h ∈ ch)) = ot := ⟨_, rfl⟩
  have hom : ∀ y ∈ ot, y < ps.length ∧ h ≠ y := fun y hy => by
    rw [← hot] at hy
    obtain ⟨y1, y2⟩ := List.mem_filter.mp hy
    have y2 : y ∉ ch := by simpa using y2
    exact ⟨List.mem_range.mp y1, fun e => y2 (e ▸ c1)⟩
  rw [hot]
  refine st_ifC (fun r => ∃ o : List Nat, 0 < o.length ∧ (∀ y ∈ o, y < ps.length ∧ h ≠ y) ∧ r = R (some (.im (eN h))) (some (.im (.lst (tl.map eN)))) (some (.ow (ch.map eN))) x (some (.im (.lst (o.map eN)))) none) (EW.et (ew_or (k2 := decide (ot.length = 0)) (et_gtN (m := 1) (ev_var 1 rfl) ev_nat) fun _ => ew_or1 (et_eqN (m := 0) (ev_lenM (EV.q (ev_var 9 rfl) rfl) b.len) ev_nat))) (fun z => ?_) (fun z => ?_) ?_
  · refine st_lc (xs := List.range ps.length) (enc := eN) (pp := fun o => !decide (o = h)) (g := eN) (rx := fun o => R (some (.im (eN h))) (some (.im (.lst (tl.map eN)))) (some (.ow (ch.map eN))) x (some (.im (.lst (ot.map eN)))) (some (.im (eN o)))) 9 rfl nd (ei_rangeN (ev_var 4 rfl) (by omega) b.range) (show BlkOk ["_law_partners_here", "_law_kind", "_law_first", "_law_second", "_law_many", "_law_house", "_law_tails", "_law_chain", "_law_step", "_law_others", "_law_other"] (defScope (top 47)) _ [("_law_other", 10)] from blkOk_by (by decide +kernel)) (by simp) (fun s H C cl fp => gt_name 10 nd) (fun n _ => rfl)
      (fun y hh _ H' C' cl fp => ets_one (et_neN (ev_var 10 rfl) (ev_var 5 rfl))) (fun h hh _ _ H' C' cl fp => ev_var 10 rfl) (by rw [List.length_range]; omega) (st_nil ⟨_, ?_, fun y hy => ?_, rfl⟩)
    · refine List.length_pos_of_mem (a := if h = 0 then 1 else 0) (List.mem_filter.mpr ⟨List.mem_range.mpr (by split <;> omega), ?_⟩)
      split <;> simp <;> omega
    · obtain ⟨y1, y2⟩ := List.mem_filter.mp hy
      have y2 : ¬ y = h := by simpa using y2
      exact ⟨List.mem_range.mp y1, fun e => y2 e.symm⟩
  · have : ¬ ot.length = 0 := of_decide_eq_false (Bool.or_eq_false_iff.mp z).2
    exact st_nil ⟨ot, by omega, hom, rfl⟩
  rintro r3 ⟨o, o1, o2, rfl⟩
  obtain ⟨y1, y2⟩ := o2 _ (getD_mem (d := 0) (Nat.mod_lt c o1))
  exact st_ret (ev_tup (ts := [_, _]) (ea_cons (ev_var 5 rfl) (ea_cons (ev_at (f := eN) (d := 0) (EV.q (ev_var 9 rfl) rfl) (ev_modN (ev_int1 (ev_var 3 rfl) b.int) (ev_lenM (EV.q (ev_var 9 rfl) rfl) b.len) o1) (Nat.mod_lt _ o1)) ea_nil)) (by simp)) ⟨some (h, _), fun q e => by cases e; exact ⟨y2, hh, y1⟩, rfl⟩
end
end TL

/-! the law's defs, part i: towns and ways -/
namespace TL
open PySem L2 PySem.Spec PyProof.Rows
section
variable {P : Program} {w : World} {K : PySem.W.Frag} {mg : Str → Option Value} {base : Heap}
variable {C CS : Addr} {k : Nat}
theorem ev_menu {X : Cx} {r : Rho} {b : Expr} {pos q : Pos} {es : List Expr} {xs : List Nat} {j : Nat} (ha : EA X r es ((xs.map eN).map .im)) (hb : EV X r b (eN j)) (hj : j < xs.length) (hl : xs.length ≤ 1000 := by decide) (hs : PlainIx b := by exact fun _ _ => rfl) : EV X r (.Subscript (.List es q) b pos) (eN (xs.getD j 0)) :=
  ev_at (f := eN) (d := 0) (EL.q (el_lst ha (by simpa using hl))) hb hj hs
def StepsL (ln : List (Nat × Nat)) (v : List Nat) : Prop := ∀ i, i + 1 < v.length → (v.getD i 0, v.getD (i + 1) 0) ∈ ln
structure WayL (m : Nat) (ln : List (Nat × Nat)) (h n : Nat) (v : List Nat) : Prop where
  ne : v ≠ []
  lt : ∀ x ∈ v, x < m
  st : StepsL ln v
  len : v.length ≤ n
  last : v.getD (v.length - 1) 0 = h
theorem WayL.cons {m h n s : Nat} {ln : List (Nat × Nat)} {v : List Nat} (w : WayL m ln h n v) (hs : s < m) (hl : (s, v.getD 0 0) ∈ ln) : WayL m ln h (n + 1) (s :: v) := by
  have hp := List.length_pos_iff.mpr w.ne
  refine ⟨by simp, fun x hx => ?_, fun i hi => ?_, by simp only [List.length_cons]; have := w.len; omega, ?_⟩
  · rcases List.mem_cons.mp hx with rfl | hx
    · exact hs
    · exact w.lt x hx
  · cases i with
    | zero => exact hl
    | succ i => exact w.st i (by simpa using hi)
  · have : (s :: v).length - 1 = (v.length - 1) + 1 := by simp only [List.length_cons]; omega
    rw [this]
    exact w.last
def SWayTo : List Sl → (T → Prop) → Prop := fun ss Po => ∃ (m h n few : Nat) (ln : List (Nat × Nat)) (pt row : List Nat) (t0 t3 t4 : T), Pt m pt ∧ (∀ p ∈ ln, p.1 < m ∧ p.2 < m) ∧ ln.length ≤ 1000 ∧ h < m ∧ 1 ≤ n ∧ n ≤ 60 ∧ 0 < row.length ∧
  ss = [.im (.lst [t0, .lst (ln.map eP), .lst (pt.map eN), t3, t4]), .im (eN h), .im (eN n), .im (eN few), .im (.lst (row.map eN))] ∧ Po = fun t => ∃ v, WayL m ln h n v ∧ t = eNs v
theorem ok_wayTo (b : Bi mg) (D : DefAt K mg "_law_way_to" (top 49) ["_law_town_here", "_law_house", "_law_length", "_law_few", "_law_row"]) : DefOk P w K mg base "_law_way_to" 1 ["_law_town_here", "_law_house", "_law_length", "_law_few", "_law_row"] SWayTo := by
  have nd : (["_law_town_here", "_law_house", "_law_length", "_law_few", "_law_row", "_law_way", "_law_k", "_law_froms", "_law_digit", "_law_source", "_law_lane"] : List Str).Nodup := by decide +kernel
  refine D.ok (N := ["_law_town_here", "_law_house", "_law_length", "_law_few", "_law_row", "_law_way", "_law_k", "_law_froms", "_law_digit", "_law_source", "_law_lane"]) ⟨rfl, rfl, rfl, nd, rfl, by decide +kernel, by decide +kernel⟩ (fun _ _ ⟨_, _, _, _, _, _, _, _, _, _, _, _, _, _, _, _, _, e, _⟩ => by rw [e]; rfl) ?_
  rintro f cdv A outer st H E hr _ _ ⟨m, h, n, few, ln, pt, row, t0, t3, t4, hpt, hln, hll, hh, hn1, hn2, hrow, rfl, rfl⟩
  let TT : T := .lst [t0, .lst (ln.map eP), .lst (pt.map eN), t3, t4]
  let R : List Nat → Option Sl → Option Sl → Option Sl → Option Sl → Option Sl → Rho := fun v a b c d e => [some (.im TT), some (.im (eN h)), some (.im (eN n)), some (.im (eN few)), some (.im (.lst (row.map eN))), some (.im (eNs v)), a, b, c, d, e]
  refine st_set 5 nd (EV.to (ev_tup (ts := [eN h]) (ea_cons (ev_var 1 rfl) ea_nil) (by simp)) (t' := eNs [h]) rfl) ?_
  refine st_for (fun k r => ∃ v x y z u, WayL m ln h (k + 1) v ∧ r = R v x y z u none) (ei_rangeN (ev_subN (m := 1) (ev_var 2 rfl) ev_nat hn1) (by omega) b.range) (gt_name 6 nd) ⟨[h], none, none, none, none, ⟨by simp, by simpa using hh, fun i hi => absurd hi (by simp), by simp, rfl⟩, rfl⟩ ?_ ?_
  · rintro k t' r1 ht' ⟨v, x, y, z, u, wl, rfl⟩
    obtain ⟨q, hq, rfl, _⟩ := forM ht'
    obtain ⟨rfl, hk⟩ := rangeM hq
    have hv := List.length_pos_iff.mpr wl.ne
    refine ⟨_, rfl, ?_⟩
    refine st_lc (xs := ln) (enc := eP) (pp := fun p => decide (p.2 = v.getD 0 0)) (g := fun p => eN p.1) (rx := fun p => R v (some (.im (eN q))) y z u (some (.im (eP p)))) 7 rfl nd (ei_list (ev_at' (j := 1) (t := .lst (ln.map eP)) (EV.q (ev_var 0 rfl) rfl) ev_int rfl)) (show BlkOk ["_law_town_here", "_law_house", "_law_length", "_law_few", "_law_row", "_law_way", "_law_k", "_law_froms", "_law_digit", "_law_source", "_law_lane"] (defScope (top 49)) _ [("_law_lane", 10)] from blkOk_by (by decide +kernel)) (by simp) (fun s H C cl fp => gt_name 10 nd) (fun n _ => rfl)
      (fun p hp _ H' C' cl fp => ets_one (et_eqN (ev_at' (j := 1) (t := eN p.2) (EV.q (ev_var 10 rfl) rfl) ev_int rfl) (ev_at (f := eN) (d := 0) (j := 0) (EV.q (ev_var 5 rfl) rfl) ev_nat hv))) (fun p hp _ _ H' C' cl fp => ev_at' (j := 0) (t := eN p.1) (EV.q (ev_var 10 rfl) rfl) ev_int rfl) (by omega) ?_
    obtain ⟨fr, hfr⟩ : ∃ fr : List Nat, (ln.filter fun p => decide (p.2 = v.getD 0 0)).map (fun p => p.1) = fr := ⟨_, rfl⟩
    have hfm : ∀ s ∈ fr, s < m ∧ (s, v.getD 0 0) ∈ ln := fun s hs => by
      rw [← hfr] at hs
      obtain ⟨p, hp, rfl⟩ := List.mem_map.mp hs
      obtain ⟨p1, p2⟩ := List.mem_filter.mp hp
      have p2 := of_decide_eq_true p2
      exact ⟨(hln p p1).1, by rw [← p2]; exact p1⟩
    rw [show (ln.filter fun p => decide (p.2 = v.getD 0 0)).map (fun p => eN p.1) = fr.map eN by rw [← hfr, List.map_map]; rfl]
    refine st_set 8 nd (ev_int1 (ev_at (f := eN) (d := 0) (EV.q (ev_var 4 rfl) rfl) (ev_modN (ev_int1 (ev_var 6 rfl) b.int) (ev_lenM (EV.q (ev_var 4 rfl) rfl) b.len) hrow) (Nat.mod_lt _ hrow)) b.int) ?_
    refine st_ifC _ (et_gtN (m := 0) (ev_lenM (EV.q (ev_var 7 rfl) rfl) b.len) ev_nat) (fun c => ?_) (fun _ => st_nil ⟨v, _, _, _, u, ⟨wl.ne, wl.lt, wl.st, by have := wl.len; omega, wl.last⟩, rfl⟩) (fun r' h => st_nil h)
    have hp : 0 < fr.length := of_decide_eq_true c
    have hvm : v.getD 0 0 < m := wl.lt _ (getD_mem hv)
    refine st_set 9 nd (ev_at (f := eN) (d := 0) (EV.q (ev_var 7 rfl) rfl) (ev_modN (ev_var 8 rfl) (ev_lenM (EV.q (ev_var 7 rfl) rfl) b.len) hp) (Nat.mod_lt _ hp)) ?_
    refine st_ifC (fun r => ∃ s, s ∈ fr ∧ r = R v (some (.im (eN q))) (some (.im (.lst (fr.map eN)))) (some (.im (eN (row.getD (q % row.length) 0)))) (some (.im (eN s))) none) (EW.et (ew_and (k2 := decide (pt.getD (v.getD 0 0) 0 ∈ fr)) (et_ltN (ev_modN (m := 20) (ev_var 8 rfl) ev_nat (by decide)) (ev_var 3 rfl)) fun _ => ew_and1 (et_inN (ev_at (f := eN) (d := 0) (EV.q (ev_at' (j := 2) (t := .lst (pt.map eN)) (EV.q (ev_var 0 rfl) rfl) ev_int rfl) rfl) (ev_at (f := eN) (d := 0) (j := 0) (EV.q (ev_var 5 rfl) rfl) ev_nat hv) (by rw [hpt.len]; exact hvm)) (EV.q (ev_var 7 rfl) rfl)))) (fun c => ?_) (fun _ => st_nil ⟨_, getD_mem (Nat.mod_lt _ hp), rfl⟩) ?_
    · exact st_set 9 nd (ev_at (f := eN) (d := 0) (EV.q (ev_at' (j := 2) (t := .lst (pt.map eN)) (EV.q (ev_var 0 rfl) rfl) ev_int rfl) rfl) (ev_at (f := eN) (d := 0) (j := 0) (EV.q (ev_var 5 rfl) rfl) ev_nat hv) (by rw [hpt.len]; exact hvm)) (st_nil ⟨_, of_decide_eq_true (Bool.and_eq_true_iff.mp c).2, rfl⟩)
    rintro r2 ⟨s, hs, rfl⟩
    obtain ⟨s1, s2⟩ := hfm s hs
    have wl2 := wl.cons s1 s2
    have hvl := wl.len
    exact st_set 5 nd (EV.to (ev_catT (us := v.map eN) (ev_tup (ts := [eN s]) (ea_cons (ev_var 9 rfl) ea_nil) (by simp)) (ev_var 5 rfl) (by simp) (by simp only [List.length_singleton, List.length_map]; omega)) (t' := eNs (s :: v)) rfl) (st_nil ⟨s :: v, _, _, _, _, wl2, rfl⟩)
  · rintro r1 ⟨v, x, y, z, u, wl, rfl⟩
    rw [List.length_map, List.length_range] at wl
    exact st_ret (ev_var 5 rfl) ⟨v, ⟨wl.ne, wl.lt, wl.st, by have := wl.len; omega, wl.last⟩, rfl⟩

/-! ### towns -/
structure LnI (m : Nat) (o : Option (Nat × Nat)) (a b : Nat) (ln : List (Nat × Nat)) : Prop where
  pr : ∀ p ∈ ln, p.1 ≠ p.2 ∧ p.1 < m ∧ p.2 < m ∧ (p.1 < a ∨ (p.1 = a ∧ p.2 < b))
  pw : ln.Pairwise fun p q => p.1 < q.1 ∨ (p.1 = q.1 ∧ p.2 < q.2)
  len : ln.length ≤ a * (m - 1) + (if a < b then b - 1 else b)
  sp : ∀ q, o = some q → (q.1 < a ∨ (q.1 = a ∧ q.2 < b)) → q ∈ ln
theorem LnI.skip {m : Nat} {o : Option (Nat × Nat)} {a : Nat} {ln : List (Nat × Nat)} (ho : ∀ q, o = some q → q.1 ≠ q.2) (h : LnI m o a a ln) : LnI m o a (a + 1) ln := by
  refine ⟨fun p hp => ?_, h.pw, ?_, fun q e c => ?_⟩
  · obtain ⟨h1, h2, h3, h4⟩ := h.pr p hp
    exact ⟨h1, h2, h3, by omega⟩
  · have := h.len
    rw [if_neg (Nat.lt_irrefl a)] at this
    rw [if_pos (Nat.lt_succ_self a)]
    exact this
  · have := ho q e
    exact h.sp q e (by omega)
theorem LnI.no {m : Nat} {o : Option (Nat × Nat)} {a b : Nat} {ln : List (Nat × Nat)} (hb : b ≠ a) (ho : o ≠ some (a, b)) (h : LnI m o a b ln) : LnI m o a (b + 1) ln := by
  refine ⟨fun p hp => ?_, h.pw, ?_, fun q e c => ?_⟩
  · obtain ⟨h1, h2, h3, h4⟩ := h.pr p hp
    exact ⟨h1, h2, h3, by omega⟩
  · have := h.len
    refine Nat.le_trans this (Nat.add_le_add_left ?_ _)
    split <;> split <;> omega
  · by_cases z : q = (a, b)
    · exact absurd (z ▸ e) ho
    · refine h.sp q e ?_
      obtain ⟨q1, q2⟩ := q
      have : ¬ (q1 = a ∧ q2 = b) := fun ⟨e1, e2⟩ => z (by rw [e1, e2])
      simp only at c ⊢
      omega
theorem LnI.add {m : Nat} {o : Option (Nat × Nat)} {a b : Nat} {ln : List (Nat × Nat)} (hb : b ≠ a) (ha : a < m) (hbm : b < m) (h : LnI m o a b ln) : LnI m o a (b + 1) (ln ++ [(a, b)]) := by
  refine ⟨fun p hp => ?_, ?_, ?_, fun q e c => ?_⟩
  · rcases List.mem_append.mp hp with hp | hp
    · obtain ⟨h1, h2, h3, h4⟩ := h.pr p hp
      exact ⟨h1, h2, h3, by omega⟩
    · rw [List.mem_singleton.mp hp]
      exact ⟨fun e => hb e.symm, ha, hbm, .inr ⟨rfl, Nat.lt_succ_self b⟩⟩
  · rw [List.pairwise_append]
    refine ⟨h.pw, by simp, fun p hp q hq => ?_⟩
    rw [List.mem_singleton.mp hq]
    exact (h.pr p hp).2.2.2
  · have := h.len
    rw [List.length_append, List.length_singleton]
    refine Nat.le_trans (Nat.add_le_add_right this 1) ?_
    rw [Nat.add_assoc]
    refine Nat.add_le_add_left ?_ _
    split <;> split <;> omega
  · by_cases z : q = (a, b)
    · rw [z]; exact List.mem_append_right _ (by simp)
    · refine List.mem_append_left _ (h.sp q e ?_)
      obtain ⟨q1, q2⟩ := q
      have : ¬ (q1 = a ∧ q2 = b) := fun ⟨e1, e2⟩ => z (by rw [e1, e2])
      simp only at c ⊢
      omega
theorem LnI.next {m : Nat} {o : Option (Nat × Nat)} {a : Nat} {ln : List (Nat × Nat)} (ha : a < m) (ho : ∀ q, o = some q → q.2 < m) (h : LnI m o a m ln) : LnI m o (a + 1) 0 ln := by
  refine ⟨fun p hp => ?_, h.pw, ?_, fun q e c => ?_⟩
  · obtain ⟨h1, h2, h3, h4⟩ := h.pr p hp
    exact ⟨h1, h2, h3, by omega⟩
  · have := h.len
    rw [if_pos ha] at this
    rw [if_neg (by omega), Nat.succ_mul]
    exact this
  · have := ho q e
    exact h.sp q e (by omega)
def szT (a c : Nat) : List Nat := [a, 8, 5, 8, 12, 4, 8, 21, 8, c, 12, 12, 20] ++ List.replicate 12 12
structure Tw where
  pegs : List Nat
  lanes : List (Nat × Nat)
  parts : List Nat
  o : Option (Nat × Nat)
  kind : Nat
  plan : List Nat
structure OkTw (t : Tw) : Prop where
  m1 : 1 ≤ t.pegs.length
  m2 : t.pegs.length ≤ 12
  pegs : ∀ p ∈ t.pegs, 1 ≤ p ∧ p ≤ 9
  ln : LnI t.pegs.length t.o t.pegs.length 0 t.lanes
  pt : Pt t.pegs.length t.parts
  o : ∀ q, t.o = some q → q.1 ≠ q.2 ∧ q.1 < t.pegs.length ∧ q.2 < t.pegs.length
  plan : ∃ a c, Dg (szT a c) t.plan
def tTown (t : Tw) : T := .lst [.lst (t.pegs.map eN), .lst (t.lanes.map eP), .lst (t.parts.map eN), .tup (eS t.o ++ [eN t.kind]), .lst (t.plan.map eN)]
theorem OkTw.st {t : Tw} (h : OkTw t) (ws : List (List Nat)) : OkSt ⟨t.pegs, t.lanes, ws⟩ := by
  refine ⟨h.m2, h.pegs, fun p hp => ?_, h.ln.pw, ?_⟩
  · obtain ⟨h1, h2, h3, _⟩ := h.ln.pr p hp
    exact ⟨h1, h2, h3⟩
  · have := h.ln.len
    rw [if_neg (Nat.not_lt_zero _)] at this
    have h1 := h.m2
    have : t.pegs.length * (t.pegs.length - 1) ≤ 12 * 11 := Nat.mul_le_mul h1 (by omega)
    show t.lanes.length ≤ 132
    omega
def STown : List Sl → (T → Prop) → Prop := fun ss Po => ∃ (ns : List Int) (at_ : Nat) (cs sp : List Nat), ns.length ≤ 1000 ∧ at_ ≤ 100 ∧ 0 < cs.length ∧ cs.length < 1000 ∧ 0 < sp.length ∧ sp.length < 1000 ∧ (∀ c ∈ cs, 1 ≤ c ∧ c ≤ 12) ∧
  ss = [.ro (ns.map .int), .im (eN at_), .im (.lst (cs.map eN)), .im (.lst (sp.map eN))] ∧ Po = fun t => ∃ tw, OkTw tw ∧ t = tTown tw
theorem ok_town (b : Bi mg) (Ce : DefOk P w K mg base "_law_cell" 1 ["_law_script", "_law_k"] SCell) (Di : DefOk P w K mg base "_law_digits" 1 ["_law_cell_here", "_law_sizes"] SDigits) (Pa : DefOk P w K mg base "_law_partners" 1 ["_law_many", "_law_style", "_law_turn", "_law_row"] SParts) (Sp : DefOk P w K mg base "_law_spur" 1 ["_law_partners_here", "_law_kind", "_law_first", "_law_second"] SSpur)
    (D : DefAt K mg "_law_town" (top 48) ["_law_script", "_law_at", "_law_counts", "_law_spurs"]) : DefOk P w K mg base "_law_town" 2 ["_law_script", "_law_at", "_law_counts", "_law_spurs"] STown := by
  have nd : (["_law_script", "_law_at", "_law_counts", "_law_spurs", "_law_sizes", "_law_plan", "_law_many", "_law_kind", "_law_partners_here", "_law_spur_here", "_law_menu", "_law_pegs", "_law_lanes", "_law_a", "_law_row", "_law_b", "_law_near"] : List Str).Nodup := by decide +kernel
  refine D.ok (N := ["_law_script", "_law_at", "_law_counts", "_law_spurs", "_law_sizes", "_law_plan", "_law_many", "_law_kind", "_law_partners_here", "_law_spur_here", "_law_menu", "_law_pegs", "_law_lanes", "_law_a", "_law_row", "_law_b", "_law_near"]) ⟨rfl, rfl, rfl, nd, rfl, by decide +kernel, by decide +kernel⟩ (fun _ _ ⟨_, _, _, _, _, _, _, _, _, _, _, e, _⟩ => by rw [e]; rfl) ?_
  rintro f cdv A outer st H E hr _ _ ⟨ns, at_, cs, sp, hns, hat, hc1, hc2, hs1, hs2, hcs, rfl, rfl⟩
  refine st_set 4 nd (EL.v (EL.to (el_cat (EL.k (el_lst (ts := [_, _, _, _, _, _, _, _, _, _, _, _, _]) (ea_cons (ev_lenM (EV.q (ev_var 2 rfl) rfl) b.len) (ea_cons ev_int (ea_cons ev_int (ea_cons ev_int (ea_cons ev_int (ea_cons ev_int (ea_cons ev_int (ea_cons ev_int (ea_cons ev_int (ea_cons (ev_lenM (EV.q (ev_var 3 rfl) rfl) b.len) (ea_cons ev_int (ea_cons ev_int (ea_cons ev_int ea_nil))))))))))))) (by simp))) (EL.k (el_rep (t := eN 12) (EL.k (el_lst (ts := [eN 12]) (ea_cons ev_int ea_nil) (by simp))) ev_int (by decide) (by decide))) (by simp)) (us := (szT cs.length sp.length).map eN) rfl)) ?_
  refine st_setP 5 nd (ep_callP Di hr (eap_cons (ep_call Ce hr (ea_consO (eo_ro 0 rfl) (ea_cons (ev_var 1 rfl) ea_nil)) ⟨ns, at_, by omega, hns, rfl, rfl⟩) (ea_cons (ev_var 4 rfl) ea_nil)) (P := fun t => ∃ ds, Dg (szT cs.length sp.length) ds ∧ t = .lst (ds.map eN)) ?_) ?_
  · rintro _ ⟨t, ⟨i, rfl⟩, rfl⟩
    refine ⟨i, szT cs.length sp.length, fun s hs => ?_, by simp [szT], rfl, rfl⟩
    simp only [szT, List.mem_append, List.mem_cons, List.mem_replicate, List.not_mem_nil, or_false] at hs
    omega
  rintro _ ⟨pl, dg, rfl⟩
  have pln : pl.length = 25 := dg.len
  have p0 : pl.getD 0 0 < cs.length := dg.lt 0 (by simp [szT])
  have p1 : pl.getD 1 0 < 8 := dg.lt 1 (by simp [szT])
  have p2 : pl.getD 2 0 < 5 := dg.lt 2 (by simp [szT])
  have p3 : pl.getD 3 0 < 8 := dg.lt 3 (by simp [szT])
  have p9 : pl.getD 9 0 < sp.length := dg.lt 9 (by simp [szT])
  refine st_set 6 nd (ev_at (f := eN) (d := 0) (EV.q (ev_var 2 rfl) rfl) (ev_at (f := eN) (d := 0) (j := 0) (EV.q (ev_var 5 rfl) rfl) ev_nat (by omega)) p0) ?_
  obtain ⟨m1, m2⟩ := hcs _ (getD_mem (d := 0) p0)
  generalize hm : cs.getD (pl.getD 0 0) 0 = m at m1 m2 ⊢
  refine st_set 7 nd (ev_at (f := eN) (d := 0) (EV.q (ev_var 3 rfl) rfl) (ev_at (f := eN) (d := 0) (j := 9) (EV.q (ev_var 5 rfl) rfl) ev_nat (by omega)) p9) ?_
  generalize hkd : sp.getD (pl.getD 9 0) 0 = kind
  refine st_setP 8 nd (ep_call Pa hr (ea_cons (ev_var 6 rfl) (ea_cons (ev_menu (xs := [0, 0, 1, 1, 2, 3, 3, 3]) (ea_cons ev_int (ea_cons ev_int (ea_cons ev_int (ea_cons ev_int (ea_cons ev_int (ea_cons ev_int (ea_cons ev_int (ea_cons ev_int ea_nil)))))))) (ev_at (f := eN) (d := 0) (j := 3) (EV.q (ev_var 5 rfl) rfl) ev_nat (by omega)) p3) (ea_cons (ev_at (f := eN) (d := 0) (j := 4) (EV.q (ev_var 5 rfl) rfl) ev_nat (by omega)) (ea_cons (EL.v (EL.to (el_slice (EV.o (ev_var 5 rfl)) (ept_some ev_int) ept_none) (us := (pl.drop 13).map eN) ((cut_from (k := 13)).trans List.map_drop.symm))) ea_nil)))) ⟨m, _, _, pl.drop 13, m1, m2, (by decide : ∀ j < 8, ([0, 0, 1, 1, 2, 3, 3, 3] : List Nat).getD j 0 < 4) _ p3, by rw [List.length_drop]; omega, rfl, rfl⟩) ?_
  rintro _ ⟨pt, hpt, rfl⟩
  have hpl := hpt.len
  refine st_setP 9 nd (ep_call Sp hr (ea_cons (ev_var 8 rfl) (ea_cons (ev_var 7 rfl) (ea_cons (ev_at (f := eN) (d := 0) (j := 10) (EV.q (ev_var 5 rfl) rfl) ev_nat (by omega)) (ea_cons (ev_at (f := eN) (d := 0) (j := 11) (EV.q (ev_var 5 rfl) rfl) ev_nat (by omega)) ea_nil)))) ⟨pt, kind, _, _, ⟨rfl, fun p hp => by rw [hpl]; exact hpt.lt p hp⟩, by omega, by omega, rfl, rfl⟩) ?_
  rintro _ ⟨o, ho, rfl⟩
  rw [hpl] at ho
  obtain ⟨si, sj, hsp, hso⟩ : ∃ si sj : Int, eS o = [.int si, .int sj] ∧ ∀ a c : Nat, o = some (a, c) → (a : Int) = si ∧ (c : Int) = sj := by
    cases o with
    | none => exact ⟨-1, -1, rfl, fun a c e => by cases e⟩
    | some q => exact ⟨q.1, q.2, rfl, fun a c e => by cases e; exact ⟨rfl, rfl⟩⟩
  rw [hsp]
  refine st_set 10 nd (EL.v (el_lst (ts := [.lst (([1, 1, 2, 1, 1, 1, 2, 1, 1] : List Nat).map eN), .lst (([1, 2, 1, 3, 2, 1, 2, 1, 1] : List Nat).map eN), .lst (([2, 2, 3, 2, 1, 2, 3, 2, 2] : List Nat).map eN)]) (ea_cons (EL.v (el_lst (ea_cons ev_int (ea_cons ev_int (ea_cons ev_int (ea_cons ev_int (ea_cons ev_int (ea_cons ev_int (ea_cons ev_int (ea_cons ev_int (ea_cons ev_int ea_nil))))))))) (by decide))) (ea_cons (EL.v (el_lst (ea_cons ev_int (ea_cons ev_int (ea_cons ev_int (ea_cons ev_int (ea_cons ev_int (ea_cons ev_int (ea_cons ev_int (ea_cons ev_int (ea_cons ev_int ea_nil))))))))) (by decide))) (ea_cons (EL.v (el_lst (ea_cons ev_int (ea_cons ev_int (ea_cons ev_int (ea_cons ev_int (ea_cons ev_int (ea_cons ev_int (ea_cons ev_int (ea_cons ev_int (ea_cons ev_int ea_nil))))))))) (by decide))) ea_nil))) (by decide))) ?_
  refine st_set 10 nd (ev_at (f := fun l : List Nat => .lst (l.map eN)) (d := []) (xs := [[1, 1, 2, 1, 1, 1, 2, 1, 1], [1, 2, 1, 3, 2, 1, 2, 1, 1], [2, 2, 3, 2, 1, 2, 3, 2, 2], [1, 2, 3, 4, 5, 6, 7, 8, 9]]) (EL.q (EL.to (el_cat (EV.k (ev_var 10 rfl)) (EL.k (el_lst (ts := [.lst (([1, 2, 3, 4, 5, 6, 7, 8, 9] : List Nat).map eN)]) (ea_cons (EL.v (el_lst (ea_cons ev_int (ea_cons ev_int (ea_cons ev_int (ea_cons ev_int (ea_cons ev_int (ea_cons ev_int (ea_cons ev_int (ea_cons ev_int (ea_cons ev_int ea_nil))))))))) (by decide))) ea_nil) (by decide))) (by decide)) rfl)) (ev_menu (xs := [0, 0, 1, 0, 1, 2, 2, 3]) (ea_cons ev_int (ea_cons ev_int (ea_cons ev_int (ea_cons ev_int (ea_cons ev_int (ea_cons ev_int (ea_cons ev_int (ea_cons ev_int ea_nil)))))))) (ev_at (f := eN) (d := 0) (j := 1) (EV.q (ev_var 5 rfl) rfl) ev_nat (by omega)) p1) ((by decide : ∀ j < 8, ([0, 0, 1, 0, 1, 2, 2, 3] : List Nat).getD j 0 < 4) _ p1)) ?_
  obtain ⟨mu1, mu2⟩ := (by decide : ∀ j < 8, (([[1, 1, 2, 1, 1, 1, 2, 1, 1], [1, 2, 1, 3, 2, 1, 2, 1, 1], [2, 2, 3, 2, 1, 2, 3, 2, 2], [1, 2, 3, 4, 5, 6, 7, 8, 9]] : List (List Nat)).getD (([0, 0, 1, 0, 1, 2, 2, 3] : List Nat).getD j 0) []).length = 9 ∧ ∀ i < 9, 1 ≤ (([[1, 1, 2, 1, 1, 1, 2, 1, 1], [1, 2, 1, 3, 2, 1, 2, 1, 1], [2, 2, 3, 2, 1, 2, 3, 2, 2], [1, 2, 3, 4, 5, 6, 7, 8, 9]] : List (List Nat)).getD (([0, 0, 1, 0, 1, 2, 2, 3] : List Nat).getD j 0) []).getD i 0 ∧ (([[1, 1, 2, 1, 1, 1, 2, 1, 1], [1, 2, 1, 3, 2, 1, 2, 1, 1], [2, 2, 3, 2, 1, 2, 3, 2, 2], [1, 2, 3, 4, 5, 6, 7, 8, 9]] : List (List Nat)).getD (([0, 0, 1, 0, 1, 2, 2, 3] : List Nat).getD j 0) []).getD i 0 ≤ 9) _ p1
  generalize hmu : ([[1, 1, 2, 1, 1, 1, 2, 1, 1], [1, 2, 1, 3, 2, 1, 2, 1, 1], [2, 2, 3, 2, 1, 2, 3, 2, 2], [1, 2, 3, 4, 5, 6, 7, 8, 9]] : List (List Nat)).getD (([0, 0, 1, 0, 1, 2, 2, 3] : List Nat).getD (pl.getD 1 0) 0) [] = mu at mu1 mu2 ⊢
  refine st_setL 11 nd (el_lst (ts := []) ea_nil (by simp)) ?_
  refine st_setL 12 nd (el_lst (ts := []) ea_nil (by simp)) ?_
  let R : List Nat → List (Nat × Nat) → Option Sl → Option Sl → Option Sl → Option Sl → Rho := fun pg ln x y z u => [some (.ro (ns.map .int)), some (.im (eN at_)), some (.im (.lst (cs.map eN))), some (.im (.lst (sp.map eN))), some (.im (.lst ((szT cs.length sp.length).map eN))), some (.im (.lst (pl.map eN))), some (.im (eN m)), some (.im (eN kind)), some (.im (.lst (pt.map eN))), some (.im (.tup [.int si, .int sj])), some (.im (.lst (mu.map eN))), some (.ow (pg.map eN)), some (.ow (ln.map eP)), x, y, z, u]
  refine st_for (fun k r => ∃ pg ln x y z u, pg.length = k ∧ (∀ p ∈ pg, 1 ≤ p ∧ p ≤ 9) ∧ LnI m o k 0 ln ∧ r = R pg ln x y z u) (ei_rangeN (ev_var 6 rfl) (by omega) b.range) (gt_name 13 nd) ⟨[], [], none, none, none, none, rfl, by simp, ⟨by simp, by simp, by simp, fun q _ c => by omega⟩, rfl⟩ ?_ ?_
  · rintro k t' r1 ht' ⟨pg, ln, x, y, z, u, hpg, hp9, li, rfl⟩
    obtain ⟨a, ha, rfl, _⟩ := forM ht'
    obtain ⟨rfl, hk⟩ := rangeM ha
    refine ⟨_, rfl, ?_⟩
    refine st_setP 14 nd (ep_callP Di hr (eap_cons (ep_call Ce hr (ea_consO (eo_ro 0 rfl) (ea_cons (ev_addN (ev_addN (m := 1) (ev_var 1 rfl) ev_nat) (ev_var 13 rfl)) ea_nil)) ⟨ns, _, by omega, hns, rfl, rfl⟩) (ea_cons (EL.v (EL.to (el_cat (EL.k (el_lst (ts := [eN 9]) (ea_cons ev_int ea_nil) (by simp))) (EL.k (el_rep (t := eN 10) (EL.k (el_lst (ts := [eN 10]) (ea_cons ev_int ea_nil) (by simp))) ev_int (by decide) (by decide))) (by decide)) (us := (9 :: List.replicate 11 10 : List Nat).map eN) rfl)) ea_nil)) (P := fun t => ∃ ds, Dg (9 :: List.replicate 11 10) ds ∧ t = .lst (ds.map eN)) ?_) ?_
    · rintro _ ⟨t, ⟨i, rfl⟩, rfl⟩
      refine ⟨i, 9 :: List.replicate 11 10, fun s hs => ?_, by simp, rfl, rfl⟩
      simp only [List.mem_cons, List.mem_replicate] at hs
      omega
    rintro _ ⟨row, dr, rfl⟩
    have hrl : row.length = 12 := dr.len
    have hr0 : row.getD 0 0 < 9 := dr.lt 0 (by simp)
    refine st_app 11 rfl (ev_at (f := eN) (d := 0) (EV.q (ev_var 10 rfl) rfl) (ev_at (f := eN) (d := 0) (j := 0) (EV.q (ev_var 14 rfl) rfl) ev_nat (by omega)) (by omega)) (by rw [List.length_map]; omega) ?_
    have hp9' : ∀ p ∈ pg ++ [mu.getD (row.getD 0 0) 0], 1 ≤ p ∧ p ≤ 9 := fun p hp => by
      rcases List.mem_append.mp hp with hp | hp
      · exact hp9 p hp
      · rw [List.mem_singleton.mp hp]; exact mu2 _ hr0
    generalize hpg2 : pg ++ [mu.getD (row.getD 0 0) 0] = pg2 at hp9'
    have hpg2l : pg2.length = a + 1 := by rw [← hpg2, List.length_append, hpg]; rfl
    rw [show pg.map eN ++ [eN (mu.getD (row.getD 0 0) 0)] = pg2.map eN by rw [← hpg2]; simp]
    refine st_for (fun j r => ∃ ln z u, LnI m o a j ln ∧ r = R pg2 ln (some (.im (eN a))) (some (.im (.lst (row.map eN)))) z u) (ei_rangeN (ev_var 6 rfl) (by omega) b.range) (gt_name 15 nd) ⟨ln, z, u, li, rfl⟩ ?_ ?_
    · rintro j t2 r2 ht2 ⟨ln, z, u, li, rfl⟩
      obtain ⟨c, hc, rfl, _⟩ := forM ht2
      obtain ⟨rfl, hj⟩ := rangeM hc
      refine ⟨_, rfl, ?_⟩
      refine st_ifC _ (et_neN (ev_var 15 rfl) (ev_var 13 rfl)) (fun q => ?_) (fun q => ?_) (fun r' h => st_nil h)
      · have hne : c ≠ a := by simpa using q
        refine st_set 16 nd (ev_or (k2 := decide ((a : Int) = si ∧ (c : Int) = sj) || (decide (kind = 2) && decide ((c : Int) = si ∧ (a : Int) = sj))) (ev_and (ev_eqN (ev_at (f := eN) (d := 0) (EV.q (ev_var 8 rfl) rfl) (ev_var 15 rfl) (by omega)) (ev_var 13 rfl)) fun _ => ev_one (ev_ltN (m := 7) (ev_at (f := eN) (d := 0) (j := 3) (EV.q (ev_var 5 rfl) rfl) ev_nat (by omega)) ev_nat)) fun _ => ev_or (ev_eqP (ev_tup (ts := [_, _]) (ea_cons (ev_var 13 rfl) (ea_cons (ev_var 15 rfl) ea_nil)) (by simp)) (ev_var 9 rfl) hr.units) fun _ => ev_one (ev_and (ev_eqN (m := 2) (ev_var 7 rfl) ev_nat) fun _ => ev_one (ev_eqP (ev_tup (ts := [_, _]) (ea_cons (ev_var 15 rfl) (ea_cons (ev_var 13 rfl) ea_nil)) (by simp)) (ev_var 9 rfl) hr.units))) ?_
        generalize hnb : ((decide (pt.getD c 0 = a) && decide (pl.getD 3 0 < 7)) || (decide ((a : Int) = si ∧ (c : Int) = sj) || (decide (kind = 2) && decide ((c : Int) = si ∧ (a : Int) = sj)))) = nb
        have hix : ((1 : Int) + (c : Int) - (if decide ((a : Int) < (c : Int)) = true then 1 else 0)) = ((if a < c then c else 1 + c : Nat) : Int) := by
          by_cases z : a < c
          · rw [if_pos z, if_pos (decide_eq_true (by omega))]; omega
          · rw [if_neg z, if_neg (by simp; omega)]; omega
        have hixl : (if a < c then c else 1 + c) < row.length := by split <;> omega
        refine st_ifC _ (EW.et (ew_or (k2 := decide (row.getD (if a < c then c else 1 + c) 0 < ([1, 2, 4, 3, 10] : List Nat).getD (pl.getD 2 0) 0)) (et_val (ev_var 16 rfl)) fun _ => ew_or1 (et_ltN (ev_at (f := eN) (d := 0) (EV.q (ev_var 14 rfl) rfl) (EV.to (ev_sub (ev_add ev_int (ev_var 15 rfl)) (ev_intB (ev_gt (ev_var 15 rfl) (ev_var 13 rfl)) b.int)) (congrArg T.int hix)) hixl) (ev_menu (xs := [1, 2, 4, 3, 10]) (ea_cons ev_int (ea_cons ev_int (ea_cons ev_int (ea_cons ev_int (ea_cons ev_int ea_nil))))) (ev_at (f := eN) (d := 0) (j := 2) (EV.q (ev_var 5 rfl) rfl) ev_nat (by omega)) p2)))) (fun _ => ?_) (fun q => ?_) (fun r' h => st_nil h)
        · have hl := li.len
          have hl2 : a * (m - 1) ≤ 12 * 12 := Nat.mul_le_mul (by omega) (by omega)
          have hl3 : (if a < c then c - 1 else c) ≤ 12 := by split <;> omega
          exact st_app 12 rfl (ev_tup (ts := [eN a, eN c]) (ea_cons (ev_var 13 rfl) (ea_cons (ev_var 15 rfl) ea_nil)) (by simp)) (by rw [List.length_map]; omega) (st_nil ⟨ln ++ [(a, c)], some (.im (eN c)), some (.im (.bl nb)), li.add hne hk hj, by rw [show (ln.map eP ++ [T.tup [eN a, eN c]]) = (ln ++ [(a, c)]).map eP by simp]; rfl⟩)
        · have hnf : nb = false := (Bool.or_eq_false_iff.mp q).1
          refine st_nil ⟨ln, some (.im (eN c)), some (.im (.bl nb)), li.no hne (fun e => ?_), rfl⟩
          obtain ⟨e1, e2⟩ := hso a c e
          rw [← hnb, decide_eq_true (⟨e1, e2⟩ : (a : Int) = si ∧ (c : Int) = sj), Bool.true_or, Bool.or_true] at hnf
          cases hnf
      · have hne : c = a := by simpa using q
        subst hne
        exact st_nil ⟨ln, _, u, li.skip fun q e => (ho q e).1, rfl⟩
    · rintro r2 ⟨ln, z, u, li, rfl⟩
      rw [List.length_map, List.length_range] at li
      exact st_nil ⟨pg2, ln, _, _, z, u, hpg2l, hp9', li.next hk fun q e => (ho q e).2.2, rfl⟩
  · rintro r1 ⟨pg, ln, x, y, z, u, hpg, hp9, li, rfl⟩
    rw [List.length_map, List.length_range] at hpg li
    refine st_give 11 rfl ?_
    refine st_give 12 rfl ?_
    have hpg' : pg.length = m := hpg
    refine st_ret (EL.v (el_lst (ts := [.lst (pg.map eN), .lst (ln.map eP), .lst (pt.map eN), .tup (eS o ++ [eN kind]), .lst (pl.map eN)]) (ea_cons (ev_var 11 rfl) (ea_cons (ev_var 12 rfl) (ea_cons (ev_var 8 rfl) (ea_cons (EV.to (ev_catT (us := [eN kind]) (ev_var 9 rfl) (ev_tup (ts := [eN kind]) (ea_cons (ev_var 7 rfl) ea_nil) (by simp)) (by simp) (by simp)) (by rw [hsp])) (ea_cons (ev_var 5 rfl) ea_nil))))) (by simp))) ⟨⟨pg, ln, pt, o, kind, pl⟩, ⟨by show 1 ≤ pg.length; omega, by show pg.length ≤ 12; omega, hp9, by show LnI pg.length o pg.length 0 ln; rw [hpg']; exact li, by show Pt pg.length pt; rw [hpg']; exact hpt, by show ∀ q, o = some q → _; rw [hpg']; exact ho, ⟨_, _, dg⟩⟩, rfl⟩
end
end TL

/-! the law's defs, part j: crowds -/
namespace TL
open PySem L2 PySem.Spec PyProof.Rows
theorem loadOf_snoc (ws : List (List Nat)) (v : List Nat) (h : Nat) : loadOf (ws ++ [v]) h = loadOf ws h + (if holder v = some h then 1 else 0) := by
  unfold loadOf
  rw [List.filter_append, List.length_append]
  congr 1
  by_cases c : holder v = some h
  · rw [if_pos c, List.filter_cons_of_pos (by simp [c])]; rfl
  · rw [if_neg c, List.filter_cons_of_neg (by simp [c])]; rfl
theorem holder_last {v : List Nat} {h : Nat} (e : holder v = some h) : v.getD (v.length - 1) 0 = h := by
  unfold holder at e
  split at e
  · exact Option.some.inj e
  · cases e
/-- ways that have been made, none too many at a house -/
structure Crd (m : Nat) (pegs : List Nat) (ln : List (Nat × Nat)) (n : Nat) (ws : List (List Nat)) : Prop where
  ok : ∀ v ∈ ws, v ≠ [] ∧ (∀ x ∈ v, x < m) ∧ StepsL ln v ∧ v.length ≤ n
  load : ∀ h < m, loadOf ws h ≤ pegs.getD h 0
theorem Crd.nil {m n : Nat} {pegs : List Nat} {ln : List (Nat × Nat)} : Crd m pegs ln n [] := ⟨by simp, fun h _ => Nat.zero_le _⟩
theorem Crd.snoc {m n h k : Nat} {pegs : List Nat} {ln : List (Nat × Nat)} {ws : List (List Nat)} {v : List Nat} (c : Crd m pegs ln n ws) (w : WayL m ln h k v) (hk : k ≤ n) (hl : v.length = 1 ∨ loadOf ws h < pegs.getD h 0) : Crd m pegs ln n (ws ++ [v]) := by
  refine ⟨fun u hu => ?_, fun h' hh => ?_⟩
  · rcases List.mem_append.mp hu with hu | hu
    · exact c.ok u hu
    · rw [List.mem_singleton.mp hu]
      exact ⟨w.ne, w.lt, w.st, Nat.le_trans w.len hk⟩
  · rw [loadOf_snoc]
    have := c.load h' hh
    by_cases e : holder v = some h'
    · have e2 := (holder_last e).symm.trans w.last
      rcases hl with hl | hl
      · unfold holder at e
        rw [if_neg (by omega)] at e
        cases e
      · rw [if_pos e, e2]
        omega
    · rw [if_neg e]
      exact this
theorem WayL.snoc {m h n b : Nat} {ln : List (Nat × Nat)} {v : List Nat} (w : WayL m ln h n v) (hb : b < m) (hl : (h, b) ∈ ln) : WayL m ln b (n + 1) (v ++ [b]) := by
  have hp := List.length_pos_iff.mpr w.ne
  refine ⟨by simp, fun x hx => ?_, fun i hi => ?_, by simp only [List.length_append, List.length_singleton]; have := w.len; omega, ?_⟩
  · rcases List.mem_append.mp hx with hx | hx
    · exact w.lt x hx
    · rw [List.mem_singleton.mp hx]; exact hb
  · have hi : i + 1 < v.length + 1 := by simpa using hi
    rw [List.getD_eq_getElem?_getD, List.getD_eq_getElem?_getD, List.getElem?_append_left (by omega)]
    by_cases z : i + 1 < v.length
    · rw [List.getElem?_append_left z, ← List.getD_eq_getElem?_getD, ← List.getD_eq_getElem?_getD]
      exact w.st i z
    · have e : i = v.length - 1 := by omega
      rw [List.getElem?_append_right (by omega), show i + 1 - v.length = 0 by omega, ← List.getD_eq_getElem?_getD, e, w.last]
      exact hl
  · simp [List.getD_eq_getElem?_getD]
theorem WayL.home {m h : Nat} {ln : List (Nat × Nat)} (hh : h < m) : WayL m ln h 1 [h] := ⟨by simp, by simpa using hh, fun i hi => absurd hi (by simp), by simp, rfl⟩
theorem loadOf_app (a b : List (List Nat)) (h : Nat) : loadOf (a ++ b) h = loadOf a h + loadOf b h := by
  unfold loadOf
  rw [List.filter_append, List.length_append]
theorem Crd.turn {m n : Nat} {pegs : List Nat} {ln : List (Nat × Nat)} {ws : List (List Nat)} (c : Crd m pegs ln n ws) (t : Nat) : Crd m pegs ln n (ws.drop t ++ ws.take t) := by
  refine ⟨fun v hv => ?_, fun h hh => ?_⟩
  · rcases List.mem_append.mp hv with hv | hv
    · exact c.ok v (List.mem_of_mem_drop hv)
    · exact c.ok v (List.mem_of_mem_take hv)
  · rw [loadOf_app, Nat.add_comm, ← loadOf_app, List.take_append_drop]
    exact c.load h hh
def Tw.sd (t : Tw) (ws : List (List Nat)) : Sd := ⟨t.pegs, t.lanes, ws⟩
theorem Crd.sound {t : Tw} {n : Nat} {ws : List (List Nat)} (ot : OkTw t) (c : Crd t.pegs.length t.pegs t.lanes n ws) (hl : ws.length ≤ 20) (hn : n ≤ 100) : Sound (t.sd ws) := by
  refine ⟨ot.st ws, hl, fun v hv => ?_, fun h hh => ?_⟩
  · obtain ⟨h1, h2, h3, h4⟩ := c.ok v hv
    exact ⟨h1, h2, h3, Nat.le_trans h4 hn⟩
  · rw [← loadOf_eq]
    exact c.load h hh
theorem sum_nn : ∀ l : List Nat, 0 ≤ (l.map fun n : Nat => (n : Int)).sum
  | [] => by simp
  | a :: l => by
    rw [List.map_cons, List.sum_cons]
    have := sum_nn l
    omega
def iM : Option Nat → Int
  | none => -1
  | some n => (n : Int)
abbrev eM (o : Option Nat) : T := .int (iM o)
section
variable {P : Program} {w : World} {K : PySem.W.Frag} {mg : Str → Option Value} {base : Heap}
variable {C CS : Addr} {k : Nat}
def SCrowd : List Sl → (T → Prop) → Prop := fun ss Po => ∃ (ns : List Int) (at_ : Nat) (cs sp : List Nat) (limit : Nat), ns.length ≤ 1000 ∧ at_ ≤ 100 ∧ 0 < cs.length ∧ cs.length < 1000 ∧ 0 < sp.length ∧ sp.length < 1000 ∧ (∀ c ∈ cs, 1 ≤ c ∧ c ≤ 12) ∧ 6 ≤ limit ∧ limit ≤ 60 ∧
  ss = [.ro (ns.map .int), .im (eN at_), .im (.lst (cs.map eN)), .im (.lst (sp.map eN)), .im (eN 20), .im (eN limit)] ∧ Po = fun t => ∃ s, Sound s ∧ Short limit s ∧ t = .lst [tLs s, tLw s.ways]
theorem ok_crowd (b : Bi mg) (To : DefOk P w K mg base "_law_town" 2 ["_law_script", "_law_at", "_law_counts", "_law_spurs"] STown) (Wt : DefOk P w K mg base "_law_way_to" 1 ["_law_town_here", "_law_house", "_law_length", "_law_few", "_law_row"] SWayTo)
    (Ce : DefOk P w K mg base "_law_cell" 1 ["_law_script", "_law_k"] SCell) (Di : DefOk P w K mg base "_law_digits" 1 ["_law_cell_here", "_law_sizes"] SDigits) (Ld : DefOk P w K mg base "_law_load" 1 ["_law_ways", "_law_house"] SLoad)
    (D : DefAt K mg "_law_crowd" (top 51) ["_law_script", "_law_at", "_law_counts", "_law_spurs", "_law_most", "_law_limit"]) : DefOk P w K mg base "_law_crowd" 3 ["_law_script", "_law_at", "_law_counts", "_law_spurs", "_law_most", "_law_limit"] SCrowd := by
  have nd : (["_law_script", "_law_at", "_law_counts", "_law_spurs", "_law_most", "_law_limit", "_law_town_here", "_law_pegs", "_law_plan", "_law_few", "_law_menu", "_law_lengths", "_law_count", "_law_room", "_law_ways", "_law_k", "_law_row", "_law_place", "_law_step", "_law_house", "_law_turn"] : List Str).Nodup := by decide +kernel
  refine D.ok (N := ["_law_script", "_law_at", "_law_counts", "_law_spurs", "_law_most", "_law_limit", "_law_town_here", "_law_pegs", "_law_plan", "_law_few", "_law_menu", "_law_lengths", "_law_count", "_law_room", "_law_ways", "_law_k", "_law_row", "_law_place", "_law_step", "_law_house", "_law_turn"]) ⟨rfl, rfl, rfl, nd, rfl, by decide +kernel, by decide +kernel⟩ (fun _ _ ⟨_, _, _, _, _, _, _, _, _, _, _, _, _, _, e, _⟩ => by rw [e]; rfl) ?_
  rintro f cdv A outer st H E hr _ _ ⟨ns, at_, cs, sp, limit, hns, hat, hc1, hc2, hs1, hs2, hcs, hl1, hl2, rfl, rfl⟩
  refine st_setP 6 nd (ep_call To hr (ea_consO (eo_ro 0 rfl) (ea_cons (ev_var 1 rfl) (ea_cons (ev_var 2 rfl) (ea_cons (ev_var 3 rfl) ea_nil)))) ⟨ns, at_, cs, sp, hns, hat, hc1, hc2, hs1, hs2, hcs, rfl, rfl⟩) ?_
  rintro _ ⟨tw, ot, rfl⟩
  obtain ⟨pegs, ln, pt, o, kind, plan⟩ := tw
  have m1 : 1 ≤ pegs.length := ot.m1
  have m2 : pegs.length ≤ 12 := ot.m2
  have hp9 : ∀ p ∈ pegs, 1 ≤ p ∧ p ≤ 9 := ot.pegs
  have hpt : Pt pegs.length pt := ot.pt
  have hln : ∀ p ∈ ln, p.1 < pegs.length ∧ p.2 < pegs.length := fun p hp => ⟨(ot.ln.pr p hp).2.1, (ot.ln.pr p hp).2.2.1⟩
  have hll : ln.length ≤ 1000 := Nat.le_trans (ot.st []).len (by decide)
  obtain ⟨da, dc, dg⟩ := ot.plan
  have pln : plan.length = 25 := dg.len
  have p5 : plan.getD 5 0 < 4 := dg.lt 5 (by simp [szT])
  have p6 : plan.getD 6 0 < 8 := dg.lt 6 (by simp [szT])
  have p8 : plan.getD 8 0 < 8 := dg.lt 8 (by simp [szT])
  refine st_set 7 nd (ev_at' (j := 0) (t := .lst (pegs.map eN)) (EV.q (ev_var 6 rfl) rfl) ev_int rfl) ?_
  refine st_set 8 nd (ev_at' (j := 4) (t := .lst (plan.map eN)) (EV.q (ev_var 6 rfl) rfl) ev_int rfl) ?_
  obtain ⟨few, hfew⟩ : ∃ few : Nat, ((([20, 20, 19, 10] : List Nat).getD (plan.getD 5 0) 0 : Nat) : Int) * (if decide (plan.getD 3 0 < 7) = true then 1 else 0) = (few : Int) := by
    split
    · exact ⟨_, Int.mul_one _⟩
    · exact ⟨0, Int.mul_zero _⟩
  refine st_set 9 nd (EV.to (ev_mul (ev_menu (xs := [20, 20, 19, 10]) (ea_cons ev_int (ea_cons ev_int (ea_cons ev_int (ea_cons ev_int ea_nil)))) (ev_at (f := eN) (d := 0) (j := 5) (EV.q (ev_var 8 rfl) rfl) ev_nat (by omega)) p5) (ev_intB (ev_ltN (m := 7) (ev_at (f := eN) (d := 0) (j := 3) (EV.q (ev_var 8 rfl) rfl) ev_nat (by omega)) ev_nat) b.int) (.inr (by split <;> decide))) (t' := eN few) (congrArg T.int hfew)) ?_
  refine st_set 10 nd (EL.v (el_lst (ts := [.lst (([3, 3, 4, 3, 5, 3, 4, 6] : List Nat).map eN), .lst (([3, 3, 4, 3, 5, 3, 2, 4] : List Nat).map eN), .lst (([3, 2, 4, 3, 5, 1, 3, 3] : List Nat).map eN), .lst (([3, limit, 3, 4, 3, 3, 4, 3] : List Nat).map eN)]) (ea_cons (EL.v (el_lst (ea_cons ev_int (ea_cons ev_int (ea_cons ev_int (ea_cons ev_int (ea_cons ev_int (ea_cons ev_int (ea_cons ev_int (ea_cons ev_int ea_nil)))))))) (by decide))) (ea_cons (EL.v (el_lst (ea_cons ev_int (ea_cons ev_int (ea_cons ev_int (ea_cons ev_int (ea_cons ev_int (ea_cons ev_int (ea_cons ev_int (ea_cons ev_int ea_nil)))))))) (by decide))) (ea_cons (EL.v (el_lst (ea_cons ev_int (ea_cons ev_int (ea_cons ev_int (ea_cons ev_int (ea_cons ev_int (ea_cons ev_int (ea_cons ev_int (ea_cons ev_int ea_nil)))))))) (by decide))) (ea_cons (EL.v (el_lst (ea_cons ev_int (ea_cons (ev_var 5 rfl) (ea_cons ev_int (ea_cons ev_int (ea_cons ev_int (ea_cons ev_int (ea_cons ev_int (ea_cons ev_int ea_nil)))))))) (by simp))) ea_nil)))) (by simp))) ?_
  refine st_set 11 nd (ev_at (f := fun l : List Nat => .lst (l.map eN)) (d := []) (xs := [[3, 3, 4, 3, 5, 3, 4, 6], [3, 3, 4, 3, 5, 3, 2, 4], [3, 2, 4, 3, 5, 1, 3, 3], [3, limit, 3, 4, 3, 3, 4, 3]]) (EV.q (ev_var 10 rfl) rfl) (ev_menu (xs := [0, 0, 0, 1, 0, 3, 2, 0]) (ea_cons ev_int (ea_cons ev_int (ea_cons ev_int (ea_cons ev_int (ea_cons ev_int (ea_cons ev_int (ea_cons ev_int (ea_cons ev_int ea_nil)))))))) (ev_at (f := eN) (d := 0) (j := 8) (EV.q (ev_var 8 rfl) rfl) ev_nat (by omega)) p8) ((by decide : ∀ j < 8, ([0, 0, 0, 1, 0, 3, 2, 0] : List Nat).getD j 0 < 4) _ p8)) ?_
  obtain ⟨mu1, mu2⟩ : (([[3, 3, 4, 3, 5, 3, 4, 6], [3, 3, 4, 3, 5, 3, 2, 4], [3, 2, 4, 3, 5, 1, 3, 3], [3, limit, 3, 4, 3, 3, 4, 3]] : List (List Nat)).getD (([0, 0, 0, 1, 0, 3, 2, 0] : List Nat).getD (plan.getD 8 0) 0) []).length = 8 ∧ ∀ x ∈ ([[3, 3, 4, 3, 5, 3, 4, 6], [3, 3, 4, 3, 5, 3, 2, 4], [3, 2, 4, 3, 5, 1, 3, 3], [3, limit, 3, 4, 3, 3, 4, 3]] : List (List Nat)).getD (([0, 0, 0, 1, 0, 3, 2, 0] : List Nat).getD (plan.getD 8 0) 0) [], 1 ≤ x ∧ x ≤ limit := by
    have q4 := (by decide : ∀ j < 8, ([0, 0, 0, 1, 0, 3, 2, 0] : List Nat).getD j 0 < 4) _ p8
    generalize ([0, 0, 0, 1, 0, 3, 2, 0] : List Nat).getD (plan.getD 8 0) 0 = q at q4
    have : q = 0 ∨ q = 1 ∨ q = 2 ∨ q = 3 := by omega
    rcases this with rfl | rfl | rfl | rfl
    all_goals (refine ⟨rfl, fun x hx => ?_⟩; simp at hx; omega)
  generalize hmu : ([[3, 3, 4, 3, 5, 3, 4, 6], [3, 3, 4, 3, 5, 3, 2, 4], [3, 2, 4, 3, 5, 1, 3, 3], [3, limit, 3, 4, 3, 3, 4, 3]] : List (List Nat)).getD (([0, 0, 0, 1, 0, 3, 2, 0] : List Nat).getD (plan.getD 8 0) 0) [] = mu at mu1 mu2 ⊢
  have hS := sum_nn pegs
  refine st_set 12 nd (ev_min2 (ev_var 4 rfl) (ev_add (ev_sum (ns := pegs.map fun n : Nat => (n : Int)) (EO.to (EV.o (ev_var 7 rfl)) (by rw [List.map_map]; rfl)) rfl b.sum) (ev_at (f := .int) (d := 0) (xs := [0, 0, 0, 1, 0, 2, -1, (plan.getD 7 0 : Int) - (pegs.map fun n : Nat => (n : Int)).sum]) (EL.q (el_lst (ts := [_, _, _, _, _, _, _, _]) (ea_cons ev_int (ea_cons ev_int (ea_cons ev_int (ea_cons ev_int (ea_cons ev_int (ea_cons ev_int (ea_cons (ev_neg ev_int) (ea_cons (ev_sub (ev_at (f := eN) (d := 0) (j := 7) (EV.q (ev_var 8 rfl) rfl) ev_nat (by omega)) (ev_sum (ns := pegs.map fun n : Nat => (n : Int)) (EO.to (EV.o (ev_var 7 rfl)) (by rw [List.map_map]; rfl)) rfl b.sum)) ea_nil)))))))) (by simp))) (ev_at (f := eN) (d := 0) (j := 6) (EV.q (ev_var 8 rfl) rfl) ev_nat (by omega)) p6)) rfl b.min) ?_
  generalize (pegs.map fun n : Nat => (n : Int)).sum = S at hS ⊢
  have hx : -1 ≤ S + ([0, 0, 0, 1, 0, 2, -1, (plan.getD 7 0 : Int) - S] : List Int).getD (plan.getD 6 0) 0 := by
    generalize plan.getD 6 0 = q at p6
    have : q = 0 ∨ q = 1 ∨ q = 2 ∨ q = 3 ∨ q = 4 ∨ q = 5 ∨ q = 6 ∨ q = 7 := by omega
    rcases this with rfl | rfl | rfl | rfl | rfl | rfl | rfl | rfl
    all_goals (simp [List.getD_eq_getElem?_getD]; omega)
  obtain ⟨c0, hc0, c01, c02⟩ : ∃ c0 : Int, (if S + ([0, 0, 0, 1, 0, 2, -1, (plan.getD 7 0 : Int) - S] : List Int).getD (plan.getD 6 0) 0 < ((20 : Nat) : Int) then S + ([0, 0, 0, 1, 0, 2, -1, (plan.getD 7 0 : Int) - S] : List Int).getD (plan.getD 6 0) 0 else ((20 : Nat) : Int)) = c0 ∧ -1 ≤ c0 ∧ c0 ≤ 20 := ⟨_, rfl, by split <;> omega, by split <;> omega⟩
  rw [hc0]
  refine st_setL 13 nd (el_list (EV.q (ev_var 7 rfl) rfl) b.list) ?_
  refine st_setL 14 nd (el_lst (ts := []) ea_nil (by simp)) ?_
  let TT : T := tTown ⟨pegs, ln, pt, o, kind, plan⟩
  let R : Int → List Nat → List (List Nat) → Option Sl → Option Sl → Option Sl → Option Sl → Option Sl → Rho := fun c rm ws a1 a2 a3 a4 a5 => [some (.ro (ns.map .int)), some (.im (eN at_)), some (.im (.lst (cs.map eN))), some (.im (.lst (sp.map eN))), some (.im (eN 20)), some (.im (eN limit)), some (.im TT), some (.im (.lst (pegs.map eN))), some (.im (.lst (plan.map eN))), some (.im (eN few)),
    some (.im (.lst [.lst (([3, 3, 4, 3, 5, 3, 4, 6] : List Nat).map eN), .lst (([3, 3, 4, 3, 5, 3, 2, 4] : List Nat).map eN), .lst (([3, 2, 4, 3, 5, 1, 3, 3] : List Nat).map eN), .lst (([3, limit, 3, 4, 3, 3, 4, 3] : List Nat).map eN)])), some (.im (.lst (mu.map eN))), some (.im (.int c)), some (.ow (rm.map eN)), some (.ow (ws.map eNs)), a1, a2, a3, a4, a5, none]
  refine st_ifC (k := o.isSome) (fun r => ∃ c rm ws, -2 ≤ c ∧ c ≤ 20 ∧ rm.length = pegs.length ∧ (∀ h < pegs.length, rm.getD h 0 ≤ pegs.getD h 0) ∧ Crd pegs.length pegs ln limit ws ∧ ws.length ≤ 1 ∧ r = R c rm ws none none none none none) ?tst ?yes ?no ?on
  case tst =>
    cases o with
    | none => exact ET.to (et_ge (ev_at' (j := 0) (t := .int (-1)) (EV.q (ev_at' (j := 3) (t := .tup [.int (-1), .int (-1), eN kind]) (EV.q (ev_var 6 rfl) rfl) ev_int rfl) rfl) ev_int rfl) ev_int) (decide_eq_false (by decide))
    | some q => exact ET.to (et_ge (ev_at' (j := 0) (t := eN q.1) (EV.q (ev_at' (j := 3) (t := .tup [eN q.1, eN q.2, eN kind]) (EV.q (ev_var 6 rfl) rfl) ev_int rfl) rfl) ev_int rfl) ev_int) (decide_eq_true (by omega))
  case no =>
    intro _
    exact st_nil ⟨c0, pegs, [], by omega, c02, rfl, fun h _ => Nat.le_refl _, .nil, by simp, rfl⟩
  case yes =>
    intro hq
    cases o with
    | none => cases hq
    | some q =>
      obtain ⟨q1, q2, q3⟩ := ot.o q rfl
      have q2 : q.1 < pegs.length := q2
      have q3 : q.2 < pegs.length := q3
      have hlane : q ∈ ln := ot.ln.sp q rfl (.inl q2)
      have hq1 := (hp9 _ (getD_mem (d := 0) q2)).1
      refine st_set 12 nd (ev_sub (ev_var 12 rfl) ev_int) ?_
      refine st_cons (fun r' => r' = R (c0 - 1) (pegs.set q.1 (pegs.getD q.1 0 - 1)) [] none none none none none) (s1_setix (q2 := ⟨0, 0, 0, 0⟩) (P := (· = eN (pegs.getD q.1 0 - 1))) 13 rfl (EV.p (ev_subN (m := 1) (ev_at (f := eN) (d := 0) (eo_ow 13 rfl).q (ev_at' (j := 0) (t := eN q.1) (EV.q (ev_at' (j := 3) (t := .tup [eN q.1, eN q.2, eN kind]) (EV.q (ev_var 6 rfl) rfl) ev_int rfl) rfl) ev_int rfl) q2) ev_nat hq1) rfl)
        (ev_at' (j := 0) (t := eN q.1) (EV.q (ev_at' (j := 3) (t := .tup [eN q.1, eN q.2, eN kind]) (EV.q (ev_var 6 rfl) rfl) ev_int rfl) rfl) ev_int rfl) (ix_ok (by rw [List.length_map]; exact q2)) (fun t e => ?_)) ?_
      · subst e
        show [_, _, _, _, _, _, _, _, _, _, _, _, _, some (Sl.ow ((pegs.map eN).set q.1 (eN (pegs.getD q.1 0 - 1)))), _, _, _, _, _, _, _] = _
        rw [← List.map_set]
        rfl
      rintro r1 rfl
      have hrm : ∀ h < pegs.length, (pegs.set q.1 (pegs.getD q.1 0 - 1)).getD h 0 ≤ pegs.getD h 0 := fun h hh => by
        rw [List.getD_eq_getElem?_getD, List.getElem?_set]
        by_cases e : q.1 = h
        · subst e
          rw [if_pos rfl, if_pos hh]
          exact Nat.sub_le _ _
        · rw [if_neg e, ← List.getD_eq_getElem?_getD]
          exact Nat.le_refl _
      refine st_ifC (fun r => ∃ c rm ws, -2 ≤ c ∧ c ≤ 20 ∧ rm.length = pegs.length ∧ (∀ h < pegs.length, rm.getD h 0 ≤ pegs.getD h 0) ∧ Crd pegs.length pegs ln limit ws ∧ ws.length ≤ 1 ∧ r = R c rm ws none none none none none) (et_neN (m := 2) (ev_at' (j := 2) (t := eN kind) (EV.q (ev_at' (j := 3) (t := .tup [eN q.1, eN q.2, eN kind]) (EV.q (ev_var 6 rfl) rfl) ev_int rfl) rfl) ev_int rfl) ev_nat) (fun _ => ?_) (fun _ => st_nil ⟨c0 - 1, pegs.set q.1 (pegs.getD q.1 0 - 1), [], by omega, by omega, by simp, hrm, .nil, by simp, rfl⟩) (fun r' h => st_nil h)
      refine st_appP 14 rfl (ep_catT (us := [eN q.2]) (Q := fun ts => ∃ v, WayL pegs.length ln q.1 3 v ∧ ts = v.map eN) (EP.imp (ep_call Wt (hr.mono (by decide)) (ea_cons (ev_var 6 rfl) (ea_cons (ev_at' (j := 0) (t := eN q.1) (EV.q (ev_at' (j := 3) (t := .tup [eN q.1, eN q.2, eN kind]) (EV.q (ev_var 6 rfl) rfl) ev_int rfl) rfl) ev_int rfl) (ea_cons (ev_nat (n := 3)) (ea_cons (ev_nat (n := 20)) (ea_cons (EL.v (EL.to (el_lst (ts := [eN 0, eN 0]) (ea_cons ev_int (ea_cons ev_int ea_nil)) (by simp)) (us := ([0, 0] : List Nat).map eN) rfl)) ea_nil))))) ⟨pegs.length, q.1, 3, 20, ln, pt, [0, 0], _, _, _, hpt, hln, hll, q2, by decide, by decide, by simp, rfl, rfl⟩) fun t ⟨v, wl, e⟩ => ⟨v.map eN, ⟨v, wl, rfl⟩, e⟩)
        (ev_tup (ts := [eN q.2]) (ea_cons (ev_at' (j := 1) (t := eN q.2) (EV.q (ev_at' (j := 3) (t := .tup [eN q.1, eN q.2, eN kind]) (EV.q (ev_var 6 rfl) rfl) ev_int rfl) rfl) ev_int rfl) ea_nil) (by simp)) ?_) (by simp) ?_
      · rintro ts ⟨v, wl, rfl⟩
        have := wl.len
        refine ⟨fun e => wl.ne (List.map_eq_nil_iff.mp e), by rw [List.length_map, List.length_singleton]; omega⟩
      · rintro _ ⟨_, ⟨v, wl, rfl⟩, rfl⟩
        refine st_nil ⟨c0 - 1, pegs.set q.1 (pegs.getD q.1 0 - 1), [v ++ [q.2]], by omega, by omega, by simp, hrm, ?_, by simp, ?_⟩
        · exact Crd.nil.snoc (wl.snoc q3 hlane) (by omega) (.inr (by show 0 < _; exact (hp9 _ (getD_mem (d := 0) q3)).1))
        · show [_, _, _, _, _, _, _, _, _, _, _, _, _, _, some (Sl.ow ([] ++ [T.tup (v.map eN ++ [eN q.2])])), _, _, _, _, _, _] = _
          rw [show v.map eN ++ [eN q.2] = (v ++ [q.2]).map eN by simp]
          rfl
  case on =>
    rintro r1 ⟨c, rm, ws, c1, c2, hrl, hrm, cr, hw1, rfl⟩
    refine st_for (fun k r => ∃ us a1 a2 a3 a4 a5, Crd pegs.length pegs ln limit us ∧ us.length = ws.length + k ∧ r = R c rm us a1 a2 a3 a4 a5) (EI.to (ei_range (ev_sub (ev_var 12 rfl) (ev_lenM (eo_ow 14 rfl).q b.len)) (by omega) (by omega) b.range) (rgT_nat _)) (gt_name 15 nd) ⟨ws, none, none, none, none, none, cr, rfl, rfl⟩ ?_ ?_
    · rintro k t' r2 ht' ⟨us, a1, a2, a3, a4, a5, cr, hul, rfl⟩
      obtain ⟨j, hj, rfl, _⟩ := forM ht'
      obtain ⟨rfl, hk⟩ := rangeM hj
      have hu20 : us.length < 20 := by omega
      refine ⟨_, rfl, ?_⟩
      refine st_setP 16 nd (ep_callP Di (hr.mono (by decide)) (eap_cons (ep_call Ce (hr.mono (by decide)) (ea_consO (eo_ro 0 rfl) (ea_cons (ev_addN (ev_addN (ev_addN (m := 1) (ev_var 1 rfl) ev_nat) (ev_lenM (EV.q (ev_var 7 rfl) rfl) b.len)) (ev_var 15 rfl)) ea_nil)) ⟨ns, _, by omega, hns, rfl, rfl⟩) (ea_cons (EL.v (EL.to (el_cat (EL.k (el_lst (ts := [eN 12, eN 8]) (ea_cons ev_int (ea_cons ev_int ea_nil)) (by simp))) (EL.k (el_rep (t := eN 60) (EL.k (el_lst (ts := [eN 60]) (ea_cons ev_int ea_nil) (by simp))) ev_int (by decide) (by decide))) (by decide)) (us := (12 :: 8 :: List.replicate 6 60 : List Nat).map eN) rfl)) ea_nil)) (P := fun t => ∃ ds, Dg (12 :: 8 :: List.replicate 6 60) ds ∧ t = .lst (ds.map eN)) ?_) ?_
      · rintro _ ⟨t, ⟨i, rfl⟩, rfl⟩
        refine ⟨i, 12 :: 8 :: List.replicate 6 60, fun s hs => ?_, by simp, rfl, rfl⟩
        simp only [List.mem_cons, List.mem_replicate] at hs
        omega
      rintro _ ⟨row, dr, rfl⟩
      have hrow : row.length = 8 := dr.len
      have hr1 : row.getD 1 0 < 8 := dr.lt 1 (by simp)
      refine st_set 17 nd (ev_neg (ev_int (i := 1))) ?_
      refine st_for (fun i0 r => ∃ (pl : Option Nat) (a4 a5 : Option Sl), (∀ h, pl = some h → h < pegs.length ∧ loadOf us h < rm.getD h 0) ∧ r = R c rm us (some (.im (eN j))) (some (.im (.lst (row.map eN)))) (some (.im (eM pl))) a4 a5) (ei_rangeN (ev_lenM (EV.q (ev_var 7 rfl) rfl) b.len) (by omega) b.range) (gt_name 18 nd) ⟨none, a4, a5, (fun h e => by cases e), rfl⟩ ?_ ?_
      · rintro i t3 r3 ht3 ⟨pl, a4, a5, hpl, rfl⟩
        obtain ⟨z, hz, rfl, _⟩ := forM ht3
        obtain ⟨rfl, hi⟩ := rangeM hz
        have hh : (row.getD 0 0 + z) % pegs.length < pegs.length := Nat.mod_lt _ m1
        refine ⟨_, rfl, ?_⟩
        refine st_set 19 nd (ev_modN (ev_int1 (ev_addN (ev_at (f := eN) (d := 0) (j := 0) (EV.q (ev_var 16 rfl) rfl) ev_nat (by omega)) (ev_var 18 rfl)) b.int) (ev_lenM (EV.q (ev_var 7 rfl) rfl) b.len) m1) ?_
        refine st_ifC _ (EW.et (ew_and (k1 := pl.isNone) (k2 := decide (loadOf us ((row.getD 0 0 + z) % pegs.length) < rm.getD ((row.getD 0 0 + z) % pegs.length) 0)) (ET.to (et_lt (ev_var 17 rfl) ev_int) ?cn) fun _ => ew_and1 (et_ltN (ev_call Ld (hr.mono (by decide)) (ea_consO (eo_ow 14 rfl) (ea_cons (ev_var 19 rfl) ea_nil)) ⟨us, _, by omega, rfl, rfl⟩) (ev_at (f := eN) (d := 0) (eo_ow 13 rfl).q (ev_var 19 rfl) (by rw [hrl]; exact hh))))) (fun y => ?_) (fun _ => st_nil ⟨pl, some (.im (eN z)), some (.im (eN ((row.getD 0 0 + z) % pegs.length))), hpl, rfl⟩) (fun r' h => st_nil h)
        case cn =>
          cases pl with
          | none => rfl
          | some h => exact decide_eq_false (by show ¬ ((h : Int) < 0); omega)
        · have := of_decide_eq_true (Bool.and_eq_true_iff.mp y).2
          exact st_set 17 nd (ev_var 19 rfl) (st_nil ⟨some ((row.getD 0 0 + z) % pegs.length), some (.im (eN z)), some (.im (eN ((row.getD 0 0 + z) % pegs.length))), fun h e => by cases e; exact ⟨hh, this⟩, rfl⟩)
      rintro r3 ⟨pl, a4, a5, hpl, rfl⟩
      refine st_ifC (k := pl.isNone) (fun r => ∃ vs b1 b2 b3 b4 b5, Crd pegs.length pegs ln limit vs ∧ vs.length = us.length + 1 ∧ r = R c rm vs b1 b2 b3 b4 b5) ?tst2 (fun y => ?_) (fun y => ?_) (fun r' ⟨vs, b1, b2, b3, b4, b5, v1, v2, v3⟩ => st_nil ⟨vs, b1, b2, b3, b4, b5, v1, by omega, v3⟩)
      case tst2 =>
        refine ET.to (et_lt (ev_var 17 rfl) ev_int) ?_
        cases pl with
        | none => rfl
        | some h => exact decide_eq_false (by show ¬ ((h : Int) < 0); omega)
      · have hh : row.getD 0 0 % pegs.length < pegs.length := Nat.mod_lt _ m1
        refine st_app 14 rfl (EV.to (ev_tup (ts := [eN (row.getD 0 0 % pegs.length)]) (ea_cons (ev_modN (ev_int1 (ev_at (f := eN) (d := 0) (j := 0) (EV.q (ev_var 16 rfl) rfl) ev_nat (by omega)) b.int) (ev_lenM (EV.q (ev_var 7 rfl) rfl) b.len) m1) ea_nil) (by simp)) (t' := eNs [row.getD 0 0 % pegs.length]) rfl) (by rw [List.length_map]; omega) (st_nil ⟨us ++ [[row.getD 0 0 % pegs.length]], _, _, _, _, _, cr.snoc (WayL.home hh) (by omega) (.inl rfl), by simp, by rw [show us.map eNs ++ [eNs [row.getD 0 0 % pegs.length]] = (us ++ [[row.getD 0 0 % pegs.length]]).map eNs by simp]; rfl⟩)
      · cases pl with
        | none => cases y
        | some h =>
          obtain ⟨hh, hlo⟩ := hpl h rfl
          obtain ⟨n1, n2⟩ := mu2 _ (getD_mem (d := 0) (show row.getD 1 0 < mu.length by omega))
          refine st_appP 14 rfl (ep_call Wt (hr.mono (by decide)) (ea_cons (ev_var 6 rfl) (ea_cons (EV.to (ev_var 17 rfl) (t' := eN h) rfl) (ea_cons (ev_at (f := eN) (d := 0) (EV.q (ev_var 11 rfl) rfl) (ev_at (f := eN) (d := 0) (j := 1) (EV.q (ev_var 16 rfl) rfl) ev_nat (by omega)) (by omega)) (ea_cons (ev_var 9 rfl) (ea_cons (EL.v (EL.to (el_slice (EV.o (ev_var 16 rfl)) (ept_some ev_int) ept_none) (us := (row.drop 2).map eN) ((cut_from (k := 2)).trans List.map_drop.symm))) ea_nil))))) ⟨pegs.length, h, _, few, ln, pt, row.drop 2, _, _, _, hpt, hln, hll, hh, n1, by omega, by rw [List.length_drop]; omega, rfl, rfl⟩) (by rw [List.length_map]; omega) ?_
          rintro _ ⟨v, wl, rfl⟩
          exact st_nil ⟨us ++ [v], _, _, _, _, _, cr.snoc wl n2 (.inr (Nat.lt_of_lt_of_le hlo (hrm h hh))), by simp, by rw [show us.map eNs ++ [eNs v] = (us ++ [v]).map eNs by simp]; rfl⟩
    · rintro r2 ⟨us, a1, a2, a3, a4, a5, cr, hul, rfl⟩
      rw [List.length_map, List.length_range] at hul
      have hu20 : us.length ≤ 20 := by omega
      obtain ⟨M, hM, hM1⟩ : ∃ M : Nat, (if ((us.length : Nat) : Int) > 1 then ((us.length : Nat) : Int) else 1) = (M : Int) ∧ 0 < M := by
        split
        · exact ⟨us.length, rfl, by omega⟩
        · exact ⟨1, rfl, by decide⟩
      refine st_set 20 nd (EV.to (ev_modN (n := plan.getD 12 0) (m := M) (ev_int1 (ev_at (f := eN) (d := 0) (j := 12) (EV.q (ev_var 8 rfl) rfl) ev_nat (by omega)) b.int) (EV.to (ev_max2 ev_int (ev_lenM (eo_ow 14 rfl).q b.len) rfl b.max) (congrArg T.int hM)) hM1) rfl) ?_
      generalize plan.getD 12 0 % M = d
      have hs : Short limit (Tw.sd ⟨pegs, ln, pt, o, kind, plan⟩ (us.drop d ++ us.take d)) := fun v hv => ((cr.turn d).ok v hv).2.2.2
      exact st_ret (EL.v (el_lst (ts := [.lst [.lst (pegs.map eN), .lst (ln.map eP)], .lst ((us.drop d ++ us.take d).map eNs)]) (ea_cons (EL.v (el_lst (ts := [.lst (pegs.map eN), .lst (ln.map eP)]) (ea_cons (ev_var 7 rfl) (ea_cons (ev_at' (j := 1) (t := .lst (ln.map eP)) (EV.q (ev_var 6 rfl) rfl) ev_int rfl) ea_nil)) (by simp))) (ea_cons (EL.v (EL.to (el_cat (EL.k (el_slice (eo_ow 14 rfl) (ept_some (ev_var 20 rfl)) ept_none)) (EL.k (el_slice (eo_ow 14 rfl) ept_none (ept_some (ev_var 20 rfl)))) (by rw [cut_from, cut_to, List.length_drop, List.length_take, List.length_map]; omega)) (us := (us.drop d ++ us.take d).map eNs) (by rw [cut_from, cut_to, List.map_append, List.map_drop, List.map_take]))) ea_nil)) (by simp))) ⟨_, Crd.sound ot (cr.turn d) (by rw [List.length_append, List.length_drop, List.length_take]; omega) (by omega), hs, rfl⟩
end
end TL

/-! the law's defs, part k: making standings, the law -/
namespace TL
open PySem L2 PySem.Spec PyProof.Rows
/-! ### lists times a number -/
theorem Reps.repL {K : PySem.W.Frag} {M : Hp} {ts : List T} {vs : List V} (h : Reps K M ts vs) : ∀ n, Reps K M (List.replicate n ts).flatten (List.replicate n vs).flatten
  | 0 => rfl
  | n + 1 => by
    rw [List.replicate_succ, List.replicate_succ, List.flatten_cons, List.flatten_cons]
    exact Reps.append h (Reps.repL h n)
theorem el_repL {X : Cx} {r : Rho} {a b : Expr} {ts : List T} {i : Int} {pos : Pos} (ha : EK X r a ts) (hb : EV X r b (.int i)) (h1 : -10000 ≤ i) (h2 : i ≤ 10000) (hl : ts.length * i.toNat ≤ 10000) : EL X r (.BinOp a .Mult b pos) (List.replicate i.toNat ts).flatten := fun M0 H0 =>
  pe_weak (pe_op op_rep (ha M0 H0) (hb M0 H0)) fun σ H Q ⟨M, w, k⟩ => ⟨M, w, fun q vs M1 H1 e1 z1 r1 => ⟨M1, w.up e1, fun v M2 H2 e2 r2 => by
    refine ⟨q, i, vs, rfl, r2, e2.h _ _ z1, by omega, by omega, ?_, fun n hn => k n _ M2 _ ((e1.trans e2).trans (Ext.own e2.s hn)) (Same.free (e1.trans e2).h hn) (e2.s.free hn) upd_same (Reps.repL (Reps.mono e2.m r1) _)⟩
    rw [← r1.len]
    exact Nat.le_trans hl (by decide)⟩⟩
theorem rev_get (xs : List (List Nat)) : (List.range xs.length).map (fun k => eNs (xs.getD (xs.length - 1 - k) [])) = xs.reverse.map eNs := by
  refine List.ext_getElem? fun i => ?_
  by_cases h : i < xs.length
  · rw [List.getElem?_map, List.getElem?_range h, List.getElem?_map, List.getElem?_reverse h]
    show some (eNs (xs.getD (xs.length - 1 - i) [])) = _
    rw [List.getD_eq_getElem?_getD, List.getElem?_eq_getElem (show xs.length - 1 - i < xs.length by omega)]
    rfl
  · rw [List.getElem?_eq_none (by simpa using h), List.getElem?_eq_none (by simpa using h)]
theorem three_get {l : List Nat} {i : Nat} (h : i + 3 ≤ l.length) : (l.drop i).take 3 = [l.getD i 0, l.getD (i + 1) 0, l.getD (i + 2) 0] := by
  rw [List.drop_eq_getElem_cons (show i < l.length by omega), List.drop_eq_getElem_cons (show i + 1 < l.length by omega), List.drop_eq_getElem_cons (show i + 1 + 1 < l.length by omega)]
  rw [List.getD_eq_getElem?_getD, List.getD_eq_getElem?_getD, List.getD_eq_getElem?_getD, List.getElem?_eq_getElem (show i < l.length by omega), List.getElem?_eq_getElem (show i + 1 < l.length by omega), List.getElem?_eq_getElem (show i + 2 < l.length by omega)]
  rfl
/-! ### the greatest lot is there, the closures are there -/
theorem gl_ex (s : Sd) : ∃ G, GL s G := by
  have : ∀ (n : Nat) (l : List Nat), Up s.nH s.full s.hungAt s.want l → l.length ≤ n → ∃ G, GL s G := by
    intro n
    induction n with
    | zero =>
      intro l u h
      exact ⟨l, u.gl (by omega)⟩
    | succ n ih =>
      intro l u h
      rcases Nat.lt_or_ge (keepL s.hungAt s.want l).length l.length with c | c
      · exact ih _ u.keep (by omega)
      · exact ⟨l, u.gl c⟩
  exact this _ _ Up.start (Nat.le_refl _)
theorem pw_ext {a b : List Nat} (ha : a.Pairwise (· < ·)) (hb : b.Pairwise (· < ·)) (h : ∀ x, x ∈ a ↔ x ∈ b) : a = b :=
  List.Perm.eq_of_pairwise (le := fun x y => x < y) (fun _ _ _ _ z1 z2 => absurd z1 (Nat.lt_asymm z2)) ha hb ((List.perm_ext_iff_of_nodup (ha.imp fun h => Nat.ne_of_lt h) (hb.imp fun h => Nat.ne_of_lt h)).mpr h)
theorem gl_one {s : Sd} {a b : List Nat} (ha : GL s a) (hb : GL s b) : a = b :=
  pw_ext (List.pairwise_lt_range.sublist ha.sub) (List.pairwise_lt_range.sublist hb.sub) fun x => ⟨fun h => hb.top _ ha.lot x h, fun h => ha.top _ hb.lot x h⟩
open Classical in
noncomputable def clos (s : Sd) (h : Nat) : List Nat := (List.range s.nH).filter fun k => decide (∀ L : List Nat, h ∈ L → Shut s L → k ∈ L)
open Classical in
theorem clos_one {s : Sd} {h : Nat} {l : List Nat} (h1 : l.Pairwise (· < ·)) (h2 : ∀ x ∈ l, x < s.nH) (h3 : h ∈ l) (h4 : Shut s l) (h5 : ∀ L, h ∈ L → Shut s L → ∀ x ∈ l, x ∈ L) : l = clos s h := by
  refine pw_ext h1 (List.pairwise_lt_range.sublist List.filter_sublist) fun x => ⟨fun hx => List.mem_filter.mpr ⟨List.mem_range.mpr (h2 x hx), decide_eq_true fun L a b => h5 L a b x hx⟩, fun hx => ?_⟩
  exact of_decide_eq_true (List.mem_filter.mp hx).2 l h3 h4
/-- a lot that can be asked of -/
structure LotOk (s : Sd) (l : List Nat) : Prop where
  pw : l.Pairwise (· < ·)
  lt : ∀ x ∈ l, x < s.nH
  st : s.stuck l = true
open Classical in
theorem clos_ok {s : Sd} (o : Okay s) {G : List Nat} (g : GL s G) {h : Nat} (hG : h ∈ G) : LotOk s (clos s h) := by
  have hin : ∀ {k : Nat}, k ∈ clos s h ↔ k < s.nH ∧ ∀ L : List Nat, h ∈ L → Shut s L → k ∈ L := fun {k} => by
    unfold clos
    rw [List.mem_filter, List.mem_range, decide_eq_true_iff]
  have hh : h ∈ clos s h := hin.mpr ⟨(g.lot h hG).1, fun L a _ => a⟩
  have gs : Shut s G := fun a ha x hx k e => by
    have := (g.lot a ha).2.2 x hx
    rw [e] at this
    exact of_decide_eq_true this
  have hs : Shut s (clos s h) := fun a ha x hx k e => hin.mpr ⟨o.want (hungAt_lt hx) e, fun L b c => c a ((hin.mp ha).2 L b c) x hx k e⟩
  exact ⟨List.pairwise_lt_range.sublist List.filter_sublist, fun x hx => (hin.mp hx).1, stuck_of g (fun x hx => (hin.mp hx).2 G hG gs) (fun e => by rw [e] at hh; cases hh) hs⟩
theorem fz_pair {d : Nat} {p : Nat × Nat} : FzR (d + 1) (eP p) (eP p) := .inr ⟨[(eN p.1, eN p.1), (eN p.2, eN p.2)], .inl rfl, rfl, by simp, by simp; exact ⟨FzR.nat, FzR.nat⟩⟩
def Sd.w (s : Sd) (ws : List (List Nat)) : Sd := ⟨s.pegs, s.lanes, ws⟩
theorem after_w {s : Sd} {ws : List (List Nat)} (d : Deed) : (s.w ws).after d = s.w ((s.w ws).after d).ways := by cases d <;> rfl
theorem sound_rev {s : Sd} (o : Sound s) : Sound (s.w s.ways.reverse) := by
  refine ⟨⟨o.st.nh, o.st.pegs, o.st.lt, o.st.asc, o.st.len⟩, by show s.ways.reverse.length ≤ 20; rw [List.length_reverse]; exact o.nt, fun v hv => ?_, fun h hh => ?_⟩
  · have := o.ways v (List.mem_reverse.mp hv)
    exact ⟨this.ne, this.lt, this.st, this.len⟩
  · rw [← loadOf_eq]
    show loadOf s.ways.reverse h ≤ s.peg h
    unfold loadOf
    rw [List.filter_reverse, List.length_reverse]
    have := o.load h hh
    rw [← loadOf_eq] at this
    exact this
theorem fz_ways {ws : List (List Nat)} (h : ∀ v ∈ ws, v.length ≤ 10000) (hl : ws.length ≤ 10000) : FzR 2 (.lst (ws.map fun v => .lst (v.map eN))) (.tup (ws.map eNs)) := FzR.lst (fun v hv => FzR.lst (fun _ _ => FzR.nat) (h v hv)) hl
section
variable {P : Program} {w : World} {K : PySem.W.Frag} {mg : Str → Option Value} {base : Heap}
variable {C CS : Addr} {k : Nat}
def SBuild (C CS : Addr) : List Sl → (T → Prop) → Prop := fun ss Po => ∃ (s : Sd) (bb : Bool), Sound s ∧ ss = [.im (tLs s), .im (tLw s.ways), .im (.bl bb)] ∧ Po = (· = tStand C CS s)
abbrev MkSt (P : Program) (w : World) (K : PySem.W.Frag) (mg : Str → Option Value) (base : Heap) (CS : Addr) : Prop := ClsOk P w K mg base "Street" CS 4 ["self", "pegs", "lanes"] [] [] fsSt (SStreet CS)
abbrev MkSg (P : Program) (w : World) (K : PySem.W.Frag) (mg : Str → Option Value) (base : Heap) (C CS : Addr) : Prop := ClsOk P w K mg base "Standing" C 5 ["self", "street", "ways", "sure"] [.bool false] [.bl false] fsSg (SStand C CS)
theorem ok_build (b : Bi mg) (St : MkSt P w K mg base CS) (Sg : MkSg P w K mg base C CS) (D : DefAt K mg "_law_build" (top 52) ["_law_street", "_law_ways", "_law_lists"]) : DefOk P w K mg base "_law_build" 7 ["_law_street", "_law_ways", "_law_lists"] (SBuild C CS) := by
  have nd : (["_law_street", "_law_ways", "_law_lists", "_law_lane", "_law_way"] : List Str).Nodup := by decide +kernel
  refine D.ok (N := ["_law_street", "_law_ways", "_law_lists", "_law_lane", "_law_way"]) ⟨rfl, rfl, rfl, nd, rfl, by decide +kernel, by decide +kernel⟩ (fun _ _ ⟨_, _, _, e, _⟩ => by rw [e]; rfl) ?_
  rintro f cdv A outer st H E hr _ _ ⟨s, bb, o, rfl, rfl⟩
  have ht : s.ways.length ≤ 20 := o.nt
  have hn : s.pegs.length ≤ 12 := o.st.nh
  have hl : s.lanes.length ≤ 132 := o.st.len
  have hw : ∀ v ∈ s.ways, v.length ≤ 10000 := fun v hv => Nat.le_trans (o.ways v hv).len (by decide)
  refine st_ifR (k := bb) (et_val (ev_var 2 rfl)) (fun _ => ?_) (fun _ => ?_)
  · refine st_ret (ev_make (ss := [tStreet CS s, .lst (s.ways.map fun v => .lst (v.map eN))]) (ds := [.bl false]) (ts := [tStreet CS s, .tup (s.ways.map eNs), .tup ((List.range s.nH).map fun h => eNs (s.hungAt h)), .tup ((List.range s.nT).map fun t => eO (s.want t))]) Sg hr
      (ea_cons (ev_make (ss := [.lst (s.pegs.map eN), .lst (s.lanes.map fun p => .lst [eN p.1, eN p.2])]) (ds := []) (ts := [eNs s.pegs, .tup (s.lanes.map eP), .tup ((List.range s.nH).map fun a => eNs (s.toL a)), .tup ((List.range s.nH).map fun a => eNs (s.frL a))]) St (hr.mono (by decide))
        (ea_cons (EL.v (el_list (EV.q (ev_at' (j := 0) (t := .lst (s.pegs.map eN)) (EV.q (ev_var 0 rfl) rfl) ev_int rfl) rfl) b.list)) (ea_cons ?lanes ea_nil))
        (fun M => rfl) ⟨s, _, _, o.st, FzR.lst (fun _ _ => FzR.nat) (by omega), FzR.lst (fun p _ => FzR.two FzR.nat FzR.nat) (by omega), rfl, rfl⟩)
        (ea_cons ?ways ea_nil))
      (fun M => ⟨_, _, rfl, rfl, rfl⟩) ⟨s, .inl ⟨_, o, fz_ways hw (by omega), rfl⟩, rfl⟩) rfl
    case lanes => exact (EL.v (el_map (xs := s.lanes) (enc := eP) (g := fun p => .lst [eN p.1, eN p.2]) (rx := fun p => [some (.im (tLs s)), some (.im (tLw s.ways)), some (.im (.bl bb)), some (.im (eP p)), none]) rfl nd (ei_list (ev_at' (j := 1) (t := .lst (s.lanes.map eP)) (EV.q (ev_var 0 rfl) rfl) ev_int rfl)) (show BlkOk ["_law_street", "_law_ways", "_law_lists", "_law_lane", "_law_way"] (defScope (top 52)) _ [("_law_lane", 3)] from blkOk_by (by decide +kernel)) (by simp) (fun s H C cl fp => gt_name 3 nd) (fun n _ => rfl)
          (fun p hp _ H' C' cl fp => EL.v (el_list (ts := [eN p.1, eN p.2]) (EV.q (ev_var 3 rfl) rfl) b.list)) (by omega)))
    case ways => exact (EL.v (el_map (xs := s.ways) (enc := eNs) (g := fun v => .lst (v.map eN)) (rx := fun v => [some (.im (tLs s)), some (.im (tLw s.ways)), some (.im (.bl bb)), none, some (.im (eNs v))]) rfl nd (ei_list (ev_var 1 rfl)) (show BlkOk ["_law_street", "_law_ways", "_law_lists", "_law_lane", "_law_way"] (defScope (top 52)) _ [("_law_way", 4)] from blkOk_by (by decide +kernel)) (by simp) (fun s H C cl fp => gt_name 4 nd) (fun n _ => rfl)
          (fun v hv _ H' C' cl fp => EL.v (el_list (EV.q (ev_var 4 rfl) rfl) b.list)) (by omega)))
  · refine st_ret (ev_make (ss := [tStreet CS s, .tup (s.ways.map eNs)]) (ds := [.bl false]) (ts := [tStreet CS s, .tup (s.ways.map eNs), .tup ((List.range s.nH).map fun h => eNs (s.hungAt h)), .tup ((List.range s.nT).map fun t => eO (s.want t))]) Sg hr
      (ea_cons (ev_make (ss := [.tup (s.pegs.map eN), .tup (s.lanes.map eP)]) (ds := []) (ts := [eNs s.pegs, .tup (s.lanes.map eP), .tup ((List.range s.nH).map fun a => eNs (s.toL a)), .tup ((List.range s.nH).map fun a => eNs (s.frL a))]) St (hr.mono (by decide))
        (ea_cons (ev_tupL (EV.o (ev_at' (j := 0) (t := .lst (s.pegs.map eN)) (EV.q (ev_var 0 rfl) rfl) ev_int rfl)) b.tuple) (ea_cons (ev_tupL (EV.o (ev_at' (j := 1) (t := .lst (s.lanes.map eP)) (EV.q (ev_var 0 rfl) rfl) ev_int rfl)) b.tuple) ea_nil))
        (fun M => rfl) ⟨s, _, _, o.st, FzR.tup (fun _ _ => FzR.nat) (by omega), FzR.tup (fun p _ => fz_pair) (by omega), rfl, rfl⟩)
        (ea_cons (ev_tupL (EV.o (ev_var 1 rfl)) b.tuple) ea_nil))
      (fun M => ⟨_, _, rfl, rfl, rfl⟩) ⟨s, .inl ⟨_, o, FzR.tup (fun v hv => FzR.tup (fun _ _ => FzR.nat) (hw v hv)) (by omega), rfl⟩, rfl⟩) rfl
end
end TL

/-! the law -/
namespace TL
open PySem L2 PySem.Spec PyProof.Rows
def szL : List Nat := [2, 2, 7, 3, 20, 12, 3, 20, 12, 3, 20, 12, 3, 20, 12, 3, 20, 12, 3, 20, 12]
theorem LotOk.after {s : Sd} (o : Sound s) {d : Deed} (c : CanDo s d) {l : List Nat} (h : LotOk s l) (hx : ∀ k, holder (s.way (dt d)) = some k → k ∉ l) : LotOk (s.after d) l := ⟨h.pw, by rw [after_eq]; exact h.lt, stuck_after o c h.st hx⟩
section
variable {P : Program} {w : World} {K : PySem.W.Frag} {mg : Str → Option Value} {base : Heap}
variable {C CS : Addr} {k : Nat}
def SLaw : List Sl → (T → Prop) → Prop := fun ss Po => ∃ ns : List Int, ns.length ≤ 63 ∧ ss = [.ro (ns.map .int)] ∧ Po = (· = .bl true)
theorem ok_law (b : Bi mg) (g : IsSg K C) (Ce : DefOk P w K mg base "_law_cell" 1 ["_law_script", "_law_k"] SCell) (Di : DefOk P w K mg base "_law_digits" 1 ["_law_cell_here", "_law_sizes"] SDigits)
    (Cr : DefOk P w K mg base "_law_crowd" 3 ["_law_script", "_law_at", "_law_counts", "_law_spurs", "_law_most", "_law_limit"] SCrowd) (Bu : DefOk P w K mg base "_law_build" 7 ["_law_street", "_law_ways", "_law_lists"] (SBuild C CS)) (Sg : MkSg P w K mg base C CS)
    (Mo : DefOk P w K mg base "_law_moment" 6 ["_law_street", "_law_ways", "_law_standing"] (SMoment C CS)) (Ne : DefOk P w K mg base "_law_needs" 1 ["_law_street", "_law_ways"] SNeeds) (Gr : DefOk P w K mg base "_law_greatest" 1 ["_law_needs_here"] SLGreat)
    (Cl : DefOk P w K mg base "_law_closure" 1 ["_law_needs_here", "_law_house"] SClos) (Ho : DefOk P w K mg base "_law_held" 5 ["_law_ways", "_law_standing", "_law_lots"] (SHoldL C CS)) (De : DefOk P w K mg base "_law_deed" 3 ["_law_street", "_law_ways", "_law_row"] SLDeed)
    (Do : DefOk P w K mg base "_law_done" 1 ["_law_ways", "_law_deed_here"] SDone) (Af : DefOk P w K mg base "after" 10 ["standing", "deed"] (SDeed C CS)) {f : Addr} {fd : FuncData} (F : Fun K "law" "law" (top 66) f fd) : FnOk P w K mg base CX0 11 f fd ["_law_script"] (spT K SLaw) := by
  have nd : (["_law_script", "_law_plan", "_law_wide", "_law_k", "_law_turned", "_law_one", "_law_two", "_law_drawn", "_law_street", "_law_ways", "_law_began", "_law_standing", "_law_needs_here", "_law_lots", "_law_deed_here", "_law_way", "_law_house", "_law_lot"] : List Str).Nodup := by decide +kernel
  refine fn_T (N := ["_law_script", "_law_plan", "_law_wide", "_law_k", "_law_turned", "_law_one", "_law_two", "_law_drawn", "_law_street", "_law_ways", "_law_began", "_law_standing", "_law_needs_here", "_law_lots", "_law_deed_here", "_law_way", "_law_house", "_law_lot"]) F ⟨rfl, rfl, rfl, nd, rfl, by decide +kernel, by decide +kernel⟩ (fun _ _ ⟨_, _, e, _⟩ => by rw [e]; rfl) ?_
  rintro cdv A outer st H E hr _ _ ⟨ns, hns, rfl, rfl⟩
  refine st_setP 1 nd (ep_callP Di (hr.mono (by decide)) (eap_cons (ep_call Ce (hr.mono (by decide)) (ea_consO (eo_ro 0 rfl) (ea_cons (ev_nat (n := 0)) ea_nil)) ⟨ns, 0, by omega, by omega, rfl, rfl⟩) (ea_cons (EL.v (EL.to (el_cat (EL.k (el_lst (ts := [eN 2, eN 2, eN 7]) (ea_cons ev_int (ea_cons ev_int (ea_cons ev_int ea_nil))) (by simp))) (EL.k (el_repL (ts := [eN 3, eN 20, eN 12]) (EL.k (el_lst (ts := [eN 3, eN 20, eN 12]) (ea_cons ev_int (ea_cons ev_int (ea_cons ev_int ea_nil))) (by simp))) ev_int (by decide) (by decide) (by decide))) (by decide)) (us := szL.map eN) rfl)) ea_nil)) (P := fun t => ∃ ds, Dg szL ds ∧ t = .lst (ds.map eN)) ?_) ?_
  · rintro _ ⟨t, ⟨i, rfl⟩, rfl⟩
    exact ⟨i, szL, by decide, by decide, rfl, rfl⟩
  rintro _ ⟨plan, dg, rfl⟩
  have pln : plan.length = 21 := dg.len
  have p2 : plan.getD 2 0 < 7 := dg.lt 2 (by decide)
  refine st_setP 2 nd (ep_call Cr (hr.mono (by decide)) (ea_consO (eo_ro 0 rfl) (ea_cons (ev_nat (n := 30)) (ea_cons (EL.v (el_lst (ts := ([3, 4, 5, 4, 6, 2, 7, 10, 9, 12, 11, 1, 8] : List Nat).map eN) (ea_cons ev_int (ea_cons ev_int (ea_cons ev_int (ea_cons ev_int (ea_cons ev_int (ea_cons ev_int (ea_cons ev_int (ea_cons ev_int (ea_cons ev_int (ea_cons ev_int (ea_cons ev_int (ea_cons ev_int (ea_cons ev_int ea_nil))))))))))))) (by decide))) (ea_cons (EL.v (el_lst (ts := ([0, 0, 2, 1] : List Nat).map eN) (ea_cons ev_int (ea_cons ev_int (ea_cons ev_int (ea_cons ev_int ea_nil)))) (by decide))) (ea_cons (ev_nat (n := 20)) (ea_cons (ev_nat (n := 40)) ea_nil)))))) ⟨ns, 30, [3, 4, 5, 4, 6, 2, 7, 10, 9, 12, 11, 1, 8], [0, 0, 2, 1], 40, by omega, by decide, by decide, by decide, by decide, by decide, by decide, by decide, by decide, rfl, rfl⟩) ?_
  rintro _ ⟨s1, o1, sh1, rfl⟩
  have ht1 : s1.ways.length ≤ 20 := o1.nt
  obtain ⟨s2, hs2⟩ : ∃ s2, s2 = s1.w s1.ways.reverse := ⟨_, rfl⟩
  have o2 : Sound s2 := by rw [hs2]; exact sound_rev o1
  have eL2 : tLs s2 = tLs s1 := by rw [hs2]; rfl
  have eS2 : tStreet CS s2 = tStreet CS s1 := by rw [hs2]; rfl
  have eW2 : T.lst (s1.ways.reverse.map eNs) = tLw s2.ways := by rw [hs2]; rfl
  have ht2 : s2.ways.length ≤ 20 := o2.nt
  refine st_lc (xs := List.range s1.ways.length) (enc := eN) (pp := fun _ => true) (g := fun k => eNs (s1.ways.getD (s1.ways.length - 1 - k) [])) (rx := fun k => [some (.ro (ns.map .int)), some (.im (.lst (plan.map eN))), some (.im (.lst [tLs s1, tLw s1.ways])), some (.im (eN k)), none, none, none, none, none, none, none, none, none, none, none, none, none, none]) 4 rfl nd (ei_rangeN (ev_lenM (EV.q (ev_at' (j := 1) (t := tLw s1.ways) (EV.q (ev_var 2 rfl) rfl) ev_int rfl) rfl) b.len) (by omega) b.range) (show BlkOk ["_law_script", "_law_plan", "_law_wide", "_law_k", "_law_turned", "_law_one", "_law_two", "_law_drawn", "_law_street", "_law_ways", "_law_began", "_law_standing", "_law_needs_here", "_law_lots", "_law_deed_here", "_law_way", "_law_house", "_law_lot"] (defScope (top 66)) _ [("_law_k", 3)] from blkOk_by (by decide +kernel)) (by simp) (fun s H C cl fp => gt_name 3 nd) (fun n _ => rfl) (fun k hk _ H' C' cl fp => ets_nil)
    (fun k hk _ _ H' C' cl fp => ev_at (f := eNs) (d := []) (EV.q (ev_at' (j := 1) (t := tLw s1.ways) (EV.q (ev_var 2 rfl) rfl) ev_int rfl) rfl) (ev_subN (ev_subN (m := 1) (ev_lenM (EV.q (ev_at' (j := 1) (t := tLw s1.ways) (EV.q (ev_var 2 rfl) rfl) ev_int rfl) rfl) b.len) ev_nat (by have := List.mem_range.mp hk; omega)) (ev_var 3 rfl) (by have := List.mem_range.mp hk; omega)) (by have := List.mem_range.mp hk; omega)) (by rw [List.length_range]; omega) ?_
  rw [List.filter_eq_self.mpr (fun _ _ => rfl), rev_get, eW2]
  refine st_set 5 nd (ev_call Bu (hr.mono (by decide)) (ea_cons (ev_at' (j := 0) (t := tLs s1) (EV.q (ev_var 2 rfl) rfl) ev_int rfl) (ea_cons (ev_at' (j := 1) (t := tLw s1.ways) (EV.q (ev_var 2 rfl) rfl) ev_int rfl) (ea_cons (ev_eqN (m := 0) (ev_at (f := eN) (d := 0) (j := 0) (EV.q (ev_var 1 rfl) rfl) ev_nat (by omega)) ev_nat) ea_nil))) ⟨s1, _, o1, rfl, rfl⟩) ?_
  refine st_set 6 nd (EV.to (ev_make (ss := [tStreet CS s2, .lst (s2.ways.map fun v => .lst (v.map eN))]) (ds := [.bl false]) (ts := [tStreet CS s2, .tup (s2.ways.map eNs), .tup ((List.range s2.nH).map fun h => eNs (s2.hungAt h)), .tup ((List.range s2.nT).map fun t => eO (s2.want t))]) Sg (hr.mono (by decide)) (ea_cons (EV.to (f_street g (ev_var 5 rfl)) eS2.symm) (ea_cons ?tws ea_nil)) (fun M => ⟨_, _, rfl, rfl, rfl⟩) ⟨s2, .inl ⟨_, o2, fz_ways (fun v hv => Nat.le_trans (o2.ways v hv).len (by decide)) (by omega), rfl⟩, rfl⟩) (t' := tStand C CS s2) rfl) ?_
  case tws => exact EL.v (el_map (xs := s2.ways) (enc := eNs) (g := fun v => .lst (v.map eN)) (rx := fun v => [some (.ro (ns.map .int)), some (.im (.lst (plan.map eN))), some (.im (.lst [tLs s1, tLw s1.ways])), none, some (.im (tLw s2.ways)), some (.im (tStand C CS s1)), none, none, none, none, none, none, none, none, none, some (.im (eNs v)), none, none]) rfl nd (ei_list (ev_var 4 rfl)) (show BlkOk ["_law_script", "_law_plan", "_law_wide", "_law_k", "_law_turned", "_law_one", "_law_two", "_law_drawn", "_law_street", "_law_ways", "_law_began", "_law_standing", "_law_needs_here", "_law_lots", "_law_deed_here", "_law_way", "_law_house", "_law_lot"] (defScope (top 66)) _ [("_law_way", 15)] from blkOk_by (by decide +kernel)) (by simp) (fun s H C cl fp => gt_name 15 nd) (fun n _ => rfl)
    (fun v hv _ H' C' cl fp => EL.v (el_list (EV.q (ev_var 15 rfl) rfl) b.list)) (by omega))
  refine st_ifR (k := false) (EW.et (ew_or (k1 := false) (k2 := false) (et_not (k := true) (et_val (ev_call Mo (hr.mono (by decide)) (ea_cons (ev_at' (j := 0) (t := tLs s1) (EV.q (ev_var 2 rfl) rfl) ev_int rfl) (ea_cons (ev_at' (j := 1) (t := tLw s1.ways) (EV.q (ev_var 2 rfl) rfl) ev_int rfl) (ea_cons (ev_var 5 rfl) ea_nil))) ⟨s1, o1, rfl, rfl⟩))) fun _ => ew_or1 (et_not (k := true) (et_val (ev_call Mo (hr.mono (by decide)) (ea_cons (EV.to (ev_at' (j := 0) (t := tLs s1) (EV.q (ev_var 2 rfl) rfl) ev_int rfl) eL2.symm) (ea_cons (ev_var 4 rfl) (ea_cons (ev_var 6 rfl) ea_nil))) ⟨s2, o2, rfl, rfl⟩))))) (fun z => by cases z) fun _ => ?_
  refine st_setP 7 nd (ep_call Cr (hr.mono (by decide)) (ea_consO (eo_ro 0 rfl) (ea_cons (ev_nat (n := 1)) (ea_cons (EL.v (el_lst (ts := ([3, 4, 5, 4, 6, 2, 7, 1, 9, 12, 10, 8, 11] : List Nat).map eN) (ea_cons ev_int (ea_cons ev_int (ea_cons ev_int (ea_cons ev_int (ea_cons ev_int (ea_cons ev_int (ea_cons ev_int (ea_cons ev_int (ea_cons ev_int (ea_cons ev_int (ea_cons ev_int (ea_cons ev_int (ea_cons ev_int ea_nil))))))))))))) (by decide))) (ea_cons (EL.v (el_lst (ts := ([0, 2, 2, 1] : List Nat).map eN) (ea_cons ev_int (ea_cons ev_int (ea_cons ev_int (ea_cons ev_int ea_nil)))) (by decide))) (ea_cons (ev_nat (n := 20)) (ea_cons (ev_nat (n := 34)) ea_nil)))))) ⟨ns, 1, [3, 4, 5, 4, 6, 2, 7, 1, 9, 12, 10, 8, 11], [0, 2, 2, 1], 34, by omega, by decide, by decide, by decide, by decide, by decide, by decide, by decide, by decide, rfl, rfl⟩) ?_
  rintro _ ⟨s0, o0, sh0, rfl⟩
  have oo0 := o0.okay
  refine st_set 8 nd (ev_at' (j := 0) (t := tLs s0) (EV.q (ev_var 7 rfl) rfl) ev_int rfl) ?_
  refine st_set 9 nd (ev_at' (j := 1) (t := tLw s0.ways) (EV.q (ev_var 7 rfl) rfl) ev_int rfl) ?_
  refine st_set 10 nd (ev_call Bu (hr.mono (by decide)) (ea_cons (ev_var 8 rfl) (ea_cons (ev_var 9 rfl) (ea_cons (ev_eqN (m := 0) (ev_at (f := eN) (d := 0) (j := 1) (EV.q (ev_var 1 rfl) rfl) ev_nat (by omega)) ev_nat) ea_nil))) ⟨s0, _, o0, rfl, rfl⟩) ?_
  refine st_set 11 nd (ev_var 10 rfl) ?_
  refine st_set 12 nd (ev_call Ne (hr.mono (by decide)) (ea_cons (ev_var 8 rfl) (ea_cons (ev_var 9 rfl) ea_nil)) ⟨s0, o0, rfl, rfl⟩) ?_
  obtain ⟨G, gG⟩ := gl_ex s0
  have hGl : G.length ≤ 12 := Nat.le_trans (by have := gG.sub.length_le; rwa [List.length_range] at this) o0.st.nh
  let R : List (List Nat) → List (List Nat) → T → T → Option Sl → Option Sl → Rho := fun ws ls sg l13 a3 a14 => [some (.ro (ns.map .int)), some (.im (.lst (plan.map eN))), some (.im (.lst [tLs s1, tLw s1.ways])), a3, some (.im (tLw s2.ways)), some (.im (tStand C CS s1)), some (.im (tStand C CS s2)), some (.im (.lst [tLs s0, tLw s0.ways])), some (.im (tLs s0)), some (.im (tLw ws)), some (.im (tStand C CS s0)), some (.im sg), some (.im (tNeeds s0)), some (.im l13), a14, none, none, none]
  refine st_lc (xs := G) (enc := eN) (pp := fun _ => true) (g := fun h => eNs (clos s0 h)) (rx := fun h => [some (.ro (ns.map .int)), some (.im (.lst (plan.map eN))), some (.im (.lst [tLs s1, tLw s1.ways])), none, some (.im (tLw s2.ways)), some (.im (tStand C CS s1)), some (.im (tStand C CS s2)), some (.im (.lst [tLs s0, tLw s0.ways])), some (.im (tLs s0)), some (.im (tLw s0.ways)), some (.im (tStand C CS s0)), some (.im (tStand C CS s0)), some (.im (tNeeds s0)), none, none, none, some (.im (eN h)), none]) 13 rfl nd (ei_tup (EP.v (EP.imp (ep_call Gr (hr.mono (by decide)) (ea_cons (ev_var 12 rfl) ea_nil) ⟨s0, o0, rfl, rfl⟩) fun t ⟨l, gl, e⟩ => by rw [e, gl_one gl gG]))) (show BlkOk ["_law_script", "_law_plan", "_law_wide", "_law_k", "_law_turned", "_law_one", "_law_two", "_law_drawn", "_law_street", "_law_ways", "_law_began", "_law_standing", "_law_needs_here", "_law_lots", "_law_deed_here", "_law_way", "_law_house", "_law_lot"] (defScope (top 66)) _ [("_law_house", 16)] from blkOk_by (by decide +kernel)) (by simp) (fun s H C cl fp => gt_name 16 nd) (fun n _ => rfl) (fun k hk _ H' C' cl fp => ets_nil)
    (fun h hh _ _ H' C' cl fp => EP.v (EP.imp (ep_call Cl (hr.mono (by decide)) (ea_cons (ev_var 12 rfl) (ea_cons (ev_var 16 rfl) ea_nil)) ⟨s0, h, G, o0, gG, hh, rfl, rfl⟩) fun t ⟨l, l1, l2, _, l3, l4, l5, e⟩ => by rw [e, clos_one l1 l2 l3 l4 l5])) (by omega) ?_
  rw [List.filter_eq_self.mpr (fun _ _ => rfl)]
  have hls0 : ∀ l ∈ G.map (clos s0), LotOk s0 l := fun l hl => by
    obtain ⟨h, hh, rfl⟩ := List.mem_map.mp hl
    exact clos_ok oo0 gG hh
  have hlen0 : (G.map (clos s0)).length ≤ 12 := by rw [List.length_map]; exact hGl
  rw [show (G.map fun h => eNs (clos s0 h)) = (G.map (clos s0)).map eNs by rw [List.map_map]; rfl]
  generalize G.map (clos s0) = ls0 at hls0 hlen0
  -- both questions of a moment of the row
  have both : ∀ (s : Sd) (ls : List (List Nat)) (a3 a14 : Option Sl) (rest : List Stmt) (DD : Dn) (pp : Pos), True := fun _ _ _ _ _ _ _ => trivial
  refine st_for (fun k r => ∃ ws ls a3 a14, Sound (s0.w ws) ∧ Short (34 + k) (s0.w ws) ∧ ls.length ≤ 12 ∧ (∀ l ∈ ls, LotOk (s0.w ws) l) ∧ r = R ws ls (tStand C CS (s0.w ws)) (.lst (ls.map eNs)) a3 a14) (ei_rangeN (ev_at (f := eN) (d := 0) (j := 2) (EV.q (ev_var 1 rfl) rfl) ev_nat (by omega)) (by omega) b.range) (gt_name 3 nd) ⟨s0.ways, ls0, none, none, o0, sh0, hlen0, hls0, rfl⟩ ?_ ?_
  · rintro k t' r1 ht' ⟨ws, ls, a3, a14, o, sh, hln, hls, rfl⟩
    obtain ⟨q, hq, rfl, _⟩ := forM ht'
    obtain ⟨rfl, hk⟩ := rangeM hq
    have oo := o.okay
    have hsl : ∀ t < (s0.w ws).nT, ((s0.w ws).way t).length < 1000 := fun t ht => by
      have := sh _ (oo.way ht)
      omega
    have sh99 : Short 99 (s0.w ws) := fun v hv => by have := sh v hv; omega
    refine ⟨_, rfl, ?_⟩
    refine st_ifR (k := false) (EW.et (ew_or (k1 := false) (k2 := false) (et_not (k := true) (et_val (ev_call Mo (hr.mono (by decide)) (ea_cons (ev_var 8 rfl) (ea_cons (ev_var 9 rfl) (ea_cons (ev_var 11 rfl) ea_nil))) ⟨s0.w ws, o, rfl, rfl⟩))) fun _ => ew_or1 (et_not (k := true) (et_val (ev_call Ho (hr.mono (by decide)) (ea_cons (ev_var 9 rfl) (ea_cons (ev_var 11 rfl) (ea_cons (ev_var 13 rfl) ea_nil))) ⟨s0.w ws, ls, o, by omega, fun l hl => ⟨(hls l hl).pw, (hls l hl).lt, (hls l hl).st⟩, rfl, rfl⟩))))) (fun z => by cases z) fun _ => ?_
    have e1 : (3 : Int) + 3 * (q : Int) = ((3 + 3 * q : Nat) : Int) := by omega
    have e2 : (6 : Int) + 3 * (q : Int) = ((6 + 3 * q : Nat) : Int) := by omega
    refine st_setP 14 nd (ep_call De (hr.mono (by decide)) (ea_cons (ev_var 8 rfl) (ea_cons (ev_var 9 rfl) (ea_cons (EL.v (EL.to (el_slice (EV.o (ev_var 1 rfl)) (ept_some (EV.to (ev_add ev_int (ev_mul ev_int (ev_var 3 rfl) (.inl (by decide)))) (congrArg T.int e1))) (ept_some (EV.to (ev_add ev_int (ev_mul ev_int (ev_var 3 rfl) (.inl (by decide)))) (congrArg T.int e2)))) (us := [eN (plan.getD (3 + 3 * q) 0), eN (plan.getD (3 + 3 * q + 1) 0), eN (plan.getD (3 + 3 * q + 2) 0)]) ?row)) ea_nil))) ⟨s0.w ws, _, _, _, o, rfl, rfl⟩) ?_
    case row =>
      rw [cut_mid (by rw [List.length_map]; omega) (by rw [List.length_map]; omega), show 6 + 3 * q - (3 + 3 * q) = 3 by omega, ← List.map_drop, ← List.map_take, three_get (by omega)]
      rfl
    rintro _ (rfl | ⟨d, cd, rfl⟩)
    · exact st_ifC (k := false) (fun r => ∃ ws ls a3 a14, Sound (s0.w ws) ∧ Short (34 + (q + 1)) (s0.w ws) ∧ ls.length ≤ 12 ∧ (∀ l ∈ ls, LotOk (s0.w ws) l) ∧ r = R ws ls (tStand C CS (s0.w ws)) (.lst (ls.map eNs)) a3 a14) (ET.to (et_notN (ev_var 14 rfl)) rfl) (fun z => by cases z) (fun _ => st_nil ⟨ws, ls, _, _, o, fun v hv => by have := sh v hv; omega, hln, hls, rfl⟩) (fun r' h => st_nil h)
    have o' : Sound ((s0.w ws).after d) := o.after cd sh99
    have sh' : Short (34 + (q + 1)) ((s0.w ws).after d) := sh.after oo cd
    rw [after_w] at o' sh'
    refine st_ifC (k := true) (fun r => ∃ ws ls a3 a14, Sound (s0.w ws) ∧ Short (34 + (q + 1)) (s0.w ws) ∧ ls.length ≤ 12 ∧ (∀ l ∈ ls, LotOk (s0.w ws) l) ∧ r = R ws ls (tStand C CS (s0.w ws)) (.lst (ls.map eNs)) a3 a14) (ET.to (et_notN (ev_var 14 rfl)) (by cases d <;> rfl)) (fun _ => ?_) (fun z => by cases z) (fun r' h => st_nil h)
    have hdt : dt d < ws.length := cd.lt
    have h1 : 1 ≤ (ws.getD (dt d) []).length := oo.len1 cd.lt
    refine st_ifC (k := (match d with | .lend _ _ => true | .back _ => false) && decide (1 < (ws.getD (dt d) []).length)) (fun r => ∃ ls', ls'.length ≤ 12 ∧ (∀ l ∈ ls', LotOk ((s0.w ws).after d) l) ∧ r = R ws ls' (tStand C CS (s0.w ws)) (.lst (ls'.map eNs)) (some (.im (eN q))) (some (.im (eD d)))) ?tst (fun z => ?_) (fun z => ?_) ?_
    case tst =>
      cases d with
      | lend t h => exact EW.et (ew_and (k1 := true) (ET.to (et_eq (ev_at' (j := 0) (t := .str "lend") (EV.q (ev_var 14 rfl) rfl) ev_int rfl) ev_str rfl) (decide_eq_true rfl)) fun _ => ew_and1 (et_gtN (m := 1) (ev_lenM (EV.q (ev_at (f := eNs) (d := []) (EV.q (ev_var 9 rfl) rfl) (ev_at' (j := 1) (t := eN t) (EV.q (ev_var 14 rfl) rfl) ev_int rfl) hdt) rfl) b.len) ev_nat))
      | back t => exact ET.to (EW.et (ew_and (k1 := false) (k2 := false) (ET.to (et_eq (ev_at' (j := 0) (t := .str "back") (EV.q (ev_var 14 rfl) rfl) ev_int rfl) ev_str rfl) (decide_eq_false (by decide))) fun z => by cases z)) (by rw [Bool.false_and, Bool.false_and])
    · cases d with
      | back t => cases z
      | lend t h =>
        have hl1 : 1 < (ws.getD t []).length := of_decide_eq_true (Bool.and_eq_true_iff.mp z).2
        have hdt : t < ws.length := hdt
        refine st_lc (xs := ls) (enc := eNs) (pp := fun l => !decide ((ws.getD t []).getD ((ws.getD t []).length - 1) 0 ∈ l)) (g := eNs) (rx := fun l => [some (.ro (ns.map .int)), some (.im (.lst (plan.map eN))), some (.im (.lst [tLs s1, tLw s1.ways])), some (.im (eN q)), some (.im (tLw s2.ways)), some (.im (tStand C CS s1)), some (.im (tStand C CS s2)), some (.im (.lst [tLs s0, tLw s0.ways])), some (.im (tLs s0)), some (.im (tLw ws)), some (.im (tStand C CS s0)), some (.im (tStand C CS (s0.w ws))), some (.im (tNeeds s0)), some (.im (.lst (ls.map eNs))), some (.im (eD (.lend t h))), none, none, some (.im (eNs l))]) 13 rfl nd (ei_list (ev_var 13 rfl)) (show BlkOk ["_law_script", "_law_plan", "_law_wide", "_law_k", "_law_turned", "_law_one", "_law_two", "_law_drawn", "_law_street", "_law_ways", "_law_began", "_law_standing", "_law_needs_here", "_law_lots", "_law_deed_here", "_law_way", "_law_house", "_law_lot"] (defScope (top 66)) _ [("_law_lot", 17)] from blkOk_by (by decide +kernel)) (by simp) (fun s H C cl fp => gt_name 17 nd) (fun n _ => rfl)
          (fun l hl _ H' C' cl fp => ets_one (et_niN (ev_last (f := eN) (d := 0) (EV.q (ev_at (f := eNs) (d := []) (EV.q (ev_var 9 rfl) rfl) (ev_at' (j := 1) (t := eN t) (EV.q (ev_var 14 rfl) rfl) ev_int rfl) hdt) rfl) (by omega)) (EV.q (ev_var 17 rfl) rfl))) (fun l hl _ _ H' C' cl fp => ev_var 17 rfl) (by omega) (st_nil ⟨ls.filter fun l => !decide ((ws.getD t []).getD ((ws.getD t []).length - 1) 0 ∈ l), ?_, fun l hl => ?_, rfl⟩)
        · exact Nat.le_trans (List.length_filter_le _ _) hln
        · obtain ⟨l1, l2⟩ := List.mem_filter.mp hl
          refine (hls l l1).after o cd fun k e => ?_
          rw [← holder_last e]
          have l2 : ¬ (ws.getD t []).getD ((ws.getD t []).length - 1) 0 ∈ l := by simpa using l2
          exact l2
    · refine st_nil ⟨ls, hln, fun l hl => (hls l hl).after o cd fun k e => ?_, rfl⟩
      cases d with
      | back t => exact stuck_out o cd (hls l hl).st k e
      | lend t h =>
        have hl1 : ¬ 1 < (ws.getD t []).length := of_decide_eq_false (show decide (1 < (ws.getD t []).length) = false from z)
        have e : holder (ws.getD t []) = some k := e
        unfold holder at e
        rw [if_neg hl1] at e
        cases e
    rintro r2 ⟨ls', hln', hls', rfl⟩
    refine st_set 9 nd (ev_call Do (hr.mono (by decide)) (ea_cons (ev_var 9 rfl) (ea_cons (ev_var 14 rfl) ea_nil)) ⟨s0.w ws, d, o, cd, rfl, rfl⟩) ?_
    refine st_set 11 nd (ev_call Af hr (ea_cons (ev_var 11 rfl) (ea_cons (ev_var 14 rfl) ea_nil)) ⟨s0.w ws, d, oo, cd, hsl, rfl, rfl⟩) (st_nil ⟨((s0.w ws).after d).ways, ls', some (.im (eN q)), some (.im (eD d)), o', sh', hln', by rw [← after_w]; exact hls', ?_⟩)
    rw [← after_w]
    rfl
  · rintro r1 ⟨ws, ls, a3, a14, o, sh, hln, hls, rfl⟩
    refine st_ifR (k := false) (EW.et (ew_or (k1 := false) (k2 := false) (et_not (k := true) (et_val (ev_call Mo (hr.mono (by decide)) (ea_cons (ev_var 8 rfl) (ea_cons (ev_var 9 rfl) (ea_cons (ev_var 11 rfl) ea_nil))) ⟨s0.w ws, o, rfl, rfl⟩))) fun _ => ew_or1 (et_not (k := true) (et_val (ev_call Ho (hr.mono (by decide)) (ea_cons (ev_var 9 rfl) (ea_cons (ev_var 11 rfl) (ea_cons (ev_var 13 rfl) ea_nil))) ⟨s0.w ws, ls, o, by omega, fun l hl => ⟨(hls l hl).pw, (hls l hl).lt, (hls l hl).st⟩, rfl, rfl⟩))))) (fun z => by cases z) fun _ => ?_
    refine st_ifR (k := false) (et_not (k := true) (et_val (ev_call Mo (hr.mono (by decide)) (ea_cons (ev_var 8 rfl) (ea_cons (ev_at' (j := 1) (t := tLw s0.ways) (EV.q (ev_var 7 rfl) rfl) ev_int rfl) (ea_cons (ev_var 10 rfl) ea_nil))) ⟨s0, o0, rfl, rfl⟩))) (fun z => by cases z) fun _ => ?_
    exact st_ret (ev_and (k1 := true) (k2 := true) (ev_call Mo (hr.mono (by decide)) (ea_cons (ev_at' (j := 0) (t := tLs s1) (EV.q (ev_var 2 rfl) rfl) ev_int rfl) (ea_cons (ev_at' (j := 1) (t := tLw s1.ways) (EV.q (ev_var 2 rfl) rfl) ev_int rfl) (ea_cons (ev_var 5 rfl) ea_nil))) ⟨s1, o1, rfl, rfl⟩) fun _ => ev_one (ev_call Mo (hr.mono (by decide)) (ea_cons (EV.to (ev_at' (j := 0) (t := tLs s1) (EV.q (ev_var 2 rfl) rfl) ev_int rfl) eL2.symm) (ea_cons (ev_var 4 rfl) (ea_cons (ev_var 6 rfl) ea_nil))) ⟨s2, o2, rfl, rfl⟩)) rfl
end
end TL

/-! TL, part n: sorted(set(t)), t a tuple of many pairs of small ints, each once -/
namespace TL
open PySem L2 PySem.Spec PyProof.Rows

/-! ### the hashes of pairs -/
def hash2 (a b : Int) : Int := reduceHash (Builtin.Tuple.tupleHashOf [hashInt a, hashInt b])
theorem thash2 (P : Program) (w : World) (a b : Int) : thash P w [a, b] = hash2 a b := rfl
abbrev hashes12 : List Int := (List.range 144).map fun n => hash2 (((n / 12 : Nat)) : Int) (((n % 12 : Nat)) : Int)
theorem hashes12_nodup : hashes12.Nodup := by decide +kernel
theorem hash2_inj {a b c d : Nat} (ha : a < 12) (hb : b < 12) (hc : c < 12) (hd : d < 12) (e : hash2 (a : Int) (b : Int) = hash2 (c : Int) (d : Int)) : a = c ∧ b = d := by
  have h := List.pairwise_iff_getElem.mp hashes12_nodup
  have at_ : ∀ {x y : Nat}, x < 12 → y < 12 → ∀ (hl : x * 12 + y < hashes12.length), hashes12[x * 12 + y] = hash2 (x : Int) (y : Int) := fun {x y} hx hy hl => by
    rw [List.getElem_map, List.getElem_range, show (x * 12 + y) / 12 = x by omega, show (x * 12 + y) % 12 = y by omega]
  have len : hashes12.length = 144 := by rw [List.length_map, List.length_range]
  rcases Nat.lt_trichotomy (a * 12 + b) (c * 12 + d) with z | z | z
  · exact absurd ((at_ ha hb (by omega)).trans (e.trans (at_ hc hd (by omega)).symm)) (h _ _ (by omega) (by omega) z)
  · omega
  · exact absurd ((at_ hc hd (by omega)).trans (e.symm.trans (at_ ha hb (by omega)).symm)) (h _ _ (by omega) (by omega) z)

/-! ### the round of the probes goes everywhere -/
def seen5 (m : Nat) : Nat → Nat → Nat → Nat
  | 0, _, acc => acc
  | n + 1, i, acc => seen5 m n ((i * 5 + 1) % (m + 1)) (acc ||| (1 <<< i))
theorem lcg_tail (m : Nat) : ∀ (k i : Nat), lcgI m ((i * 5 + 1) % (m + 1)) k = lcgI m i (k + 1)
  | 0, _ => rfl
  | k + 1, i => by
    show (lcgI m ((i * 5 + 1) % (m + 1)) k * 5 + 1) % (m + 1) = (lcgI m i (k + 1) * 5 + 1) % (m + 1)
    rw [lcg_tail m k i]
theorem lcg_plus (m i a : Nat) : ∀ k, lcgI m (lcgI m i a) k = lcgI m i (a + k)
  | 0 => rfl
  | k + 1 => by
    show (lcgI m (lcgI m i a) k * 5 + 1) % (m + 1) = (lcgI m i (a + k) * 5 + 1) % (m + 1)
    rw [lcg_plus m i a k]
theorem seen5_of (m : Nat) : ∀ (n i acc j : Nat), (seen5 m n i acc).testBit j = true → acc.testBit j = true ∨ ∃ k, k < n ∧ lcgI m i k = j
  | 0, _, _, _, h => .inl h
  | n + 1, i, acc, j, h => by
    rcases seen5_of m n _ _ j h with h | ⟨k, hk, e⟩
    · rw [Nat.testBit_or, Bool.or_eq_true] at h
      rcases h with h | h
      · exact .inl h
      · rw [Nat.one_shiftLeft, Nat.testBit_two_pow] at h
        exact .inr ⟨0, Nat.succ_pos _, of_decide_eq_true h⟩
    · exact .inr ⟨k + 1, Nat.succ_lt_succ hk, by rw [← lcg_tail]; exact e⟩
/-- a table's mask by which every slot is met -/
structure Whole (m : Nat) : Prop where
  all : seen5 m (m + 1) 0 0 = 2 ^ (m + 1) - 1
  back : lcgI m 0 (m + 1) = 0
  odd : m % 2 = 1
  lad : m = 7 ∨ m = 31 ∨ m = 127 ∨ m = 511
theorem whole7 : Whole 7 := ⟨by decide +kernel, by decide +kernel, rfl, .inl rfl⟩
theorem whole31 : Whole 31 := ⟨by decide +kernel, by decide +kernel, rfl, .inr (.inl rfl)⟩
theorem whole127 : Whole 127 := ⟨by decide +kernel, by decide +kernel, rfl, .inr (.inr (.inl rfl))⟩
theorem whole511 : Whole 511 := ⟨by decide +kernel, by decide +kernel, rfl, .inr (.inr (.inr rfl))⟩
theorem Whole.go {m : Nat} (W : Whole m) {i j : Nat} (hi : i ≤ m) (hj : j ≤ m) : ∃ k, k ≤ m ∧ lcgI m i k = j := by
  have at0 : ∀ x, x ≤ m → ∃ k, k ≤ m ∧ lcgI m 0 k = x := fun x hx => by
    have h : (seen5 m (m + 1) 0 0).testBit x = true := by
      rw [W.all, Nat.testBit_two_pow_sub_one]
      exact decide_eq_true (by omega)
    rcases seen5_of m _ _ _ x h with h | ⟨k, hk, e⟩
    · rw [Nat.zero_testBit] at h
      cases h
    · exact ⟨k, by omega, e⟩
  obtain ⟨a, ha, ea⟩ := at0 i hi
  obtain ⟨b, hb, eb⟩ := at0 j hj
  rcases Nat.lt_or_ge b a with c | c
  · refine ⟨m + 1 - a + b, by omega, ?_⟩
    rw [← ea, lcg_plus, show a + (m + 1 - a + b) = m + 1 + b by omega, ← lcg_plus, W.back]
    exact eb
  · refine ⟨b - a, by omega, ?_⟩
    rw [← ea, lcg_plus, show a + (b - a) = b by omega]
    exact eb
/-- where a search for the hash h begins -/
abbrev pr (m : Nat) (h : Int) : SetTable.Probe := runAt m (SetTable.bits h % (m + 1)) (SetTable.bits h)
theorem off_le (m : Nat) : ∀ (n i b : Nat), off m i b n ≤ 10 * n
  | 0, _, _ => Nat.le_refl _
  | n + 1, i, b => by
    have h := off_le m n (SetTable.leap m i b).1 (SetTable.leap m i b).2
    have h2 : SetTable.runEnd m i - i ≤ 9 := by
      unfold SetTable.runEnd
      split <;> omega
    show (SetTable.runEnd m i - i + 1) + off m (SetTable.leap m i b).1 (SetTable.leap m i b).2 n ≤ 10 * (n + 1)
    omega
/-- the first slot on the way that has a property, if any slot has it -/
theorem Whole.first {m : Nat} (W : Whole m) (h : Int) {p : Nat → Prop} {j : Nat} (hj : j ≤ m) (hp : p j) :
    ∃ n K, n ≤ m + 12 ∧ K ≤ off m (SetTable.bits h % (m + 1)) (SetTable.bits h) n ∧ p (nth m (pr m h) K).j ∧ ∀ k, k < K → ¬ p (nth m (pr m h) k).j := by
  obtain ⟨k, hk, e⟩ := W.go (runI_le m (SetTable.bits h) 12) hj
  have e2 : (nth m (pr m h) (off m (SetTable.bits h % (m + 1)) (SetTable.bits h) (12 + k))).j = j := by
    rw [nth_off, itL_run]
    exact (runI_tail (bits_lt h) k).trans e
  obtain ⟨K, h1, h2, h3⟩ := st_least (p := fun q => p (nth m (pr m h) q).j) (off m (SetTable.bits h % (m + 1)) (SetTable.bits h) (12 + k)) (by show p _; rw [e2]; exact hp)
  exact ⟨12 + k, K, by omega, h1, h2, h3⟩
theorem slot_le (m : Nat) (h : Int) (k : Nat) : (nth m (pr m h) k).j ≤ m := by
  have hb : SetTable.bits h % (m + 1) ≤ m := Nat.le_of_lt_succ (Nat.mod_lt _ (Nat.succ_pos m))
  have hr := runEnd_bd hb
  have := nth_in (m := m) k (pr m h) (by show SetTable.bits h % (m + 1) + (SetTable.runEnd m (SetTable.bits h % (m + 1)) - SetTable.bits h % (m + 1)) ≤ m; omega)
  omega

/-! ### tables without dummies -/
structure Tb (m n : Nat) (t : SetTable) : Prop where
  msk : t.mask = m
  up : Ris t.place.toList
  dm : t.dummies = #[]
  sz : t.place.size = n
  le : ∀ x ∈ t.place.toList, x ≤ m
theorem Tb.fits {m n : Nat} {t : SetTable} (T : Tb m n t) (h : n ≤ m) : t.fits n = true := by
  unfold SetTable.fits SetTable.fill
  rw [T.dm, T.sz, T.msk, beq_self_eq_true, Bool.true_and]
  exact decide_eq_true (by show n + 0 ≤ m; omega)
/-- a search for a hash that is not there ends at an empty slot -/
theorem Tb.probe {m n : Nat} {t : SetTable} (T : Tb m n t) (W : Whole m) (hn : n ≤ m) (at_ : Nat → Int) (h : Int) (ne : ∀ i, i < n → at_ i ≠ h) :
    ∃ j, t.probe at_ h (t.probeStart h) = some (.empty j none) ∧ j ∉ t.place.toList ∧ j ≤ m := by
  have hm := T.msk
  subst hm
  have hl : t.place.toList.length = n := by rw [Array.length_toList]; exact T.sz
  obtain ⟨j0, h0, n0⟩ := st_missing t.place.toList (t.mask + 1) (by omega)
  obtain ⟨q, K, hq, hK, hp, hb⟩ := W.first h (p := fun j => j ∉ t.place.toList) (Nat.le_of_lt_succ h0) n0
  have ho := off_le t.mask q (SetTable.bits h % (t.mask + 1)) (SetTable.bits h)
  rcases go_spec t T.up T.dm at_ h (10 * SetTable.turns t.mask) K (pr t.mask h) rfl (by unfold SetTable.turns; omega) (fun k hk => Classical.byContradiction fun c => hb k hk c) hp with ⟨k, i, _, hi, e, _⟩ | ⟨_, e⟩
  · exact absurd e (ne i (by rw [← hl]; exact (List.getElem?_eq_some_iff.mp hi).1))
  · exact ⟨_, e, hp, slot_le _ _ _⟩
theorem Tb.put {m n j : Nat} {t : SetTable} (T : Tb m n t) (hj : j ≤ m) (hn : j ∉ t.place.toList) : Tb m (n + 1) (t.put j).1 ∧ (t.put j).2 ≤ n := by
  have hl : t.place.toList.length = n := by rw [Array.length_toList]; exact T.sz
  obtain ⟨c1, _, _⟩ := below_cut T.up j
  have c1 : SetTable.below t.place j ≤ n := by rw [← T.sz]; exact c1
  have hp := put_place t j
  refine ⟨⟨T.msk, ris_insert T.up fun e => hn (List.mem_of_getElem? (by rw [Array.getElem?_toList]; exact e)), put_dm T.dm j, ?_, fun x hx => ?_⟩, c1⟩
  · rw [← Array.length_toList, hp, len_ins _ (by rw [hl]; exact c1), hl]
  · rw [hp] at hx
    rcases mem_ins.mp hx with rfl | hx
    · exact hj
    · exact T.le x hx

/-! ### a table laid anew -/
/-- who sits where: the k-th hash at the slot js[k] -/
structure Sit (m : Nat) (js : List Nat) (ow : Array (Option Nat)) : Prop where
  sz : ow.size = m + 1
  nd : js.Nodup
  le : ∀ j ∈ js, j ≤ m
  has : ∀ (k j : Nat), js[k]? = some j → oAt ow j = some k
  out : ∀ j, j ≤ m → j ∉ js → oAt ow j = none
theorem Sit.start (m : Nat) : Sit m [] (Array.replicate (m + 1) none) := ⟨by simp, List.nodup_nil, by simp, by simp, fun j hj _ => oAt_init hj⟩
theorem Whole.free {m : Nat} (W : Whole m) (ow : Array (Option Nat)) (h : Int) {j : Nat} (hj : j ≤ m) (hf : oAt ow j = none) :
    ∃ q, SetTable.layClean.free m ow (SetTable.turns m) (SetTable.bits h % (m + 1)) (SetTable.bits h) = some q ∧ q ≤ m ∧ oAt ow q = none := by
  obtain ⟨n, K, hn, hK, hp, hb⟩ := W.first h (p := fun j => oAt ow j = none) hj hf
  refine ⟨_, free_spec m ow (SetTable.turns m) n _ _ K (by unfold SetTable.turns; omega) hK (fun k hk => ?_) ?_, slot_le m h K, hp⟩
  · have := hb k hk
    show (oAt ow (nth m (pr m h) k).j).isNone = false
    revert this
    cases oAt ow (nth m (pr m h) k).j with
    | none => exact fun c => absurd rfl c
    | some _ => exact fun _ => rfl
  · show (oAt ow (nth m (pr m h) K).j).isNone = true
    rw [hp]; rfl
theorem Sit.step {m : Nat} {js : List Nat} {ow : Array (Option Nat)} (W : Whole m) (S : Sit m js ow) (hl : js.length ≤ m) (h : Int) :
    ∃ q, SetTable.layClean.free m ow (SetTable.turns m) (SetTable.bits h % (m + 1)) (SetTable.bits h) = some q ∧ Sit m (js ++ [q]) (ow.setIfInBounds q (some js.length)) := by
  obtain ⟨j0, h0, n0⟩ := st_missing js (m + 1) (by omega)
  obtain ⟨q, e, hq, hf⟩ := W.free ow h (Nat.le_of_lt_succ h0) (S.out j0 (Nat.le_of_lt_succ h0) n0)
  have hqn : q ∉ js := fun hm => by
    obtain ⟨k, hk⟩ := List.getElem?_of_mem hm
    rw [S.has k q hk] at hf
    cases hf
  have hqs : q < ow.size := by rw [S.sz]; omega
  refine ⟨q, e, by rw [Array.size_setIfInBounds]; exact S.sz, ?_, fun j hj => ?_, fun k j hk => ?_, fun j hj hn => ?_⟩
  · refine List.nodup_append.mpr ⟨S.nd, by simp, fun x hx y hy => ?_⟩
    rw [List.mem_singleton.mp hy]
    exact fun c => hqn (c ▸ hx)
  · rcases List.mem_append.mp hj with hj | hj
    · exact S.le j hj
    · rw [List.mem_singleton.mp hj]; exact hq
  · rcases Nat.lt_or_ge k js.length with c | c
    · rw [List.getElem?_append_left c] at hk
      rw [oAt_set_ne _ fun z : j = q => hqn (z ▸ List.mem_of_getElem? hk)]
      exact S.has k j hk
    · have hk' := (List.getElem?_eq_some_iff.mp hk).1
      rw [List.length_append, List.length_singleton] at hk'
      obtain rfl : k = js.length := by omega
      rw [List.getElem?_append_right (Nat.le_refl _), Nat.sub_self] at hk
      cases hk
      exact oAt_set_self _ hqs
  · have h1 : j ≠ q := fun z => hn (List.mem_append_right _ (by simp [z]))
    rw [oAt_set_ne _ h1]
    exact S.out j hj fun z => hn (List.mem_append_left _ z)
theorem Sit.fold {m : Nat} (W : Whole m) : ∀ (hs : List Int) (js : List Nat) (ow : Array (Option Nat)), Sit m js ow → js.length + hs.length ≤ m →
    ∃ ow' js', hs.foldl (stepF m) (some (ow, js.length)) = some (ow', js'.length) ∧ Sit m js' ow' ∧ js'.length = js.length + hs.length
  | [], js, ow, S, _ => ⟨ow, js, rfl, S, rfl⟩
  | h :: hs, js, ow, S, hl => by
    rw [List.length_cons] at hl
    obtain ⟨q, e, S2⟩ := S.step W (by omega) h
    have hlen : (js ++ [q]).length = js.length + 1 := by simp
    obtain ⟨ow', js', e', S', hl'⟩ := Sit.fold W hs _ _ S2 (by omega)
    refine ⟨ow', js', ?_, S', by rw [hl', hlen, List.length_cons]; omega⟩
    rw [List.foldl_cons, stepF_some e, ← hlen]
    exact e'
theorem relaid_tb (t : SetTable) {hs : Array Int} {wanted M n : Nat} (hw : SetTable.sizeAbove wanted = M + 1) (W : Whole M) (hn : hs.size = n) (hl : n ≤ M) :
    ∃ t' order, t.relaid hs wanted = some (t', order) ∧ order.toList.Perm (List.range n) ∧ Tb M n t' ∧ t'.led = t.led ∧ t'.plain = t.plain := by
  have hz : hs.toList.length = n := by rw [Array.length_toList]; exact hn
  obtain ⟨ow, js, e, S, hjl⟩ := Sit.fold W hs.toList [] _ (Sit.start M) (by rw [hz, List.length_nil]; omega)
  rw [hz, List.length_nil, Nat.zero_add] at hjl
  have e2 : SetTable.layClean M hs = some ow := by
    rw [layClean_eq]
    have e : hs.toList.foldl (stepF M) (some (Array.replicate (M + 1) none, 0)) = some (ow, js.length) := e
    rw [e]; rfl
  have inn : ∀ {j k : Nat}, js[k]? = some j → (j, k) ∈ liveOf M ow := fun {j k} hk => (mem_live S.sz).mpr ⟨S.le j (List.mem_of_getElem? hk), S.has k j hk⟩
  have ris := ris_live (fun j => ow.getD j none) (List.range (M + 1)) List.pairwise_lt_range
  have r1 : Ris ((liveOf M ow).map (·.1)) := ris.1
  have r2 : ∀ x ∈ (liveOf M ow).map (·.1), x ≤ M := fun x hx => Nat.le_of_lt_succ (List.mem_range.mp (ris.2 x hx))
  have pm : ((liveOf M ow).map (·.1)).Perm js := (List.perm_ext_iff_of_nodup (r1.imp fun h => Nat.ne_of_lt h) S.nd).mpr fun x => by
    constructor
    · intro hx
      obtain ⟨⟨y, k⟩, hq, rfl⟩ := List.mem_map.mp hx
      obtain ⟨y1, y2⟩ := (mem_live S.sz).mp hq
      refine Classical.byContradiction fun c => ?_
      have y2 : oAt ow y = some k := y2
      rw [S.out y y1 c] at y2
      cases y2
    · intro hx
      obtain ⟨k, hk⟩ := List.getElem?_of_mem hx
      exact List.mem_map.mpr ⟨(x, k), inn hk, rfl⟩
  have len : (liveOf M ow).length = n := by
    have := pm.length_eq
    rw [List.length_map] at this
    omega
  refine ⟨tabOf t M ow, ((liveOf M ow).map (·.2)).toArray, by rw [relaid_eq, hw, Nat.add_sub_cancel, e2]; rfl, ?_, ⟨rfl, r1, rfl, ?_, r2⟩, rfl, rfl⟩
  · refine perm_range n _ (by show ((liveOf M ow).map (·.2)).length = n; rw [List.length_map]; exact len) fun k hk => ?_
    have hk2 : k < js.length := by omega
    exact List.mem_map.mpr ⟨(js[k], k), inn (List.getElem?_eq_getElem hk2), rfl⟩
  · show ((liveOf M ow).map (·.1)).length = n
    rw [List.length_map]; exact len

/-! ### a set of tuples whose hashes are all different -/
/-- the set at a, L its members in the order of its rows -/
structure Sq (P : Program) (w : World) (h : Heap) (a : Addr) (L : List (Addr × List Int)) (m : Nat) : Prop where
  ex : ∃ o es ep t, h.get? a = some o ∧ o.ExactSet ∧ o.data = .set es ep t ∧ es.toList = rowsOf P w L ∧ Tb m L.length t ∧ t.plain = true ∧ (w.params.followText "set-order" = true ∨ t.led = true)
  whole : Whole m
  room : L.length * 5 < m * 3
theorem rows_size {P : Program} {w : World} {L : List (Addr × List Int)} {es : Array (Int × Value)} (h : es.toList = rowsOf P w L) : es.size = L.length := by
  rw [← Array.length_toList, h]
  exact List.length_map _
section
variable {P : Program} {w : World} {A : Around} {E : Value → Shared → Prop} {s : Shared} {a : Addr} {L : List (Addr × List Int)} {m : Nat}
theorem Sq.keep {h h' : Heap} (R : Sq P w h a L m) (k : ∀ o, h.get? a = some o → h'.get? a = some o) : Sq P w h' a L m := by
  obtain ⟨⟨o, es, ep, t, ho, r⟩, h2, h3⟩ := R
  exact ⟨⟨o, es, ep, t, k o ho, r⟩, h2, h3⟩
abbrev newSetO (w : World) : Obj := { cls := .type "set", dict := none, data := .set #[] 0 (.fresh 0 0 (!w.params.followText "set-order")) }
theorem Sq.new {h : Heap} (e : h.get? a = some (newSetO w)) : Sq P w h a [] 7 := by
  refine ⟨⟨newSetO w, #[], 0, SetTable.fresh 0 0 (!w.params.followText "set-order"), e, ⟨rfl, rfl, rfl⟩, rfl, rfl, ⟨rfl, List.Pairwise.nil, rfl, rfl, by simp [SetTable.fresh]⟩, rfl, ?_⟩, whole7, by decide⟩
  show w.params.followText "set-order" = true ∨ (!w.params.followText "set-order") = true
  cases w.params.followText "set-order" <;> simp
theorem relay_sq {o : Obj} {es : Array (Int × Value)} {ep : Nat} {t : SetTable} {wanted M : Nat} {Q : Unit → Shared → Prop} (ho : s.heap.get? a = some o) (hex : o.ExactSet) (hd : o.data = .set es ep t) (hr : es.toList = rowsOf P w L) (T : Tb m L.length t) (hfit : L.length ≤ m) (pl : t.plain = true)
    (ld : w.params.followText "set-order" = true ∨ t.led = true) (hw : SetTable.sizeAbove wanted = M + 1) (W : Whole M) (room : L.length * 5 < M * 3) (hQ : ∀ h' L', Heap.SameBut a s.heap h' → Sq P w h' a L' M → L'.Perm L → Q () { s with heap := h' }) : wpAny (model P w) A (setRelay a wanted) Q E s := by
  have hes := rows_size hr
  have hWs := W.lad
  obtain ⟨t', order, e, hp, T', el, ep'⟩ := relaid_tb t (hs := es.map (·.1)) hw W (n := L.length) (by rw [Array.size_map]; exact hes) (by omega)
  obtain ⟨L2, r1, r2, _⟩ := order_rows L es order hr hp
  have hs2 : (order.filterMap (es[·]?)).size = L.length := (rows_size r1).trans r2.length_eq
  rw [setRelay_eq]
  refine wpAny_bind (wpAny_setState_of ho hd (by rw [hes]; exact T.fits hfit) ?_)
  dsimp only
  refine wp_if_neg (by rw [hw, sizeLine_eq]; omega) ?_
  refine wpAny_bind ?_
  rw [e]
  dsimp only
  refine wp_if_neg (by rw [hs2, hes]; simp) (wpAny_pure ?_)
  dsimp only
  have sb : Heap.SameBut a s.heap (s.heap.update a (Obj.putSet (order.filterMap (es[·]?)) t')) := Heap.SameBut.update ..
  exact wpAny_storeSet_of ho hd (hQ _ L2 sb ⟨⟨_, _, _, t', store_at ho hd, ⟨hex.1, hex.2.1, hex.2.2⟩, rfl, r1, by rw [r2.length_eq]; exact T', by rw [ep']; exact pl, by rw [el]; exact ld⟩, W, by rw [r2.length_eq]; exact room⟩ r2) (by rw [hs2, sizeLine_eq]; omega)
theorem search_sq {o : Obj} {es : Array (Int × Value)} {ep j : Nat} {t : SetTable} {x : Value} {h : Int} {Q : SetFound → Shared → Prop} (ho : s.heap.get? a = some o) (hd : o.data = .set es ep t) (hf : t.fits es.size = true) (hodd : t.mask % 2 = 1)
    (hp : t.probe (fun i => (es[i]?.map (·.1)).getD 0) h (t.probeStart h) = some (.empty j none)) (hQ : Q (.free j false) s) : wpAny (model P w) A (setSearch a x h true) Q E s := by
  show wpAny (model P w) A (setSearchFrom a x h true (99999 + 1) none) Q E s
  rw [setSearchFrom_succ]
  refine wpAny_bind (wpAny_setState_of ho hd hf ?_)
  dsimp only
  refine wp_if_neg (by unfold SetTable.gaveWay; rw [hodd]; decide) ?_
  rw [show t.probe (fun i => (es[i]?.map (·.1)).getD 0) h (Option.getD none (t.probeStart h)) = some (.empty j none) from hp]
  exact wpAny_pure hQ
theorem full_next {m n : Nat} (lad : m = 7 ∨ m = 31 ∨ m = 127 ∨ m = 511) (h1 : n * 5 < m * 3) (h2 : m * 3 ≤ (n + 1) * 5) (h3 : n < 200) : ∃ M, SetTable.sizeAbove (SetTable.grown (n + 1)) = M + 1 ∧ Whole M ∧ (n + 1) * 5 < M * 3 ∧ n + 1 ≤ m := by
  rcases lad with rfl | rfl | rfl | rfl
  · obtain rfl : n = 4 := by omega
    exact ⟨31, by decide +kernel, whole31, by decide, by decide⟩
  · obtain rfl : n = 18 := by omega
    exact ⟨127, by decide +kernel, whole127, by decide, by decide⟩
  · obtain rfl : n = 76 := by omega
    exact ⟨511, by decide +kernel, whole511, by decide, by decide⟩
  · omega
theorem add_sq {x : Addr} {k : List Int} {Q : Bool → Shared → Prop} (R : Sq P w s.heap a L m) (hx : IsT P w s.heap k x) (hne : ∀ p ∈ L, thash P w p.2 ≠ thash P w k) (few : L.length < 200)
    (hQ : ∀ h' L' m', Heap.SameBut a s.heap h' → Sq P w h' a L' m' → L'.Perm ((x, k) :: L) → Q true { s with heap := h' }) : wpAny (model P w) A (setAddHashed a (.ref x) (thash P w k)) Q E s := by
  obtain ⟨⟨o, es, ep, t, ho, hex, hd, hr, T, pl, ld⟩, W, room⟩ := R
  have hes := rows_size hr
  have hf : t.fits es.size = true := by rw [hes]; exact T.fits (by omega)
  obtain ⟨j, hp, hj, hjm⟩ := T.probe W (by omega) (fun i => (es[i]?.map (·.1)).getD 0) (thash P w k) fun i hi => by
    have e : es[i]? = some (thash P w (L[i]).2, Value.ref (L[i]).1) := by
      rw [← Array.getElem?_toList, hr]
      unfold rowsOf
      rw [List.getElem?_map, List.getElem?_eq_getElem hi]; rfl
    rw [e]
    exact hne _ (List.getElem_mem hi)
  refine wpAny_holding ?_
  show wpAny (model P w) A (setAddHashedIn a (.ref x) (thash P w k) (99999 + 1)) Q E s
  rw [setAddHashedIn_succ]
  refine wpAny_bind (wpAny_setState_of ho hd hf ?_)
  dsimp only
  refine wp_if_neg (by simp [byScan, Value.scannable]) ?_
  refine wpAny_bind (search_sq ho hd hf (by rw [T.msk]; exact W.odd) hp ?_)
  dsimp only
  refine wpAny_bind (wpAny_setState_of ho hd hf ?_)
  dsimp only
  obtain ⟨T1, hple⟩ := T.put hjm hj
  have pl1 : (t.put j).1.plain = true := pl
  have ld1 : w.params.followText "set-order" = true ∨ (t.put j).1.led = true := ld
  generalize t.put j = tp at T1 hple pl1 ld1
  obtain ⟨t1, p⟩ := tp
  dsimp only at T1 hple pl1 ld1 ⊢
  refine wp_if_pos pl1 (wpAny_bind (hashBy_tup hx ?_))
  simp only [if_true]
  have pm := put_perm L p (x, k)
  have hr1 : (SetTable.insertAt es p (thash P w k, Value.ref x)).toList = rowsOf P w (L.take p ++ (x, k) :: L.drop p) := by rw [SetTable.toList_insertAt, rows_put, hr]
  generalize L.take p ++ (x, k) :: L.drop p = L1 at pm hr1
  generalize SetTable.insertAt es p (thash P w k, Value.ref x) = es1 at hr1 ⊢
  have hl1 : L1.length = L.length + 1 := pm.length_eq
  have hes1 := rows_size hr1
  rw [← hl1] at T1
  have ho1 := store_at (es' := es1) (t' := t1) ho hd
  have sb : Heap.SameBut a s.heap (s.heap.update a (Obj.putSet es1 t1)) := Heap.SameBut.update ..
  refine wpAny_bind (wpAny_storeSet_of ho hd ?_ (by rw [hes1, hl1, sizeLine_eq]; omega))
  generalize s.heap.update a (Obj.putSet es1 t1) = h1 at ho1 sb ⊢
  have hfill : t1.fill = L1.length := by
    unfold SetTable.fill
    rw [T1.sz, T1.dm]; rfl
  by_cases hfu : t1.tooFull = true
  · have hge : m * 3 ≤ (L.length + 1) * 5 := by
      unfold SetTable.tooFull at hfu
      rw [hfill, T1.msk, hl1] at hfu
      exact of_decide_eq_true hfu
    obtain ⟨M, hM, WM, hroom, hle⟩ := full_next W.lad room hge few
    refine wp_if_pos (by rw [hfu]; rfl) (wpAny_bind ?_)
    rw [hes]
    exact relay_sq (s := { s with heap := h1 }) ho1 ⟨hex.1, hex.2.1, hex.2.2⟩ rfl hr1 T1 (by omega) pl1 ld1 hM WM (by omega) fun h2 L2 sb2 R2 pm2 => wpAny_pure (hQ h2 L2 M (sb.trans sb2) R2 (pm2.trans pm))
  · have hlt : L1.length * 5 < m * 3 := by
      unfold SetTable.tooFull at hfu
      rw [hfill, T1.msk] at hfu
      have : ¬ L1.length * 5 ≥ m * 3 := fun c => hfu (decide_eq_true c)
      omega
    refine wp_if_neg (by simp only [Bool.not_false, Bool.true_and]; exact hfu) (wpAny_pure (hQ h1 L1 m sb ⟨⟨_, es1, _, t1, ho1, ⟨hex.1, hex.2.1, hex.2.2⟩, rfl, hr1, T1, pl1, ld1⟩, W, hlt⟩ pm))
end
end TL

namespace TL
open PySem L2 PySem.Spec PyProof.Rows
section
variable {P : Program} {w : World} {A : Around} {E : Value → Shared → Prop} {s : Shared}
/-- what a builtin's text must end in -/
def EndsIn (P : Program) (w : World) (A : Around) (R : Result → Shared → Prop) (fin : Fin) (s' : Shared) : Prop := match fin with
  | .done f => R (.ok f) s'
  | .again c' => c'.quiet = true ∧ codeAny (model P w) A c' R s'
abbrev withNew (w : World) (s : Shared) : Shared := { s with heap := s.heap.push (newSetO w) }
/-- set(v), down to what set.__init__ does with the new set -/
theorem call_set1 {v : Value} {Q : Value → Shared → Prop} (h : ∀ R : Result → Shared → Prop, R = wants (fun r s₂ => r = .none ∧ Q (.ref s.heap.objs.size) s₂) E → wpAny (model P w) A.in1.in1 (Builtin.«set.__init__» ⟨[.ref s.heap.objs.size, v], []⟩) (EndsIn P w A.in1 R) (fun e s' => R (.error e) s') (withNew w s)) :
    wpAny (model P w) A (call (.type "set") [v]) Q E s := by
  obtain ⟨c, tl, mro⟩ := F.called_set.mro
  have made := F.called_set.made
  have sub := F.called_set.sub
  refine wpAny_call (codeAny_of_tree (show wpAny _ _ (callAny (.type "set") _) _ _ _ from wpAny_pure ⟨Code.quiet_builtin _ (by decide +kernel), codeAny_builtin F.entry_type_call ?_⟩))
  rw [Around.under_plain (weight_type_call_type "set" [v] []) rfl]
  have nt := F.called_set.notType
  have cc := F.called_set.canCreate
  have ct := F.typeCall_set_1 v
  repeat (any_goals (first | assumption | wp_step))
  refine codeAny_mono (code_set_led1 v (E := E) (Q₁ := fun obj s₁ => obj = .ref s.heap.objs.size ∧ s₁ = withNew w s) ⟨rfl, rfl⟩) fun r s₁ hr => ?_
  match r, hr with
  | .error e, hr => exact hr
  | .ok .next, hr => exact hr.elim
  | .ok .brk, hr => exact hr.elim
  | .ok .cont, hr => exact hr.elim
  | .ok (.ret obj), hr =>
    obtain ⟨rfl, rfl⟩ := hr
    have hT : Shared.TypeIs (withNew w s) (.ref s.heap.objs.size) "set" := ⟨_, Heap.get?_push_size _ rfl, rfl⟩
    have li := F.called_set.init.lookup
    have bi := F.called_set.init.bind (.ref s.heap.objs.size)
    repeat (any_goals (first | assumption | wp_step))
    refine codeAny_mono (codeAny_call_builtin (R := wants (fun r s₂ => r = .none ∧ Q (.ref s.heap.objs.size) s₂) E) F.called_set.init.plain F.entry_set_init (check_set_init_1 hT (h _ rfl))) fun r₂ s₂ hr₂ => ?_
    match r₂, hr₂ with
    | .error e, hr => exact hr
    | .ok .next, hr => exact hr.elim
    | .ok .brk, hr => exact hr.elim
    | .ok .cont, hr => exact hr.elim
    | .ok (.ret r), hr =>
      obtain ⟨rfl, hq⟩ := hr
      repeat (any_goals (first | assumption | wp_step))
/-- what the walk over the tuple leaves as it was -/
structure Kp (h0 : Heap) (s0 s : Shared) : Prop where
  heap : ∀ b o, h0.get? b = some o → s.heap.get? b = some o
  gens : s.gens = s0.gens
  drawn : s.drawn = s0.drawn
  os : s.os = s0.os
theorem isT_kp {h0 : Heap} {s0 s : Shared} (k : Kp h0 s0 s) {p : Addr × List Int} (h : IsT P w h0 p.2 p.1) : IsT P w s.heap p.2 p.1 := isT_keep h k.heap
theorem loop_sq {I S : Addr} {fp wr : List Addr} {G : Array GenState → Array GenState → Prop} {n : Nat} {Pv : Nat → Value → Prop} {St : Nat → Shared → Prop} {R : Result → Shared → Prop} (Wk : WalksS P w A.in1 I fp wr G n Pv St) (hG : ∀ a b, G a b → b = a) (hSf : S ∉ fp)
    (ks : List (Addr × List Int)) (hn : n = ks.length) (few : ks.length ≤ 200) (val : ∀ i v, Pv i v → ∃ p, ks[i]? = some p ∧ v = .ref p.1) (h0 : Heap) (s0 : Shared) (tup : ∀ p ∈ ks, IsT P w h0 p.2 p.1) (nd : (ks.map fun p => thash P w p.2).Nodup)
    (hS0 : h0.get? S = none) (hw0 : ∀ b ∈ wr, h0.get? b = none) (hu : A.in1.units < cLine) (hR : ∀ s' L m, Kp h0 s0 s' → Sq P w s'.heap S L m → L.Perm ks → R (.ok (.ret .none)) s') :
    ∀ (k i : Nat) (s : Shared), n - i = k → i ≤ n → St i s → Kp h0 s0 s → (∃ L m, Sq P w s.heap S L m ∧ L.Perm (ks.take i)) → codeAny (model P w) A (.builtin "set.update.loop" ⟨[.ref S, .ref I], []⟩) R s := by
  have hSw : S ∉ wr := fun c => hSf (Wk.sub S c)
  have go : ∀ {s s' : Shared}, Moved wr G s s' → Kp h0 s0 s → Kp h0 s0 s' := fun hm q =>
    ⟨fun b o e => hm.heap b o (fun c => by rw [hw0 b c] at e; cases e) (q.heap b o e), (hG _ _ hm.gens).trans q.gens, hm.drawn.trans q.drawn, hm.os.trans q.os⟩
  intro k
  induction k with
  | zero =>
    rintro i s hk hi st kp ⟨L, m, hS, pm⟩
    obtain rfl : i = n := by omega
    refine codeAny_builtin F.entry_set_update_loop ?_
    rw [Around.under_plainId F.plain_set_update_loop]
    refine wpAny_bind (m := pyNext (.ref I)) (Wk.done s _ _ st fun s' hm => ?_)
    rw [hn, List.take_length] at pm
    exact wpAny_pure (hR s' L m (go hm kp) (hS.keep fun o e => hm.heap S o hSw e) pm)
  | succ k ih =>
    rintro i s hk hi st kp ⟨L, m, hS, pm⟩
    have hlt : i < n := by omega
    refine codeAny_builtin F.entry_set_update_loop ?_
    rw [Around.under_plainId F.plain_set_update_loop]
    refine wpAny_bind (m := pyNext (.ref I)) (Wk.item i s _ _ hlt st fun v s' hP st' hm => ?_)
    obtain ⟨p, hp, rfl⟩ := val i v hP
    have kp' := go hm kp
    have hpm : p ∈ ks := List.mem_of_getElem? hp
    have hil : i < ks.length := by omega
    have fresh : ∀ q ∈ L, thash P w q.2 ≠ thash P w p.2 := fun q hq e => by
      obtain ⟨j, hj⟩ := List.getElem?_of_mem (pm.mem_iff.mp hq)
      have hji : j < i := by
        have := (List.getElem?_eq_some_iff.mp hj).1
        rw [List.length_take] at this
        omega
      rw [List.getElem?_take_of_lt hji] at hj
      have hjl : j < ks.length := by omega
      have e1 : ks[j] = q := by rw [List.getElem?_eq_getElem hjl] at hj; exact Option.some.inj hj
      have e2 : ks[i] = p := by rw [List.getElem?_eq_getElem hil] at hp; exact Option.some.inj hp
      refine List.pairwise_iff_getElem.mp nd j i (by rw [List.length_map]; exact hjl) (by rw [List.length_map]; exact hil) hji ?_
      rw [List.getElem_map, List.getElem_map, e1, e2]
      exact e
    have hll : L.length < 200 := by
      rw [pm.length_eq, List.length_take]
      omega
    refine wpAny_bind (m := holding [Value.ref p.1] (setAdd S (.ref p.1))) (wpAny_holding (wpAny_holding (wpAny_bind (wpAny_pyHash_tuple hu (isT_kp kp' (tup p hpm)) ?_))))
    refine add_sq (s := { s' with toks := s'.toks + (p.2.length + 1) }) (hS.keep fun o e => hm.heap S o hSw e) (isT_kp kp' (tup p hpm)) fresh hll fun h' L' m' sb R' pm' => ?_
    have keepS : ∀ b o, b ≠ S → s'.heap.get? b = some o → h'.get? b = some o := fun b o hb e => (sb.2 b hb).trans e
    refine wpAny_pure ⟨plainId_quiet F.plain_set_update_loop _, ih (i + 1) _ (by omega) hlt (Wk.frame _ s' h' _ st' (Nat.le_add_right _ _) fun b hb o e => keepS b o (fun c => hSf (c ▸ hb)) e) ⟨fun b o e => keepS b o (fun c => by rw [c, hS0] at e; cases e) (kp'.heap b o e), kp'.gens, kp'.drawn, kp'.os⟩ ⟨L', m', R', pm'.trans ?_⟩⟩
    rw [List.take_add_one, hp]
    exact ((pm.cons p).trans (List.perm_append_singleton p _).symm)
theorem set_pairs {l : Addr} {items : Array Value} (ks : List (Addr × List Int)) {Q : Value → Shared → Prop} (hh : A.handled = none) (hl : s.heap.IsTuple l items) (hit : items.toList = ks.map fun p => Value.ref p.1) (tup : ∀ p ∈ ks, IsT P w s.heap p.2 p.1) (nd : (ks.map fun p => thash P w p.2).Nodup) (few : ks.length ≤ 200) (hu : A.units + 3 < cLine)
    (h : ∀ (h' : Heap) (tk : Nat) L m, Sq P w h' s.heap.objs.size L m → L.Perm ks → (∀ b o, s.heap.get? b = some o → h'.get? b = some o) → Q (.ref s.heap.objs.size) { s with heap := h', toks := tk }) : wpAny (model P w) A (call (.type "set") [.ref l]) Q E s := by
  refine call_set1 fun R hR => ?_
  obtain ⟨ol, hol, hcl, nl, hdl⟩ := hl
  have hol1 : (s.heap.push (newSetO w)).get? l = some ol := Heap.get?_push_of_some _ hol
  have hl1 : (s.heap.push (newSetO w)).IsTuple l items := ⟨ol, hol1, hcl, nl, hdl⟩
  have hT : Shared.TypeIs (withNew w s) (.ref l) "tuple" := ⟨ol, hol1, hcl⟩
  have sub1 := F.sub_tuple_set
  have sub2 := F.sub_tuple_frozenset
  have ned : (Value.type "tuple" == Value.type "dict") = false := by decide
  unfold Builtin.«set.__init__» noKeywords Builtin.Frozenset.updateFrom
  obtain ⟨ocls, odict, odata, oslots⟩ := ol
  simp only at hcl hdl
  subst hcl; subst hdl
  generalize hPI : pyIter = PI
  wp_walk
  subst hPI
  have hz : (s.heap.push (newSetO w)).objs.size = s.heap.objs.size + 1 := Heap.size_push ..
  have hlS : l < s.heap.objs.size := Heap.lt_size hol
  have none_of : ∀ b, s.heap.objs.size ≤ b → s.heap.get? b = none := fun b hb => by
    cases q : s.heap.get? b with
    | none => rfl
    | some o => exact absurd (Heap.lt_size q) (Nat.not_lt.mpr hb)
  refine wpAny_pyIter_tuple hl1 ?_
  refine wpAny_bind (wpAny_runValue ?_)
  have notin : s.heap.objs.size ∉ [(s.heap.push (newSetO w)).objs.size, l] := fun c => by
    rw [hz] at c
    rcases List.mem_cons.mp c with c | c
    · exact absurd c (Nat.ne_of_lt (Nat.lt_succ_self _))
    · exact absurd (List.mem_singleton.mp c) (Nat.ne_of_gt hlS)
  have hsz : items.size = ks.length := by rw [← Array.length_toList, hit, List.length_map]
  refine loop_sq (A := A.in1.in1) (Walks.tuple (by simp [hh]) _ l (by rw [hz]; exact Nat.ne_of_lt (Nat.lt_succ_of_lt hlS)) items).toS (fun a b e => e) notin ks hsz few ?_ s.heap s tup nd (none_of _ (Nat.le_refl _)) (fun b hb => none_of b (by rw [List.mem_singleton.mp hb, hz]; exact Nat.le_succ _)) hu ?_ (items.size - 0) 0 _ (by omega) (Nat.zero_le _) ⟨⟨_, Heap.get?_push_size _ rfl, rfl, rfl⟩, hl1.push _⟩ ⟨fun b o e => Heap.get?_push_of_some _ (Heap.get?_push_of_some _ e), rfl, rfl, rfl⟩ ⟨[], 7, Sq.new (Heap.get?_push_of_some _ (Heap.get?_push_size _ rfl)), by simp⟩
  · intro i v hv
    have q : items.toList[i]? = some v := by rw [Array.getElem?_toList]; exact hv
    rw [hit, List.getElem?_map] at q
    cases e : ks[i]? with
    | none => rw [e] at q; cases q
    | some p => rw [e] at q; exact ⟨p, rfl, (Option.some.inj q).symm⟩
  · rintro ⟨h', g', d', tk', os'⟩ L m kp R' pm
    obtain ⟨k1, rfl, rfl, rfl⟩ := kp
    refine wpAny_pure (wpAny_pure ?_)
    subst hR
    exact ⟨rfl, h h' tk' L m R' pm k1⟩
/-! ### sorted(set) -/
theorem pair_of {h : Heap} {x y : Int} {b : Addr} (c : IsT P w h [x, y] b) : Srt.IsPair h (.ref b) x y := by
  obtain ⟨o, items, n, ho, hc, hd, hi⟩ := c
  obtain ⟨l, hl⟩ : ∃ l, items.toList = l := ⟨_, rfl⟩
  rw [hl] at hi
  cases hi with
  | @cons k0 v' ks vs h1 h2 =>
    cases h2 with
    | @cons k1 v2 ks2 vs2 h3 h4 =>
      cases h4
      obtain ⟨t, rfl⟩ := Value.isInt_shape h1
      obtain ⟨u, rfl⟩ := Value.isInt_shape h3
      exact ⟨b, o, t, u, n, rfl, ho, hc, by rw [hd, ← hl]⟩
/-- the pair that a value is -/
noncomputable def keyOf (h : Heap) (v : Value) : Int × Int := Classical.epsilon fun q => Srt.IsPair h v q.1 q.2
theorem keyOf_ok {h : Heap} {v : Value} {x y : Int} (c : Srt.IsPair h v x y) : Srt.IsPair h v (keyOf h v).1 (keyOf h v).2 := Classical.epsilon_spec (p := fun q : Int × Int => Srt.IsPair h v q.1 q.2) ⟨(x, y), c⟩
theorem keyOf_eq {h : Heap} {v : Value} {x y : Int} (c : Srt.IsPair h v x y) : keyOf h v = (x, y) := by
  obtain ⟨a1, o1, t1, u1, n1, e1, g1, _, d1⟩ := keyOf_ok c
  obtain ⟨a2, o2, t2, u2, n2, e2, g2, _, d2⟩ := c
  rw [e1] at e2
  cases e2
  rw [g1] at g2
  cases g2
  rw [d1] at d2
  injection d2 with d2 _
  have d3 := congrArg Array.toList d2
  injection d3 with d4 d5
  injection d5 with d6 _
  injection d4 with d4
  injection d6 with d6
  exact Prod.ext d4 d6
theorem sorted_sq {a : Addr} {L : List (Addr × List Int)} {m : Nat} {Q : Value → Shared → Prop} (R : Sq P w s.heap a L m) (hh : A.handled = none) (few : L.length ≤ 200) (tup : ∀ p ∈ L, ∃ x y : Int, p.2 = [x, y] ∧ IsT P w s.heap p.2 p.1)
    (hQ : ∀ s' p (out : List Value) (c : Nat), (∀ b o, s.heap.get? b = some o → s'.heap.get? b = some o) → s'.gens = s.gens → s'.os = s.os → s.heap.objs.size ≤ p → s'.heap.get? p = some (seqObj "list" out.toArray c) → out.Perm (L.map fun q => Value.ref q.1) →
      out.Pairwise (fun v u => SrtO.lexB (keyOf s.heap u) (keyOf s.heap v) = false) → Q (.ref p) s') : wpAny (model P w) A (call (.builtin "sorted") [.ref a]) Q E s := by
  obtain ⟨⟨o, es, ep, t, ho, hex, hd, hr, T, pl, ld⟩, W, room⟩ := R
  have hes := rows_size hr
  have hwl := W.lad
  refine Calls.call_function_entry kind_sorted plain_sorted entry_sorted (args_sorted1 _) ?_
  unfold Builtin.«sorted»
  refine wpAny_bind (m := checkCount "sorted" 1 1 _) (wpAny_pure (wpAny_bind (collect_set (A := A.in1) hh ⟨o, ho, hex.1, hd⟩ (by rw [hes]; exact T.fits (by omega)) (by unfold scanBound; omega) T.up ld fun s1 vs k1 hz g1 o1 pm => ?_)))
  have pm : vs.Perm (L.map fun q => Value.ref q.1) := by
    rw [hr] at pm
    unfold rowsOf at pm
    rw [List.map_map] at pm
    exact pm
  have isp : ∀ v ∈ vs, ∃ x y, Srt.IsPair s.heap v x y := fun v hv => by
    obtain ⟨q, hq, rfl⟩ := List.mem_map.mp (pm.mem_iff.mp hv)
    obtain ⟨x, y, e, c⟩ := tup q hq
    rw [e] at c
    exact ⟨x, y, pair_of c⟩
  have hvl : vs.length ≤ sizeLine := by
    rw [pm.length_eq, List.length_map, sizeLine_eq]
    omega
  refine wpAny_bind (wpAny_newList ?_ hvl)
  have hoL : (s1.heap.push (seqObj "list" vs.toArray 0)).get? s1.heap.objs.size = some (seqObj "list" vs.toArray 0) := Heap.get?_push_size _ rfl
  refine wpAny_bind (wpAny_holding (wpAny_call_entry slot_list_sort ⟨_, hoL, rfl⟩ entry_list_sort (SrtO.list_sort_ord (s := { s1 with heap := s1.heap.push (seqObj "list" vs.toArray 0) }) (SrtO.swo_lex (keyOf s.heap)) hoL hvl (fun h2 => ?_) fun out hs hb => ⟨_, rfl, ?_⟩) (args_list_sort _)))
  · refine SrtO.pairs_sortableO (s := { s1 with heap := s1.heap.push (seqObj "list" vs.toArray 0) }) (by omega) (fun v hv => ?_) fun o e c => ?_
    · obtain ⟨x, y, c⟩ := isp v hv
      exact (keyOf_ok c).keeps fun b o e _ => Heap.get?_push_of_some _ (k1 b o e)
    · have e : some o = some (seqObj "list" vs.toArray 0) := e.symm.trans hoL
      cases e
      exact absurd (Value.type.inj c) (by decide)
  · obtain ⟨c, hc⟩ := sortedHeap_at (out := out.toArray) hoL
    refine wpAny_pure ⟨_, rfl, hQ _ s1.heap.objs.size out c (fun b u e => ?_) g1 o1 hz hc (hb.perm.trans pm) hs⟩
    have q := k1 b u e
    have hlt := Heap.lt_size q
    show (sortedHeap (s1.heap.push (seqObj "list" vs.toArray 0)) s1.heap.objs.size vs out.toArray).get? b = some u
    rw [sortedHeap_old (Nat.ne_of_lt hlt) (by rw [size_push']; exact Nat.lt_succ_of_lt hlt)]
    exact Heap.get?_push_of_some _ q
end
/-! ### .. in the layer -/
def SqO (P : Program) (w : World) (a : Addr) (L : List (Addr × List Int)) (m : Nat) : HO := .ext fun h => Sq P w h a L m
theorem sqO_new {P : Program} {w : World} {H : Hp} {h : Heap} {a : Addr} {L : List (Addr × List Int)} {m : Nat} (R : Sq P w h a L m) : ObjOk P w H h a (SqO P w a L m) := by
  obtain ⟨o, _, _, _, ho, _⟩ := R.ex
  exact ⟨R, ⟨o, ho⟩, fun h1 h2 p k => Sq.keep p k⟩
section
variable {X : Cx}
theorem cr_setQ (hc : X.calm = true) (hu : X.A.units + 64 < cLine) : CallR X (.type "set") (fun xs H Q => ∃ (l : Addr) (ks : List (Addr × List Int)), xs = [V.ref l] ∧ SqT X.K H l (ks.map fun p => V.ref p.1) ∧ (∀ p ∈ ks, SqT X.K H p.1 (p.2.map V.int)) ∧ (ks.map fun p => thash X.prog X.w p.2).Nodup ∧ ks.length ≤ 200 ∧
    ∀ a L m, H a = none → L.Perm ks → Q (.ref a) (upd H a (SqO X.prog X.w a L m))) := by
  intro pins s σ H xs us Q I r h
  obtain ⟨l, ks, rfl, hl, hk, nd, hf, q⟩ := h
  rw [Vals.ref1 r]
  obtain ⟨its, rv, hT, _⟩ := I.tuple hl
  have hfree : H s.heap.objs.size = none := I.hok.fresh (Nat.le_refl _)
  exact set_pairs (P := X.prog) (w := X.w) ks (I.ok.hd hc) (show s.heap.IsTuple l its.toArray from hT) (by simpa using refs_of_vals rv) (fun p hp => I.isT (hk p hp)) nd hf (by omega) fun h' tk L m R pm k =>
    ⟨.ref s.heap.objs.size, _, I.laid (t' := tk) k (Nat.le_refl _) (sqO_new R), rfl, q _ L m hfree pm⟩
theorem perm_unmap {α β : Type} {f : α → β} : ∀ {zs vs : List β}, zs.Perm vs → ∀ {xs : List α}, vs = xs.map f → ∃ us : List α, us.Perm xs ∧ zs = us.map f := by
  intro zs vs h
  induction h with
  | nil => intro xs hx; exact ⟨xs, .refl _, hx⟩
  | cons v p ih =>
    intro xs hx
    cases xs with
    | nil => cases hx
    | cons x xs =>
      injection hx with h1 h2
      obtain ⟨us, p1, p2⟩ := ih h2
      exact ⟨x :: us, p1.cons x, by rw [List.map_cons, h1, p2]⟩
  | swap v u l =>
    intro xs hx
    match xs, hx with
    | x :: y :: xs, hx =>
      injection hx with h1 h2
      injection h2 with h2 h3
      exact ⟨y :: x :: xs, .swap _ _ _, by rw [List.map_cons, List.map_cons, h1, h2, h3]⟩
    | [_], hx => injection hx with _ h2; cases h2
  | trans p q ih1 ih2 =>
    intro xs hx
    obtain ⟨us, p1, p2⟩ := ih2 hx
    obtain ⟨ws, p3, p4⟩ := ih1 p2
    exact ⟨ws, p3.trans p1, p4⟩
def pr2 : List Int → Int × Int
  | [x, y] => (x, y)
  | _ => (0, 0)
theorem cr_sortQ (hc : X.calm = true) : CallR X (.builtin "sorted") (fun vs H Q => ∃ (a : Addr) (L : List (Addr × List Int)) (m : Nat), vs = [V.ref a] ∧ H a = some (SqO X.prog X.w a L m) ∧ L.length ≤ 200 ∧ (∀ p ∈ L, ∃ x y : Int, p.2 = [x, y] ∧ SqT X.K H p.1 [V.int x, V.int y]) ∧
    ∀ (L' : List (Addr × List Int)) (p : Addr), L'.Perm L → L'.Pairwise (fun q r => SrtO.lexB (pr2 r.2) (pr2 q.2) = false) → H p = none → Q (.ref p) (upd H p (.lst (L'.map fun q => V.ref q.1)))) := by
  intro pins s σ H vs us Q I r h
  obtain ⟨a, L, m, rfl, ha, few, hp, q⟩ := h
  rw [Vals.ref1 r]
  have tup : ∀ p ∈ L, ∃ x y : Int, p.2 = [x, y] ∧ IsT X.prog X.w s.heap p.2 p.1 := fun p hm => by
    obtain ⟨x, y, e, c⟩ := hp p hm
    exact ⟨x, y, e, I.isT (by rw [e]; exact c)⟩
  refine sorted_sq (P := X.prog) (w := X.w) (show Sq X.prog X.w s.heap a L m from (I.hok a _ ha).1) (I.ok.hd hc) few tup fun s' p out c k g o hz hg pm pw => ?_
  obtain ⟨L', pL, rfl⟩ := perm_unmap pm rfl
  have hfree : H p = none := I.hok.fresh hz
  have hlen : (L'.map fun q => V.ref q.1).length ≤ sizeLine := by
    rw [List.length_map, pL.length_eq, sizeLine_eq]
    omega
  have J : Inv X pins σ (upd H p (.lst (L'.map fun q => V.ref q.1))) { s with heap := s'.heap, gens := s'.gens, drawn := s'.drawn, toks := s'.toks } :=
    I.call (ch := []) (Un.laid k hz hfree) (I.hok.laid k hz ⟨hlen, _, c, vals_of_refs L', hg⟩) (by rw [g]; exact I.bare) fun _ z => nomatch z
  have e : s' = { s with heap := s'.heap, gens := s'.gens, drawn := s'.drawn, toks := s'.toks } := by
    obtain ⟨h1, h2, h3, h4, h5⟩ := s'
    obtain ⟨g1, g2, g3, g4, g5⟩ := s
    cases o
    rfl
  rw [e]
  refine ⟨.ref p, _, J, rfl, q L' p pL ?_ hfree⟩
  refine List.Pairwise.imp_of_mem (fun {x y} hx hy h => ?_) (List.pairwise_map.mp pw)
  have key : ∀ z ∈ L', keyOf s.heap (.ref z.1) = pr2 z.2 := fun z hz => by
    obtain ⟨u, v, e1, c⟩ := tup z (pL.mem_iff.mp hz)
    rw [e1] at c ⊢
    exact keyOf_eq (pair_of c)
  rw [← key x hx, ← key y hy]
  exact h
end
/-! ### .. of trees -/
abbrev ip (p : Nat × Nat) : List Int := [(p.1 : Int), (p.2 : Int)]
theorem reps_pairs {K : PySem.W.Frag} {M : Hp} : ∀ {l : List (Nat × Nat)} {vs : List V}, Reps K M (l.map eP) vs → ∃ ks : List (Addr × List Int), vs = ks.map (fun q => V.ref q.1) ∧ ks.map (·.2) = l.map ip ∧ ∀ q ∈ ks, ∃ p ∈ l, q.2 = ip p ∧ M q.1 = some (.tup [.int p.1, .int p.2])
  | [], _, h => by cases h; exact ⟨[], rfl, rfl, by simp⟩
  | p :: l, _, ⟨v, r, rfl, h2, h3⟩ => by
    obtain ⟨ks, rfl, e2, e3⟩ := reps_pairs h3
    obtain ⟨a, vs, rfl, h4, _, _, rfl, rfl, _, _, rfl, rfl, rfl⟩ := h2
    refine ⟨(a, ip p) :: ks, rfl, by rw [List.map_cons, e2]; rfl, fun q hq => ?_⟩
    rcases List.mem_cons.mp hq with rfl | hq
    · exact ⟨p, by simp, rfl, h4⟩
    · obtain ⟨p', h5, h6⟩ := e3 q hq
      exact ⟨p', List.mem_cons_of_mem _ h5, h6⟩
theorem pairs_reps {K : PySem.W.Frag} {M : Hp} : ∀ {l : List (Nat × Nat)} {ks : List (Addr × List Int)}, ks.map (·.2) = l.map ip → (∀ q ∈ ks, ∃ p : Nat × Nat, q.2 = ip p ∧ M q.1 = some (.tup [.int p.1, .int p.2])) → Reps K M (l.map eP) (ks.map fun q => V.ref q.1)
  | [], [], _, _ => rfl
  | [], _ :: _, e, _ => by cases e
  | _ :: _, [], e, _ => by cases e
  | p :: l, q :: ks, e, h => by
    injection e with e1 e2
    obtain ⟨p', h1, h2⟩ := h q (by simp)
    have e1 : ip p' = ip p := h1.symm.trans e1
    injection e1 with e3 e4
    injection e4 with e4 _
    rw [e3, e4] at h2
    exact ⟨_, _, rfl, ⟨q.1, _, rfl, h2, _, _, rfl, rfl, _, _, rfl, rfl, rfl⟩, pairs_reps e2 fun q' hq' => h q' (List.mem_cons_of_mem _ hq')⟩
def lt2 (p q : Nat × Nat) : Prop := p.1 < q.1 ∨ (p.1 = q.1 ∧ p.2 < q.2)
theorem lex_ip {p q : Nat × Nat} : SrtO.lexB (pr2 (ip q)) (pr2 (ip p)) = false ↔ ¬ lt2 q p := by
  show SrtO.lexB ((q.1 : Int), (q.2 : Int)) ((p.1 : Int), (p.2 : Int)) = false ↔ _
  rw [SrtO.lexB_no]
  unfold lt2
  show ¬ ((q.1 : Int) < p.1 ∨ ((q.1 : Int) = p.1 ∧ (q.2 : Int) < p.2)) ↔ _
  omega
theorem ip_inj {p q : Nat × Nat} (e : ip p = ip q) : p = q := by
  injection e with e1 e2
  injection e2 with e2 _
  exact Prod.ext (by omega) (by omega)
/-- sorted(set(t)), t a tuple of pairs in order already -/
theorem el_ssetP {X : Cx} {r : Rho} {a : Expr} {p p2 pos pos2 : Pos} {l : List (Nat × Nat)} (ha : EV X r a (.tup (l.map eP))) (pw : l.Pairwise lt2) (hb : ∀ q ∈ l, q.1 < 12 ∧ q.2 < 12) (hl : l.length ≤ 200) (hc : X.calm = true) (hu : X.A.units + 64 < cLine) (hm : X.mg "sorted" = none) (hm2 : X.mg "set" = none) (hg : Gl X "sorted" := by rfl) (hg2 : Gl X "set" := by rfl)
    (hst : starEach [a] X.env = (false, eval a X.env) :: starEach [] X.env := by rfl) (hst2 : starEach [.Call (.Name "set" p2) [a] [] pos2] X.env = (false, eval (.Call (.Name "set" p2) [a] [] pos2) X.env) :: starEach [] X.env := by rfl) :
    EL X r (.Call (.Name "sorted" p) [.Call (.Name "set" p2) [a] [] pos2] [] pos) (l.map eP) := fun M0 H0 =>
  pe_weak (pe_callB (cr_sortQ hc) hg hm (by decide +kernel) (pa_cons (pe_callTy (cr_setQ hc hu) hg2 hm2 (by decide +kernel) (pa_cons (ha M0 H0) pa_nil hst) (he := hst)) pa_nil hst2) (he := hst2)) fun σ H Q ⟨M, w, k⟩ => ⟨M, w, fun v M1 H1 e1 r1 => by
    obtain ⟨q, vs, rfl, g2, g3⟩ := r1
    obtain ⟨ks, rfl, kl, kt⟩ := reps_pairs g3
    have kn : ks.length = l.length := by have := congrArg List.length kl; rwa [List.length_map, List.length_map] at this
    refine ⟨q, ks, rfl, SqT.of (e1.s _ _ g2), fun z hz => ?_, ?_, by omega, fun q2 L m hq pm => ⟨q2, L, m, rfl, upd_same, by rw [pm.length_eq]; omega, fun z hz => ?_, fun L' q3 pm' pw' hq3 => ?_⟩⟩
    · obtain ⟨p, _, h1, h2⟩ := kt z hz
      rw [h1]
      exact SqT.of (e1.s _ _ h2)
    · have e : (ks.map fun p => thash X.prog X.w p.2) = l.map fun p => hash2 p.1 p.2 := by
        rw [show (ks.map fun p => thash X.prog X.w p.2) = (ks.map (·.2)).map (thash X.prog X.w) by rw [List.map_map]; rfl, kl, List.map_map]
        rfl
      rw [e]
      refine List.pairwise_map.mpr (List.Pairwise.imp_of_mem (fun {x y} hx hy h c => ?_) pw)
      obtain ⟨c1, c2⟩ := hash2_inj (hb x hx).1 (hb x hx).2 (hb y hy).1 (hb y hy).2 c
      unfold lt2 at h
      omega
    · obtain ⟨p, _, h1, h2⟩ := kt z (pm.mem_iff.mp hz)
      refine ⟨_, _, h1, SqT.of ?_⟩
      have h3 := e1.s _ _ h2
      rw [upd_ne (ne_of_none h3 hq)]
      exact h3
    · have hks : ∀ z ∈ L', z ∈ ks := fun z hz => pm.mem_iff.mp (pm'.mem_iff.mp hz)
      have e2 : L'.map (·.2) = l.map ip := by
        refine List.Perm.eq_of_pairwise (le := fun x y => SrtO.lexB (pr2 y) (pr2 x) = false) (fun x y hx hy z1 z2 => ?_) (List.pairwise_map.mpr pw') (List.pairwise_map.mpr (pw.imp fun {x y} h => lex_ip.mpr fun c => ?_)) (((pm'.trans pm).map _).trans (by rw [kl]))
        · obtain ⟨z, hz, rfl⟩ := List.mem_map.mp hx
          obtain ⟨u, hu', rfl⟩ := List.mem_map.mp hy
          obtain ⟨p, _, h1, _⟩ := kt z (hks z hz)
          rw [h1] at z1 z2 ⊢
          have a1 := lex_ip.mp z1
          have a2 := lex_ip.mp z2
          unfold lt2 at a1 a2
          rw [show p = u from Prod.ext (by omega) (by omega)]
        · unfold lt2 at h c
          omega
      have h0 : H1 q3 = none := by
        by_cases c : q3 = q2
        · subst c; rw [upd_same] at hq3; cases hq3
        · rw [upd_ne c] at hq3; exact hq3
      have x1 := e1.trans (Ext.own (o := SqO X.prog X.w q2 L m) e1.s hq)
      refine k q3 _ M1 _ (x1.trans (Ext.own x1.s hq3)) (Same.free e1.h h0) (Same.free e1.s h0) upd_same (pairs_reps e2 fun z hz => ?_)
      obtain ⟨p, _, h1, h2⟩ := kt z (hks z hz)
      exact ⟨p, h1, h2⟩⟩
end TL

/-! the end: every def of the top, one upon the other -/
namespace TL
open PySem PySem.Spec PyProof.Rows L2
theorem ok_ascP {P : Program} {w : World} {K : PySem.W.Frag} {mg : Str → Option Value} {base : Heap} (b : Bi mg) (D : DefAt K mg "ascending" (top 4) ["values"]) : DefOk P w K mg base "ascending" 1 ["values"] SAscP := by
  refine D.ok (N := ["values"]) ⟨rfl, rfl, rfl, by decide +kernel, rfl, by decide +kernel, by decide +kernel⟩ (fun _ _ ⟨_, _, _, _, e, _⟩ => by rw [e]; rfl) ?_
  rintro f cdv A outer st H E hr _ _ ⟨l, h1, h2, h3, rfl, rfl⟩
  exact st_ret (ev_tupL (EL.o (el_ssetP (ev_var 0 rfl) h1 h2 (by omega) rfl hr.units b.sorted b.set)) b.tuple) rfl
theorem toFun {K : PySem.W.Frag} {x qual : Str} {st : Stmt} {f : Addr} {fd : FuncData} (F : FunD K x qual (defArgs st) (defBody st) (defScope st) [] [] f fd) : Fun K x qual st f fd := by
  obtain ⟨⟨oc, od, dV, kV, doc, pm, an, cdv, ct, osl, e, lk, hcd, hD, _⟩, kp⟩ := F
  rcases hD with ⟨_, rfl⟩ | ⟨h, _⟩
  · exact ⟨⟨oc, od, kV, doc, pm, an, cdv, ct, osl, e, lk, hcd⟩, kp⟩
  · exact absurd rfl h
theorem hs_fun {K : PySem.W.Frag} (e : hsFn K = hsVal) (c : hsCode K = true) (kp : PySem.W.keepIn K (.ref (hsG K)) = true) : ∃ fd, FunD K "houses" "Street.houses" (defArgs (inC 28 2)) (defBody (inC 28 2)) (defScope (inC 28 2)) [] [] (hsG K) fd := by
  unfold hsFn at e
  unfold hsCode at c
  cases q : K.lookup (hsG K) with
  | none => rw [q] at c; cases c
  | some o =>
    obtain ⟨oc, od, dt, osl⟩ := o
    rw [q] at c e
    cases dt with
    | func fd =>
      obtain ⟨n1, n2, n3, n4, n5, n6, n7, n8, n9, n10, n11, n12, n13, n14, n15⟩ := fd
      have e2 : (some (n1, n2, n3, n4, n5, n6, n7, n15) : He.FnW) = hsVal := e
      unfold hsVal at e2
      simp only [Option.some.injEq, Prod.mk.injEq] at e2
      obtain ⟨rfl, rfl, rfl, rfl, rfl, rfl, rfl, rfl⟩ := e2
      have c3 : (PySem.W.codeIn K n13 "Street.houses" && (He.dflB K n8 [] && He.kwdB K n9 [])) = true := c
      obtain ⟨k1, k2⟩ := Bool.and_eq_true_iff.mp c3
      obtain ⟨k3, k4⟩ := Bool.and_eq_true_iff.mp k2
      exact ⟨_, ⟨oc, od, n8, n9, n10, n11, n12, n13, n14, osl, rfl, q, k1, He.dflB_ok k3, He.kwdB_ok k4⟩, kp⟩
    | _ => cases c
section
variable {P : Program} {w : World} {K : PySem.W.Frag} {mg : Str → Option Value} {base h : Heap}
theorem defAt (X : K.In h) (G : h.Ns mainGlobals mg) (c : He.SaysD faL fnL K) (x : Str) (i : Nat) (ps : List Str) (j : Nat) (hd : fnL[j]? = some (dG x i)) (hf : faL[j]? = some (.glo x))
    (hb : ∀ (kV doc pm : Value) (an : Option Addr) (cdv ct : Value) (us : List Value), us.length = ps.length → bindArgs (PySem.W.fnOf x x (defArgs (top i)) (defBody (top i)) (defScope (top i)) .none kV doc pm an cdv ct) ⟨us, []⟩ = pure (ps.zip us)) : DefAt K mg x (top i) ps := by
  obtain ⟨fd, F⟩ := c.def_ j hd
  have F : FunD K x x (defArgs (top i)) (defBody (top i)) (defScope (top i)) [] [] (He.ga K x) fd := F
  exact ⟨He.ga K x, fd, toFun F, He.glo_ok X G (c.fact j hf), F.bindsN hb⟩
theorem metAt (c : He.SaysD faL fnL K) (m qual : Str) (i : Nat) (ps : List Str) (j jm : Nat) (hd : fnL[j]? = some (dM "Standing" m qual 34 i)) (hf : faL[jm]? = some (.meth "Standing" m))
    (hb : ∀ (kV doc pm : Value) (an : Option Addr) (cdv ct : Value) (us : List Value), us.length = ps.length → bindArgs (PySem.W.fnOf m qual (defArgs (inC 34 i)) (defBody (inC 34 i)) (defScope (inC 34 i)) .none kV doc pm an cdv ct) ⟨us, []⟩ = pure (ps.zip us)) : MetAt K (He.ga K "Standing") m qual (inC 34 i) ps := by
  obtain ⟨fd, F⟩ := c.def_ j hd
  have F : FunD K m qual (defArgs (inC 34 i)) (defBody (inC 34 i)) (defScope (inC 34 i)) [] [] (He.ma K (He.ga K "Standing") m) fd := F
  exact ⟨He.ma K (He.ga K "Standing") m, fd, toFun F, He.meth_ok (c.fact jm hf), F.bindsN hb⟩
theorem ok_all (X : K.In h) (G : h.Ns mainGlobals mg) (cc : obsP K = valP) {f : Addr} {fd : FuncData} (F : Fun K "law" "law" (top 66) f fd) : FnOk P w K mg base CX0 11 f fd ["_law_script"] (spT K SLaw) := by
  have c : He.SaysD faL fnL K := congrArg (fun z : AlP => z.1) cc
  have cm : more K = true := congrArg (fun z : AlP => z.2.1) cc
  have ch : hsFn K = hsVal := congrArg (fun z : AlP => z.2.2) cc
  obtain ⟨q1, cm⟩ := Bool.and_eq_true_iff.mp cm
  obtain ⟨q2, cm⟩ := Bool.and_eq_true_iff.mp cm
  obtain ⟨q3, cm⟩ := Bool.and_eq_true_iff.mp cm
  obtain ⟨q4, cm⟩ := Bool.and_eq_true_iff.mp cm
  obtain ⟨q5, cm⟩ := Bool.and_eq_true_iff.mp cm
  obtain ⟨q6, q7⟩ := Bool.and_eq_true_iff.mp cm
  have b : Bi mg := ⟨He.free_ok X G (c.fact 47 rfl), He.free_ok X G (c.fact 48 rfl), He.free_ok X G (c.fact 49 rfl), He.free_ok X G (c.fact 50 rfl), He.free_ok X G (c.fact 51 rfl), He.free_ok X G (c.fact 52 rfl), He.free_ok X G (c.fact 53 rfl), He.free_ok X G (c.fact 54 rfl), He.free_ok X G (c.fact 55 rfl), He.free_ok X G (c.fact 56 rfl), He.free_ok X G (c.fact 57 rfl), He.free_ok X G (c.fact 58 rfl), He.free_ok X G (c.fact 59 rfl), He.free_ok X G (c.fact 60 rfl), He.free_ok X G (c.fact 61 rfl), He.free_ok X G (c.fact 62 rfl), He.free_ok X G (c.fact 63 rfl)⟩
  have gs : IsSt K (He.ga K "Street") := ⟨He.cls_ok (c.fact 66 rfl), He.noat_ok (c.fact 70 rfl), He.noat_ok (c.fact 71 rfl), He.noat_ok (c.fact 72 rfl), He.noat_ok (c.fact 73 rfl)⟩
  have gg : IsSg K (He.ga K "Standing") := ⟨He.cls_ok (c.fact 67 rfl), He.noat_ok (c.fact 74 rfl), He.noat_ok (c.fact 75 rfl), He.noat_ok (c.fact 76 rfl), He.noat_ok (c.fact 77 rfl)⟩
  obtain ⟨fdh, Fh⟩ := hs_fun ch q5 q6
  have hP : PropOf K (He.ga K "Street") "houses" (hsP K) (hsG K) := by
    refine ⟨He.eqO_ok q1, He.eqO_ok q2, of_decide_eq_true q3, ?_⟩
    unfold hsHead at q4
    split at q4
    · rename_i g rest e
      exact ⟨rest, by rw [e, of_decide_eq_true q4]⟩
    · cases q4
  have Hs : PrpOk P w K mg base (He.ga K "Street") "houses" 1 (SHouses (He.ga K "Street")) := ok_houses b gs (toFun Fh) hP (Fh.bindsN fun _ _ _ _ _ _ us hl => match us, hl with | [_], _ => rfl)
  have L := ok_len (P := P) (w := w) (base := base) (CS := He.ga K "Street") b gg (metAt c "__len__" "Standing.__len__" 20 ["self"] 57 86 rfl rfl fun _ _ _ _ _ _ us hl => match us, hl with | [_], _ => rfl)
  have Ful := ok_full (P := P) (w := w) (base := base) b gg gs (metAt c "is_full" "Standing.is_full" 10 ["self", "house"] 49 78 rfl rfl fun _ _ _ _ _ _ us hl => match us, hl with | [_, _], _ => rfl)
  have Hm := ok_home (P := P) (w := w) (base := base) b L (defAt X G c "homeward" 6 ["standing"] 3 rfl rfl fun _ _ _ _ _ _ us hl => match us, hl with | [_], _ => rfl)
  have Sty := ok_stays (P := P) (w := w) (base := base) b (defAt X G c "stays_held" 7 ["tools", "wants", "settled", "houses"] 4 rfl rfl fun _ _ _ _ _ _ us hl => match us, hl with | [_, _, _, _], _ => rfl)
  have Hd := ok_held (P := P) (w := w) (base := base) b Sty (defAt X G c "held_houses" 8 ["full", "hung", "wants", "settled"] 5 rfl rfl fun _ _ _ _ _ _ us hl => match us, hl with | [_, _, _, _], _ => rfl)
  have Gr := ok_great (P := P) (w := w) (base := base) b gg Hs gs Ful Hm Hd (defAt X G c "greatest_lot" 11 ["standing"] 8 rfl rfl fun _ _ _ _ _ _ us hl => match us, hl with | [_], _ => rfl)
  have Wtg := ok_waiting (P := P) (w := w) (base := base) b gg gs Hs (defAt X G c "waiting" 10 ["standing"] 7 rfl rfl fun _ _ _ _ _ _ us hl => match us, hl with | [_], _ => rfl)
  have Wd := ok_wanted (P := P) (w := w) (base := base) (mg := mg) (CS := He.ga K "Street") gg (metAt c "wanted" "Standing.wanted" 6 ["self", "tool"] 50 79 rfl rfl fun _ _ _ _ _ _ us hl => match us, hl with | [_, _], _ => rfl)
  have Can := ok_can (P := P) (w := w) (base := base) b gg Ful (metAt c "can_return" "Standing.can_return" 13 ["self", "tool"] 51 80 rfl rfl fun _ _ _ _ _ _ us hl => match us, hl with | [_, _], _ => rfl)
  have Ret := ok_returns (P := P) (w := w) (base := base) b gg L Can (defAt X G c "returns" 14 ["standing"] 10 rfl rfl fun _ _ _ _ _ _ us hl => match us, hl with | [_], _ => rfl)
  have Fz := ok_frozen (P := P) (w := w) (base := base) b (defAt X G c "frozen" 2 ["value"] 0 rfl rfl fun _ _ _ _ _ _ us hl => match us, hl with | [_], _ => rfl)
  have AsI := ok_ascI (P := P) (w := w) (base := base) b (defAt X G c "ascending" 4 ["values"] 2 rfl rfl fun _ _ _ _ _ _ us hl => match us, hl with | [_], _ => rfl)
  have AsP := ok_ascP (P := P) (w := w) (base := base) b (defAt X G c "ascending" 4 ["values"] 2 rfl rfl fun _ _ _ _ _ _ us hl => match us, hl with | [_], _ => rfl)
  have Sk := ok_stuck (P := P) (w := w) (base := base) b gg Fz AsI Ful Hm Sty (defAt X G c "is_stuck" 9 ["standing", "lot"] 6 rfl rfl fun _ _ _ _ _ _ us hl => match us, hl with | [_, _], _ => rfl)
  have Rs := ok_reason (P := P) (w := w) (base := base) b gg Ful (defAt X G c "is_reason" 36 ["standing", "house", "tool", "earlier"] 17 rfl rfl fun _ _ _ _ _ _ us hl => match us, hl with | [_, _, _, _], _ => rfl)
  have Lst := ok_least (P := P) (w := w) (base := base) b gg Rs (defAt X G c "least_reason" 38 ["standing", "house", "earlier"] 19 rfl rfl fun _ _ _ _ _ _ us hl => match us, hl with | [_, _, _], _ => rfl)
  have Nx := ok_next (P := P) (w := w) (base := base) b gg gs Hs Lst (defAt X G c "next_pair" 39 ["standing", "earlier"] 20 rfl rfl fun _ _ _ _ _ _ us hl => match us, hl with | [_, _], _ => rfl)
  have Tk := ok_taking (P := P) (w := w) (base := base) b Nx (defAt X G c "taking_out" 40 ["standing"] 21 rfl rfl fun _ _ _ _ _ _ us hl => match us, hl with | [_], _ => rfl)
  have It := ok_isTaking (P := P) (w := w) (base := base) b Fz Rs (defAt X G c "is_taking_out" 37 ["standing", "pairs"] 18 rfl rfl fun _ _ _ _ _ _ us hl => match us, hl with | [_, _], _ => rfl)
  have Nm := ok_num (P := P) (w := w) (base := base) b (defAt X G c "is_number" 3 ["value"] 1 rfl rfl fun _ _ _ _ _ _ us hl => match us, hl with | [_], _ => rfl)
  have Pg := ok_pegs (P := P) (w := w) (base := base) b Nm (defAt X G c "check_pegs" 26 ["pegs"] 11 rfl rfl fun _ _ _ _ _ _ us hl => match us, hl with | [_], _ => rfl)
  have Ln := ok_lanes (P := P) (w := w) (base := base) b (defAt X G c "check_lanes" 27 ["houses", "lanes"] 12 rfl rfl fun _ _ _ _ _ _ us hl => match us, hl with | [_, _], _ => rfl)
  have Wy := ok_isWay (P := P) (w := w) (base := base) b gs Hs Fz (defAt X G c "is_way" 29 ["street", "value"] 13 rfl rfl fun _ _ _ _ _ _ us hl => match us, hl with | [_, _], _ => rfl)
  have Chk := ok_checked (P := P) (w := w) (base := base) b Fz Wy (defAt X G c "checked_ways" 31 ["street", "ways"] 14 rfl rfl fun _ _ _ _ _ _ us hl => match us, hl with | [_, _], _ => rfl)
  have Hg := ok_hang (P := P) (w := w) (base := base) b gs Hs (defAt X G c "hanging" 32 ["street", "ways"] 15 rfl rfl fun _ _ _ _ _ _ us hl => match us, hl with | [_, _], _ => rfl)
  have Lds := ok_loads (P := P) (w := w) (base := base) b gs (defAt X G c "check_loads" 33 ["street", "hung"] 16 rfl rfl fun _ _ _ _ _ _ us hl => match us, hl with | [_, _], _ => rfl)
  obtain ⟨fd1, F1⟩ := c.def_ 47 rfl
  have F1 : FunD K "__init__" "Street.__init__" (defArgs (inC 28 1)) (defBody (inC 28 1)) (defScope (inC 28 1)) [] [] (He.ma K (He.ga K "Street") "__init__") fd1 := F1
  have St : MkSt P w K mg base (He.ga K "Street") := ⟨_, fd1, ok_street b gs Fz Pg Ln AsP (toFun F1), He.glo_ok X G (c.fact 64 rfl), He.mkr_ok (c.fact 68 rfl), F1.bindsN fun _ _ _ _ _ _ us hl => match us, hl with | [_, _, _], _ => rfl, .nil⟩
  obtain ⟨fd2, F2⟩ := c.def_ 48 rfl
  have F2 : FunD K "__init__" "Standing.__init__" (defArgs (inC 34 0)) (defBody (inC 34 0)) (defScope (inC 34 0)) [] [("sure", .bl false)] (He.ma K (He.ga K "Standing") "__init__") fd2 := F2
  have Fs := ok_stand (P := P) (w := w) (base := base) b gg Chk Hg Lds F2
  have mS : mg "Standing" = some (.ref (He.ga K "Standing")) := He.glo_ok X G (c.fact 65 rfl)
  have kS : Mk K (He.ga K "Standing") (He.ma K (He.ga K "Standing") "__init__") := He.mkr_ok (c.fact 69 rfl)
  have Sg : MkSg P w K mg base (He.ga K "Standing") (He.ga K "Street") := by
    obtain ⟨ds, v, hb⟩ := F2.binds0 (ps := ["self", "street", "ways", "sure"]) 3 (by simp) rfl fun D doc pm an cdv ct us ks hu hk => match us, hu, ks, hk with | [_, _, _], _, [_], _ => ⟨_, _, _, _, _, _, rfl, rfl, rfl⟩
    cases v with
    | cons r t =>
      cases t
      cases r
      exact ⟨_, fd2, Fs, mS, kS, hb, .cons rfl .nil⟩
  have SgK : ClsOkK P w K mg base "Standing" (He.ga K "Standing") 5 2 ["self", "street", "ways", "sure"] ["sure"] fsSg (SStand (He.ga K "Standing") (He.ga K "Street")) := by
    obtain ⟨mv, hb⟩ := F2.kbinds0 (ps := ["self", "street", "ways", "sure"]) 3 ["sure"] [] (fun us mv ws => us ++ ws) (by simp) (by simp) (fun r1 _ r3 => r1.append r3) fun D doc pm an cdv ct us mv ws hu hm hw => match us, hu, mv, hm, ws, hw with | [_, _, _], _, [], _, [_], _ => rfl
    exact ⟨_, fd2, _, Fs, mS, kS, hb⟩
  have Bk := ok_back (P := P) (w := w) (base := base) b gg SgK (metAt c "given_back" "Standing.given_back" 14 ["self", "tool"] 52 81 rfl rfl fun _ _ _ _ _ _ us hl => match us, hl with | [_, _], _ => rfl)
  have Lt := ok_lent (P := P) (w := w) (base := base) b gg SgK (metAt c "lent" "Standing.lent" 15 ["self", "tool", "house"] 53 82 rfl rfl fun _ _ _ _ _ _ us hl => match us, hl with | [_, _, _], _ => rfl)
  have DoL := ok_doLend (P := P) (w := w) (base := base) b gg gs Ful Lt (metAt c "after_lending" "Standing.after_lending" 17 ["self", "tool", "house"] 54 83 rfl rfl fun _ _ _ _ _ _ us hl => match us, hl with | [_, _, _], _ => rfl)
  have DoB := ok_doBack (P := P) (w := w) (base := base) b gg Can Bk (metAt c "after_return" "Standing.after_return" 18 ["self", "tool"] 55 84 rfl rfl fun _ _ _ _ _ _ us hl => match us, hl with | [_, _], _ => rfl)
  have Sh := ok_shift (P := P) (w := w) (base := base) b gg Fz DoL DoB (metAt c "__rshift__" "Standing.__rshift__" 19 ["self", "deed"] 56 85 rfl rfl fun _ _ _ _ _ _ us hl => match us, hl with | [_, _], _ => rfl)
  have Af := ok_after (P := P) (w := w) (base := base) gg q7 Sh (defAt X G c "after" 13 ["standing", "deed"] 9 rfl rfl fun _ _ _ _ _ _ us hl => match us, hl with | [_, _], _ => rfl)
  have Ld := ok_load (P := P) (w := w) (base := base) b (defAt X G c "_law_load" 50 ["_law_ways", "_law_house"] 30 rfl rfl fun _ _ _ _ _ _ us hl => match us, hl with | [_, _], _ => rfl)
  have Ne := ok_needs (P := P) (w := w) (base := base) b (defAt X G c "_law_needs" 57 ["_law_street", "_law_ways"] 37 rfl rfl fun _ _ _ _ _ _ us hl => match us, hl with | [_, _], _ => rfl)
  have Ls := ok_lstuck (P := P) (w := w) (base := base) b (defAt X G c "_law_is_stuck" 58 ["_law_needs_here", "_law_lot"] 38 rfl rfl fun _ _ _ _ _ _ us hl => match us, hl with | [_, _], _ => rfl)
  have Lg := ok_lgreat (P := P) (w := w) (base := base) b (defAt X G c "_law_greatest" 59 ["_law_needs_here"] 39 rfl rfl fun _ _ _ _ _ _ us hl => match us, hl with | [_], _ => rfl)
  have Cl := ok_clos (P := P) (w := w) (base := base) b (defAt X G c "_law_closure" 60 ["_law_needs_here", "_law_house"] 40 rfl rfl fun _ _ _ _ _ _ us hl => match us, hl with | [_, _], _ => rfl)
  have Wh := ok_whole (P := P) (w := w) (base := base) b (defAt X G c "_law_whole" 42 ["_law_value"] 22 rfl rfl fun _ _ _ _ _ _ us hl => match us, hl with | [_], _ => rfl)
  have Sm := ok_same (P := P) (w := w) (base := base) b Wh (defAt X G c "_law_same" 43 ["_law_actual", "_law_due"] 23 rfl rfl fun _ _ _ _ _ _ us hl => match us, hl with | [_, _], _ => rfl)
  have Lw := ok_lwait (P := P) (w := w) (base := base) b (defAt X G c "_law_waiting" 61 ["_law_ways"] 41 rfl rfl fun _ _ _ _ _ _ us hl => match us, hl with | [_], _ => rfl)
  have LNx := ok_lnext (P := P) (w := w) (base := base) b Ld (defAt X G c "_law_next_out" 63 ["_law_street", "_law_ways", "_law_outside"] 43 rfl rfl fun _ _ _ _ _ _ us hl => match us, hl with | [_, _, _], _ => rfl)
  have Wa := ok_waits (P := P) (w := w) (base := base) b gg Sm Wtg Lw Wd (defAt X G c "_law_waits" 62 ["_law_ways", "_law_standing"] 42 rfl rfl fun _ _ _ _ _ _ us hl => match us, hl with | [_, _], _ => rfl)
  have Mo := ok_moment (P := P) (w := w) (base := base) b gg Wa Tk Gr LNx Sm Ls Ne It Sk (defAt X G c "_law_moment" 64 ["_law_street", "_law_ways", "_law_standing"] 44 rfl rfl fun _ _ _ _ _ _ us hl => match us, hl with | [_, _, _], _ => rfl)
  have Ho := ok_holdL (P := P) (w := w) (base := base) b Ret Sk (defAt X G c "_law_held" 65 ["_law_ways", "_law_standing", "_law_lots"] 45 rfl rfl fun _ _ _ _ _ _ us hl => match us, hl with | [_, _, _], _ => rfl)
  have Cb := ok_cback (P := P) (w := w) (base := base) b Ld (defAt X G c "_law_can_back" 53 ["_law_street", "_law_ways", "_law_tool"] 33 rfl rfl fun _ _ _ _ _ _ us hl => match us, hl with | [_, _, _], _ => rfl)
  have Cn := ok_clend (P := P) (w := w) (base := base) b Ld (defAt X G c "_law_can_lend" 54 ["_law_street", "_law_ways", "_law_tool", "_law_house"] 34 rfl rfl fun _ _ _ _ _ _ us hl => match us, hl with | [_, _, _, _], _ => rfl)
  have Do := ok_done (P := P) (w := w) (base := base) b (defAt X G c "_law_done" 55 ["_law_ways", "_law_deed_here"] 35 rfl rfl fun _ _ _ _ _ _ us hl => match us, hl with | [_, _], _ => rfl)
  have De := ok_ldeed (P := P) (w := w) (base := base) b Cb Cn (defAt X G c "_law_deed" 56 ["_law_street", "_law_ways", "_law_row"] 36 rfl rfl fun _ _ _ _ _ _ us hl => match us, hl with | [_, _, _], _ => rfl)
  have Ce := ok_cell (P := P) (w := w) (base := base) b (defAt X G c "_law_cell" 44 ["_law_script", "_law_k"] 24 rfl rfl fun _ _ _ _ _ _ us hl => match us, hl with | [_, _], _ => rfl)
  have Di := ok_digits (P := P) (w := w) (base := base) b (defAt X G c "_law_digits" 45 ["_law_cell_here", "_law_sizes"] 25 rfl rfl fun _ _ _ _ _ _ us hl => match us, hl with | [_, _], _ => rfl)
  have Pa := ok_parts (P := P) (w := w) (base := base) b (defAt X G c "_law_partners" 46 ["_law_many", "_law_style", "_law_turn", "_law_row"] 26 rfl rfl fun _ _ _ _ _ _ us hl => match us, hl with | [_, _, _, _], _ => rfl)
  have Sp := ok_spur (P := P) (w := w) (base := base) b (defAt X G c "_law_spur" 47 ["_law_partners_here", "_law_kind", "_law_first", "_law_second"] 27 rfl rfl fun _ _ _ _ _ _ us hl => match us, hl with | [_, _, _, _], _ => rfl)
  have Wt := ok_wayTo (P := P) (w := w) (base := base) b (defAt X G c "_law_way_to" 49 ["_law_town_here", "_law_house", "_law_length", "_law_few", "_law_row"] 29 rfl rfl fun _ _ _ _ _ _ us hl => match us, hl with | [_, _, _, _, _], _ => rfl)
  have To := ok_town (P := P) (w := w) (base := base) b Ce Di Pa Sp (defAt X G c "_law_town" 48 ["_law_script", "_law_at", "_law_counts", "_law_spurs"] 28 rfl rfl fun _ _ _ _ _ _ us hl => match us, hl with | [_, _, _, _], _ => rfl)
  have Cr := ok_crowd (P := P) (w := w) (base := base) b To Wt Ce Di Ld (defAt X G c "_law_crowd" 51 ["_law_script", "_law_at", "_law_counts", "_law_spurs", "_law_most", "_law_limit"] 31 rfl rfl fun _ _ _ _ _ _ us hl => match us, hl with | [_, _, _, _, _, _], _ => rfl)
  have Bu := ok_build (P := P) (w := w) (base := base) b St Sg (defAt X G c "_law_build" 52 ["_law_street", "_law_ways", "_law_lists"] 32 rfl rfl fun _ _ _ _ _ _ us hl => match us, hl with | [_, _, _], _ => rfl)
  exact ok_law (P := P) (w := w) (base := base) b gg Ce Di Cr Bu Sg Mo Ne Lg Cl Ho De Do Af F
theorem law_facts {fa : Addr} (X : K.In h) (G : h.Ns mainGlobals mg) (hfa : mg "law" = some (.ref fa)) (cc : obsP K = valP) : ∃ fd : FuncData, (∀ (s : Shared) (v : Value), BindsTo s fd ⟨[v], []⟩ [("_law_script", v)]) ∧ ∀ base : Heap, FnOk P w K mg base CX0 11 fa fd ["_law_script"] (spT K SLaw) := by
  have c : He.SaysD faL fnL K := congrArg (fun z : AlP => z.1) cc
  obtain ⟨fd, F⟩ := c.def_ 46 (d := dG "law" 66) rfl
  have F : FunD K "law" "law" (defArgs (top 66)) (defBody (top 66)) (defScope (top 66)) [] [] (He.ga K "law") fd := F
  have e := hfa.symm.trans (He.glo_ok X G (c.fact 46 rfl))
  cases e
  have bi := FunD.bindsA (ps := ["_law_script"]) F fun _ _ _ _ _ _ us hl => match us, hl with | [_], _ => rfl
  exact ⟨fd, fun s v => bi s [v] rfl, fun base => ok_all X G cc (toFun F)⟩
end
theorem reps_ints' {K : PySem.W.Frag} {M : Hp} (ns : List Int) : Reps K M (ns.map .int) (ns.map V.int) := reps_of_ints
theorem law_sp {K : PySem.W.Frag} {H : Hp} {a : Addr} {ns : List Int} (hl : ns.length ≤ 63) (hS : SqL K H a (ns.map V.int)) : spT K SLaw [.ref a] H (fun v _ => v = .bl true) fun _ _ _ => False := by
  refine ⟨fun _ => none, [.ro (ns.map .int)], _, ⟨ns, hl, rfl, rfl⟩, (fun _ _ e => nomatch e), .cons rfl ⟨a, _, rfl, hS, reps_ints' ns⟩ .nil, fun t v M' H' e _ r => ?_⟩
  rw [e] at r
  exact r
end TL
open PySem PySem.W PySem.Calls PyProof.Rows
set_option maxRecDepth 100000 in
set_option maxHeartbeats 0 in
theorem PySem.Challenge.cw_pegstreet_k10_greatest_lot_whole_holds : PySem.Challenge.rw_pegstreet_k10_greatest_lot_whole.Holds := by
  w_on; o_law
  refine HandSHeadRun.head_any (r := OpenLaw.row PySem.Challenge.rw_pegstreet_k10_greatest_lot_whole) (q := TL.qv) (H := TL.hk) (ob := TL.obT) (M := 6000) (loose := TL.looseL) (d := HandSHeadRun.topDef (OpenLaw.row PySem.Challenge.rw_pegstreet_k10_greatest_lot_whole).prog 66) (kwd := []) TL.obT_eq
    (by kernel_rfl) (fun s => by kernel_rfl) TL.run (by kernel_rfl) (by kernel_rfl) (by kernel_rfl) (by rfl) (by first | assumption | decide +kernel) (by decide +kernel) ⟨rfl, rfl, rfl, rfl, rfl, by decide +kernel⟩ ?hw ?hc
  case hw => w_witness2
  case hc =>
    refine L2.walk_ofE (l := PySem.Challenge.rw_pegstreet_k10_greatest_lot_whole) (n := 63) (k := 11) (x := "_law_script") (CX := L2.CX0) rfl (by decide) (by kernel_rfl) ⟨rfl, by decide, by decide⟩ ?F (fun _ _ _ _ z => z)
    intro w mg fa h Y G hmg0
    obtain ⟨K, KX, c⟩ := Y
    have hmg : mg ("law" : PySem.Str) = some (.ref fa) := by
      have e : (HandSHeadRun.topDef (OpenLaw.row PySem.Challenge.rw_pegstreet_k10_greatest_lot_whole).prog 66).name = ("law" : PySem.Str) := by kernel_rfl
      rw [← e]
      exact hmg0
    obtain ⟨fd, hb, hF⟩ := TL.law_facts (P := (PySem.Challenge.rw_pegstreet_k10_greatest_lot_whole).prog) (w := w) KX G hmg c
    exact ⟨K, fd, TL.spT K TL.SLaw, KX, hb, fun H a ns hl _ hS => TL.law_sp hl hS, fun base _ _ => hF base⟩

