import PyProof.Rows.All
import Wide.All
import OpenK.AllK
import Wide.FinOn
import HandS.ForMost
import HandS.Exc
import HandS.WordsExc
import HandS.Flow
import HandS.IsInst
import HandS.ExcOwn
import HandS.ExcIs
import HandS.ExcValue
import HandS.ExcField
import KE.KExcIs
import HandS.Nested
import HandS.EndTab
import KE.SortData
import KE.DataMinMax
import PyProof.TupleOfSeq
import HandS.TupLe
import HandS.Text
import HandS.Style
import HandS.TupAny
import HandS.Deep
import HandS.Zip
import HandS.Steps
import KE.SortCalls
import HandS.Conv
import HandS.More
import PyProof.ListStr
import HandS.Strs
import KE.KDictDisplayH
import PyProof.DictMoreH
import PyProof.Rows.TupDisplay
import HandS.TupLen
import HandS.DictTup
import KE.KIndexOf
import KE.DataFind
import HandS.Replace
import PyProof.TupleOfStr
import KE.GoesMore
import KE.GoesEnum
import HandS.ExcInit
import HandS.Small
import KE.KDictZip
import KE.KDictKeyed
import HandS.Zip0
import HandS.Dict
import HandS.NoneIn
import HandS.TupSets
import HandS.ReplaceLit
import HandS.Set
import HandS.SetFor
import HandS.EndBits
import PySem.Challenge.RW_eachgreatest_k01_webs_read
set_option Elab.async false
set_option linter.all false
set_option maxRecDepth 100000
set_option maxHeartbeats 4000000
namespace Sy
open PySem PySem.Spec PyProof.Rows L2

/-! ### values as data: tuples and frozen lists are told by their content, what may change by its address -/
inductive SV where
  | non | bl (b : Bool) | int (i : Int) | str (s : Str)
  | tup (l : List SV) | lst (l : List SV)
  | dK (ks : List Key) (vs : List SV) | dT (ks : List (List Key)) (vs : List SV)
  | own (a : Addr)
  | scr (l : List SV)
  | tuf (l : List SV)
  /-- a def of the row, as a value -/
  | fnv (f : Str)
  /-- a lambda: its object, its code object, what it captured -/
  | lam (a c : Addr) (cs : List SV) (ws : List V)
inductive SO where
  | lst (xs : List SV)
  | dK (ks : List Key) (vs : List SV) | dT (ks : List (List Key)) (vs : List SV)
  | ins (c : Str) (fs : List (Str × SV))
  /-- an exception that is kept: where, its class's name, its fields -/
  | exc (a : Addr) (c : Str) (w : List (Str × SV))
  /-- a dict that is walked: its object, what its values are in the heap -/
  | lk (od : Obj) (us : List V) (ks : List Key) (vs : List SV)
  /-- a list whose object is known: it does not change -/
  | fz (o : Obj) (l : List SV)
abbrev Sto := Addr → Option SO
def supd (S : Sto) (a : Addr) (o : SO) : Sto := fun b => if b = a then some o else S b
theorem supd_same {S : Sto} {a : Addr} {o : SO} : supd S a o a = some o := if_pos rfl
theorem supd_ne {S : Sto} {a b : Addr} {o : SO} (h : b ≠ a) : supd S a o b = S b := if_neg h
/-- a tuple whose object is known: it has no dict of its own -/
def TufAt (K : PySem.W.Frag) (F : Hp) (a : Addr) (vs : List V) : Prop :=
  (∃ o : Obj, F a = some (.frz o (.tup vs)) ∧ o.dict = none) ∨
    ∃ (o : Obj) (its : Array Value) (n : Nat), K.lookup a = some o ∧ o.cls = .type "tuple" ∧ o.dict = none ∧ o.data = .seq its n ∧ its.size ≤ sizeLine ∧ Vals vs its.toList
theorem TufAt.sqT {K : PySem.W.Frag} {F : Hp} {a : Addr} {vs : List V} (h : TufAt K F a vs) : SqT K F a vs := by
  rcases h with ⟨o, h, _⟩ | ⟨o, its, n, h1, h2, _, h3, h4, h5⟩
  · exact .inl (.inr ⟨o, h⟩)
  · exact .inr ⟨o, its, n, h1, h2, h3, h4, h5⟩
theorem TufAt.mono {K : PySem.W.Frag} {F F' : Hp} {a : Addr} {vs : List V} (e : ∀ a o, F a = some o → F' a = some o) (h : TufAt K F a vs) : TufAt K F' a vs := by
  rcases h with ⟨o, h, d⟩ | h
  · exact .inl ⟨o, e _ _ h, d⟩
  · exact .inr h
/-- the classes of refusals, and what each is of -/
def subX (e b : Str) : Bool := decide (e = b) || decide (b = "SetError") || decide (b = "ValueError")
def exF : List Str := ["word", "row"]
def exB : List Str := ["SetError", "NoRow", "NoAsk", "NoWeb", "NoName"]
/-- what is known of a class of refusals -/
structure ClsK (K : PySem.W.Frag) (c : Str) (C : Addr) : Prop where
  bx : PySem.W.subIn K (.ref C) (.type "BaseException") = some true
  ty : PySem.W.typeIn K (.ref C) = some (.type "type")
  exc : ExcC K C
  ex : ∀ b B, b ∈ exB → PySem.W.nsIn K mainGlobals b = some (some (.ref B)) → PySem.W.exmOne K (.ref C) (.ref B) = some (subX c b) ∧ PySem.W.kitOne K (.ref C) (.ref B) = some (subX c b)
  ve : PySem.W.kitOne K (.ref C) (.type "ValueError") = some true
  nf : ∀ f ∈ exF, PySem.W.findIn K (.ref C) f = some none
/-- the names of fields -/
def fldN : List Str := ["names", "goers", "rows_there", "rows_told", "many_fillings", "kind", "ties", "rows"]
/-- what is known of a class of the program -/
structure InsK (K : PySem.W.Frag) (c : Str) (C : Addr) : Prop where
  ns : PySem.W.nsIn K mainGlobals c = some (some (.ref C))
  cl : L2.Cls K C
  na : ∀ f ∈ fldN, NoAttr K C f
/-- the lambda's code object bears this name; the table of the def that makes it stands at P -/
def lamQ : Str := "all_rows" ++ ".<locals>." ++ "<lambda>"
def LamAt (K : PySem.W.Frag) (c P : Addr) : Prop := ∃ (fa : Addr) (oc : Value) (od : Option Addr) (fd : FuncData) (sl : Array (Option Value)) (e : Value) (dd : Option Addr) (vs : Array Value) (sl2 : Array (Option Value)),
  PySem.W.nsIn K mainGlobals "all_rows" = some (some (.ref fa)) ∧ K.lookup fa = some ⟨oc, od, .func fd, sl⟩ ∧ fd.code = .ref c ∧ K.lookup c = some ⟨e, dd, .fields vs, sl2⟩ ∧ vs[11]? = some (.ref P)
/-- an exception of the class cls, its own dict at d, at a -/
def ExC (cls : Value) (d : Option Addr) (a : Addr) : HO := .ext fun h => ∃ (oe : Obj) (vs : Array Value), h.get? a = some oe ∧ Zc cls d oe ∧ oe.data = .fields vs
section
variable (K : PySem.W.Frag) (F : Hp)
mutual
def RepV : SV → V → Prop
  | .non, v => v = .non
  | .bl b, v => v = .bl b
  | .int i, v => v = .int i
  | .str s, v => v = .str s
  | .tup l, v => ∃ a vs, v = .ref a ∧ F a = some (.tup vs) ∧ RepL l vs
  | .lst l, v => ∃ a vs, v = .ref a ∧ Rd F a (.lst vs) ∧ RepL l vs
  | .tuf l, v => ∃ a vs, v = .ref a ∧ TufAt K F a vs ∧ RepL l vs
  | .dK ks l, v => ∃ a vs, v = .ref a ∧ F a = some (.dK (ks.zip vs)) ∧ ks.length = vs.length ∧ RepL l vs
  | .dT ks l, v => ∃ a vs, v = .ref a ∧ F a = some (.dT (ks.zip vs)) ∧ ks.length = vs.length ∧ RepL l vs
  | .own a, v => v = .ref a
  | .fnv f, v => ∃ a, v = .ref a ∧ PySem.W.nsIn K mainGlobals f = some (some (.ref a))
  | .scr l, v => ∃ a vs, v = .ref a ∧ SqL K F a vs ∧ RepL l vs
  | .lam a c cs ws, v => v = .ref a ∧ F c = some (LamX.CodeO c lamQ) ∧ RepL cs ws
def RepL : List SV → List V → Prop
  | [], vs => vs = []
  | x :: l, vs => ∃ v r, vs = v :: r ∧ RepV x v ∧ RepL l r
end
def RepF : List (Str × SV) → List (Str × V) → Prop
  | [], vs => vs = []
  | p :: l, vs => ∃ v r, vs = (p.1, v) :: r ∧ RepV K F p.2 v ∧ RepF l r
/-- the own dict of an exception -/
def ExF (d : Option Addr) (w : List (Str × SV)) : Prop := (w = [] ∧ d = none) ∨ (w ≠ [] ∧ ∃ dd gs, d = some dd ∧ F dd = some (.xd gs) ∧ RepF K F w gs)
def RepO : SO → HO → Prop
  | .lst l, u => ∃ vs, u = .lst vs ∧ RepL K F l vs
  | .dK ks l, u => ∃ vs, u = .dK (ks.zip vs) ∧ ks.length = vs.length ∧ RepL K F l vs
  | .dT ks l, u => ∃ vs, u = .dT (ks.zip vs) ∧ ks.length = vs.length ∧ RepL K F l vs
  | .ins c fs, u => ∃ C dx gs, InsK K c C ∧ u = .ins C dx gs ∧ RepF K F fs gs
  | .exc a c w, u => ∃ C d, ClsK K c C ∧ u = ExC (.ref C) d a ∧ ExF K F d w
  | .lk od us ks l, u => u = .frz od (.dK (ks.zip us)) ∧ ks.length = us.length ∧ RepL K F l us
  | .fz o l, u => ∃ vs, u = .frz o (.lst vs) ∧ RepL K F l vs
end

section
variable {K : PySem.W.Frag} {F F' H : Hp}
theorem Same.rd {a : Addr} {u : HO} (e : Same F F') (h : Rd F a u) : Rd F' a u := by
  rcases h with h | ⟨o, h⟩
  · exact .inl (e _ _ h)
  · exact .inr ⟨o, e _ _ h⟩
theorem Same.sqT {a : Addr} {xs : List V} (e : Same F F') (h : SqT K F a xs) : SqT K F' a xs := by
  rcases h with h | h
  · exact .inl (Same.rd e h)
  · exact .inr h
theorem Same.sqL {a : Addr} {xs : List V} (e : Same F F') (h : SqL K F a xs) : SqL K F' a xs := by
  rcases h with h | h
  · exact .inl (Same.rd e h)
  · exact .inr h
mutual
theorem RepV.mono (e : Same F F') : ∀ (x : SV) (v : V), RepV K F x v → RepV K F' x v
  | .non, _, h => h
  | .bl _, _, h => h
  | .int _, _, h => h
  | .str _, _, h => h
  | .own _, _, h => h
  | .fnv _, _, h => h
  | .scr l, _, ⟨a, vs, h1, h2, h3⟩ => ⟨a, vs, h1, Same.sqL e h2, RepL.mono e l vs h3⟩
  | .lam a c cs ws, _, ⟨h1, h2, h3⟩ => ⟨h1, e _ _ h2, RepL.mono e cs ws h3⟩
  | .tup l, _, ⟨a, vs, h1, h2, h3⟩ => ⟨a, vs, h1, e _ _ h2, RepL.mono e l vs h3⟩
  | .lst l, _, ⟨a, vs, h1, h2, h3⟩ => ⟨a, vs, h1, Same.rd e h2, RepL.mono e l vs h3⟩
  | .tuf l, _, ⟨a, vs, h1, h2, h3⟩ => ⟨a, vs, h1, TufAt.mono e h2, RepL.mono e l vs h3⟩
  | .dK ks l, _, ⟨a, vs, h1, h2, h3, h4⟩ => ⟨a, vs, h1, e _ _ h2, h3, RepL.mono e l vs h4⟩
  | .dT ks l, _, ⟨a, vs, h1, h2, h3, h4⟩ => ⟨a, vs, h1, e _ _ h2, h3, RepL.mono e l vs h4⟩
theorem RepL.mono (e : Same F F') : ∀ (l : List SV) (vs : List V), RepL K F l vs → RepL K F' l vs
  | [], _, h => h
  | x :: l, _, ⟨v, r, h1, h2, h3⟩ => ⟨v, r, h1, RepV.mono e x v h2, RepL.mono e l r h3⟩
end
theorem RepF.mono (e : Same F F') : ∀ (l : List (Str × SV)) (vs : List (Str × V)), RepF K F l vs → RepF K F' l vs
  | [], _, h => h
  | p :: l, _, ⟨v, r, h1, h2, h3⟩ => ⟨v, r, h1, RepV.mono e p.2 v h2, RepF.mono e l r h3⟩
theorem ExF.mono (e : ∀ a o, F a = some o → F' a = some o) {d : Option Addr} {w : List (Str × SV)} (h : ExF K F d w) : ExF K F' d w := by
  rcases h with h | ⟨h1, dd, gs, h2, h3, h4⟩
  · exact .inl h
  · exact .inr ⟨h1, dd, gs, h2, e _ _ h3, RepF.mono e _ _ h4⟩
theorem RepO.mono (e : Same F F') : ∀ {o : SO} {u : HO}, RepO K F o u → RepO K F' o u
  | .lst _, _, ⟨vs, h1, h2⟩ => ⟨vs, h1, RepL.mono e _ _ h2⟩
  | .dK _ _, _, ⟨vs, h1, h2, h3⟩ => ⟨vs, h1, h2, RepL.mono e _ _ h3⟩
  | .dT _ _, _, ⟨vs, h1, h2, h3⟩ => ⟨vs, h1, h2, RepL.mono e _ _ h3⟩
  | .ins _ _, _, ⟨C, dx, gs, h0, h1, h2⟩ => ⟨C, dx, gs, h0, h1, RepF.mono e _ _ h2⟩
  | .exc _ _ _, _, ⟨C, d, h1, h2, h3⟩ => ⟨C, d, h1, h2, ExF.mono e h3⟩
  | .lk _ _ _ _, _, ⟨h1, h2, h3⟩ => ⟨h1, h2, RepL.mono e _ _ h3⟩
  | .fz _ _, _, ⟨vs, h1, h2⟩ => ⟨vs, h1, RepL.mono e _ _ h2⟩
theorem RepL.length : ∀ {l : List SV} {vs : List V}, RepL K F l vs → l.length = vs.length
  | [], _, h => by rw [show _ = ([] : List V) from h]; rfl
  | x :: l, _, ⟨v, r, h1, h2, h3⟩ => by rw [h1, List.length_cons, List.length_cons, RepL.length h3]
theorem RepL.get : ∀ {l : List SV} {vs : List V} {i : Nat} {x : SV}, RepL K F l vs → l[i]? = some x → ∃ v, vs[i]? = some v ∧ RepV K F x v
  | [], _, _, _, _, e => by simp at e
  | y :: l, _, 0, x, ⟨v, r, h1, h2, h3⟩, e => by
    have e' : y = x := by simpa using e
    subst e'
    exact ⟨v, by rw [h1]; rfl, h2⟩
  | y :: l, _, i + 1, x, ⟨v, r, h1, h2, h3⟩, e => by
    obtain ⟨u, q1, q2⟩ := RepL.get (i := i) h3 (by simpa using e)
    exact ⟨u, by rw [h1]; simpa using q1, q2⟩
theorem RepL.append : ∀ {l : List SV} {vs : List V} {m : List SV} {ws : List V}, RepL K F l vs → RepL K F m ws → RepL K F (l ++ m) (vs ++ ws)
  | [], _, _, _, h, g => by rw [show _ = ([] : List V) from h]; exact g
  | x :: l, _, _, _, ⟨v, r, h1, h2, h3⟩, g => ⟨v, r ++ _, by rw [h1]; rfl, h2, RepL.append h3 g⟩
theorem RepL.set : ∀ {l : List SV} {vs : List V} (i : Nat) {x : SV} {v : V}, RepL K F l vs → RepV K F x v → RepL K F (l.set i x) (vs.set i v)
  | [], _, _, _, _, h, _ => by rw [show _ = ([] : List V) from h]; exact rfl
  | y :: l, _, 0, x, v, ⟨u, r, h1, h2, h3⟩, g => ⟨v, r, by rw [h1]; rfl, g, h3⟩
  | y :: l, _, i + 1, x, v, ⟨u, r, h1, h2, h3⟩, g => ⟨u, r.set i v, by rw [h1]; rfl, h2, RepL.set i h3 g⟩
theorem RepL.take : ∀ {l : List SV} {vs : List V} (n : Nat), RepL K F l vs → RepL K F (l.take n) (vs.take n)
  | [], _, n, h => by rw [show _ = ([] : List V) from h, List.take_nil, List.take_nil]; exact rfl
  | y :: l, _, 0, _ => rfl
  | y :: l, _, n + 1, ⟨u, r, h1, h2, h3⟩ => ⟨u, r.take n, by rw [h1]; rfl, h2, RepL.take n h3⟩
theorem RepL.drop : ∀ {l : List SV} {vs : List V} (n : Nat), RepL K F l vs → RepL K F (l.drop n) (vs.drop n)
  | [], _, n, h => by rw [show _ = ([] : List V) from h, List.drop_nil, List.drop_nil]; exact rfl
  | y :: l, _, 0, h => h
  | y :: l, _, n + 1, ⟨u, r, h1, h2, h3⟩ => by rw [h1]; exact RepL.drop n h3
theorem RepL.single {x : SV} {v : V} (h : RepV K F x v) : RepL K F [x] [v] := ⟨v, [], rfl, h, rfl⟩
end
/-- not a tuple -/
def NT (o : HO) : Prop := ∀ vs, o ≠ .tup vs

/-- the table at P is apart; the code objects that it tells are the lambda's -/
def TabK (F M : Hp) (S : Sto) (H : Hp) (P : Addr) : Prop := F P = none ∧ M P = none ∧ S P = none ∧ ∃ ps : Array Value, H P = some (.tbl ps) ∧ TriplesOk ps.toList ∧
  ∀ (pos : Pos) (cv : Value), codeAmong pos ps.toList = some cv → ∃ c, cv = .ref c ∧ H c = some (LamX.CodeO c lamQ) ∧ M c = none ∧ S c = none
/-- nothing of the table or of the code objects is changed -/
theorem TabK.go {F M F' M' : Hp} {S S' : Sto} {H H' : Hp} {P : Addr} (h : TabK F M S H P) (e : ∀ a o, H a = some o → M a = none → S a = none → M' a = none ∧ S' a = none ∧ H' a = some o) (f : F P = none → M P = none → S P = none → (∃ ps, H P = some (.tbl ps)) → F' P = none) : TabK F' M' S' H' P := by
  obtain ⟨h1, h2, h3, ps, h4, h5, h6⟩ := h
  obtain ⟨e1, e2, e3⟩ := e P _ h4 h2 h3
  refine ⟨f h1 h2 h3 ⟨ps, h4⟩, e1, e2, ps, e3, h5, fun pos cv hc => ?_⟩
  obtain ⟨c, q1, q2, q3, q4⟩ := h6 pos cv hc
  obtain ⟨z1, z2, z3⟩ := e c _ q2 q3 q4
  exact ⟨c, q1, z3, z1, z2⟩

/-! ### the state: F what is frozen, M what is held apart, S what may change -/
structure Sim (K : PySem.W.Frag) (F M : Hp) (S : Sto) (H : Hp) : Prop where
  f : ∀ a o, F a = some o → H a = some o
  m : ∀ a o, M a = some o → H a = some o ∧ F a = none ∧ S a = none ∧ NT o
  s : ∀ a o, S a = some o → F a = none ∧ ∃ u, H a = some u ∧ RepO K F o u
  t : ∀ c P, LamAt K c P → TabK F M S H P
section
variable {K : PySem.W.Frag} {F F' M H : Hp} {S : Sto}
theorem Same.new {p : Addr} {o : HO} (h : H p = none) : Same H (upd H p o) := fun b x e => by
  rw [upd_ne (ne_of_none e h)]
  exact e
theorem Sim.freeF (q : Sim K F M S H) {p : Addr} (h : H p = none) : F p = none := by
  cases e : F p with
  | none => rfl
  | some o => rw [q.f p o e] at h; cases h
theorem Sim.freeM (q : Sim K F M S H) {p : Addr} (h : H p = none) : M p = none := by
  cases e : M p with
  | none => rfl
  | some o => rw [(q.m p o e).1] at h; cases h
theorem Sim.freeS (q : Sim K F M S H) {p : Addr} (h : H p = none) : S p = none := by
  cases e : S p with
  | none => rfl
  | some o =>
    obtain ⟨_, u, hu, _⟩ := q.s p o e
    rw [hu] at h; cases h
/-- a new frozen thing -/
theorem Sim.newF (q : Sim K F M S H) {p : Addr} {o : HO} (h : H p = none) : Sim K (upd F p o) M S (upd H p o) := by
  have s1 : Same F (upd F p o) := Same.new (q.freeF h)
  refine ⟨fun a u e => ?_, fun a u e => ?_, fun a u e => ?_, fun c P l => (q.t c P l).go (fun a o e h1 h2 => ⟨h1, h2, by rw [upd_ne (ne_of_none e h)]; exact e⟩) fun h1 _ _ ⟨ps, h2⟩ => by rw [upd_ne (ne_of_none h2 h)]; exact h1⟩
  · by_cases ha : a = p
    · subst ha; rw [upd_same] at e ⊢; exact e
    · rw [upd_ne ha] at e ⊢; exact q.f a u e
  · have ha : a ≠ p := fun z => by rw [z, q.freeM h] at e; cases e
    obtain ⟨h1, h2, h3, h4⟩ := q.m a u e
    exact ⟨by rw [upd_ne ha]; exact h1, by rw [upd_ne ha]; exact h2, h3, h4⟩
  · have ha : a ≠ p := fun z => by rw [z, q.freeS h] at e; cases e
    obtain ⟨h1, w, h2, h3⟩ := q.s a u e
    exact ⟨by rw [upd_ne ha]; exact h1, w, by rw [upd_ne ha]; exact h2, RepO.mono s1 h3⟩
/-- a new thing that may change -/
theorem Sim.newS (q : Sim K F M S H) {p : Addr} {o : SO} {u : HO} (h : H p = none) (r : RepO K F o u) : Sim K F M (supd S p o) (upd H p u) := by
  refine ⟨fun a w e => ?_, fun a w e => ?_, fun a w e => ?_, fun c P l => (q.t c P l).go (fun a o e h1 h2 => ⟨h1, by rw [supd_ne (ne_of_none e h)]; exact h2, by rw [upd_ne (ne_of_none e h)]; exact e⟩) fun h1 _ _ _ => h1⟩
  · have ha : a ≠ p := fun z => by rw [z, q.freeF h] at e; cases e
    rw [upd_ne ha]; exact q.f a w e
  · have ha : a ≠ p := fun z => by rw [z, q.freeM h] at e; cases e
    obtain ⟨h1, h2, h3, h4⟩ := q.m a w e
    exact ⟨by rw [upd_ne ha]; exact h1, h2, by rw [supd_ne ha]; exact h3, h4⟩
  · by_cases ha : a = p
    · subst ha
      rw [supd_same] at e
      cases e
      exact ⟨q.freeF h, u, upd_same, r⟩
    · rw [supd_ne ha] at e
      obtain ⟨h1, w', h2, h3⟩ := q.s a w e
      exact ⟨h1, w', by rw [upd_ne ha]; exact h2, h3⟩
/-- a thing changed -/
theorem Sim.set (q : Sim K F M S H) {p : Addr} {o o' : SO} {u : HO} (h : S p = some o) (r : RepO K F o' u) : Sim K F M (supd S p o') (upd H p u) := by
  have hF := (q.s p o h).1
  have np : ∀ {a}, S a = none → a ≠ p := fun h2 z => by rw [z, h] at h2; cases h2
  refine ⟨fun a w e => ?_, fun a w e => ?_, fun a w e => ?_, fun c P l => (q.t c P l).go (fun a o e h1 h2 => ⟨h1, by rw [supd_ne (np h2)]; exact h2, by rw [upd_ne (np h2)]; exact e⟩) fun h1 _ _ _ => h1⟩
  · have ha : a ≠ p := fun z => by rw [z, hF] at e; cases e
    rw [upd_ne ha]; exact q.f a w e
  · have ha : a ≠ p := fun z => by rw [z] at e; rw [(q.m p _ e).2.2.1] at h; cases h
    obtain ⟨h1, h2, h3, h4⟩ := q.m a w e
    exact ⟨by rw [upd_ne ha]; exact h1, h2, by rw [supd_ne ha]; exact h3, h4⟩
  · by_cases ha : a = p
    · subst ha
      rw [supd_same] at e
      cases e
      exact ⟨hF, u, upd_same, r⟩
    · rw [supd_ne ha] at e
      obtain ⟨h1, w', h2, h3⟩ := q.s a w e
      exact ⟨h1, w', by rw [upd_ne ha]; exact h2, h3⟩
/-- held apart: a new thing; it changes; it is let go to the frozen -/
theorem Sim.newM (q : Sim K F M S H) {p : Addr} {o : HO} (h : H p = none) (hn : NT o) : Sim K F (upd M p o) S (upd H p o) := by
  refine ⟨fun a w e => ?_, fun a w e => ?_, fun a w e => ?_, fun c P l => (q.t c P l).go (fun a o e h1 h2 => ⟨by rw [upd_ne (ne_of_none e h)]; exact h1, h2, by rw [upd_ne (ne_of_none e h)]; exact e⟩) fun h1 _ _ _ => h1⟩
  · have ha : a ≠ p := fun z => by rw [z, q.freeF h] at e; cases e
    rw [upd_ne ha]; exact q.f a w e
  · by_cases ha : a = p
    · subst ha
      rw [upd_same] at e ⊢
      cases e
      exact ⟨rfl, q.freeF h, q.freeS h, hn⟩
    · rw [upd_ne ha] at e
      obtain ⟨h1, h2, h3, h4⟩ := q.m a w e
      exact ⟨by rw [upd_ne ha]; exact h1, h2, h3, h4⟩
  · have ha : a ≠ p := fun z => by rw [z, q.freeS h] at e; cases e
    obtain ⟨h1, w', h2, h3⟩ := q.s a w e
    exact ⟨h1, w', by rw [upd_ne ha]; exact h2, h3⟩
theorem Sim.setM (q : Sim K F (upd M p o) S H) {o' : HO} (hn : NT o') : Sim K F (upd M p o') S (upd H p o') := by
  obtain ⟨hp, hF, hS, hN⟩ := q.m p o upd_same
  have np : ∀ {a}, (upd M p o) a = none → a ≠ p := fun h2 z => by rw [z, upd_same] at h2; cases h2
  refine ⟨fun a w e => ?_, fun a w e => ?_, fun a w e => ?_, fun c P l => (q.t c P l).go (fun a o e h1 h2 => ⟨by rw [upd_ne (np h1)]; rw [upd_ne (np h1)] at h1; exact h1, h2, by rw [upd_ne (np h1)]; exact e⟩) fun h1 _ _ _ => h1⟩
  · have ha : a ≠ p := fun z => by rw [z, hF] at e; cases e
    rw [upd_ne ha]; exact q.f a w e
  · by_cases ha : a = p
    · subst ha
      rw [upd_same] at e ⊢
      cases e
      exact ⟨rfl, hF, hS, hn⟩
    · rw [upd_ne ha] at e
      obtain ⟨h1, h2, h3, h4⟩ := q.m a w (by rw [upd_ne ha]; exact e)
      exact ⟨by rw [upd_ne ha]; exact h1, h2, h3, h4⟩
  · have ha : a ≠ p := fun z => by rw [z, hS] at e; cases e
    obtain ⟨h1, w', h2, h3⟩ := q.s a w e
    exact ⟨h1, w', by rw [upd_ne ha]; exact h2, h3⟩
theorem Sim.freezeM {p : Addr} {o : HO} (q : Sim K F (upd M p o) S H) (hM : M p = none) : Same F (upd F p o) ∧ Sim K (upd F p o) M S H := by
  obtain ⟨hp, hF, hS, hN⟩ := q.m p o upd_same
  have s1 : Same F (upd F p o) := Same.new hF
  have np : ∀ {a}, (upd M p o) a = none → a ≠ p := fun h2 z => by rw [z, upd_same] at h2; cases h2
  refine ⟨s1, fun a u e => ?_, fun a w e => ?_, fun a w e => ?_, fun c P l => (q.t c P l).go (fun a o e h1 h2 => ⟨by rw [upd_ne (np h1)] at h1; exact h1, h2, e⟩) fun h1 h2 _ _ => by rw [upd_ne (np h2)]; exact h1⟩
  · by_cases ha : a = p
    · subst ha; rw [upd_same] at e; cases e; exact hp
    · rw [upd_ne ha] at e; exact q.f a u e
  · have ha : a ≠ p := fun z => by rw [z, hM] at e; cases e
    obtain ⟨h1, h2, h3, h4⟩ := q.m a w (by rw [upd_ne ha]; exact e)
    exact ⟨h1, by rw [upd_ne ha]; exact h2, h3, h4⟩
  · have ha : a ≠ p := fun z => by rw [z, hS] at e; cases e
    obtain ⟨h1, w', h2, h3⟩ := q.s a w e
    exact ⟨by rw [upd_ne ha]; exact h1, w', h2, RepO.mono s1 h3⟩
/-- let go to those that may change -/
theorem Sim.ownM {p : Addr} {o : HO} {x : SO} (q : Sim K F (upd M p o) S H) (hM : M p = none) (r : RepO K F x o) : Sim K F M (supd S p x) H := by
  obtain ⟨hp, hF, hS, hN⟩ := q.m p o upd_same
  have np : ∀ {a}, (upd M p o) a = none → a ≠ p := fun h2 z => by rw [z, upd_same] at h2; cases h2
  refine ⟨q.f, fun a w e => ?_, fun a w e => ?_, fun c P l => (q.t c P l).go (fun a o e h1 h2 => ⟨by rw [upd_ne (np h1)] at h1; exact h1, by rw [supd_ne (np h1)]; exact h2, e⟩) fun h1 _ _ _ => h1⟩
  · have ha : a ≠ p := fun z => by rw [z, hM] at e; cases e
    obtain ⟨h1, h2, h3, h4⟩ := q.m a w (by rw [upd_ne ha]; exact e)
    exact ⟨h1, h2, by rw [supd_ne ha]; exact h3, h4⟩
  · by_cases ha : a = p
    · subst ha
      rw [supd_same] at e
      cases e
      exact ⟨hF, o, hp, r⟩
    · rw [supd_ne ha] at e
      exact q.s a w e

/-! ### things that may change let go: they are frozen -/
def Sub (S2 S : Sto) : Prop := ∀ a o, S2 a = some o → S a = some o
open Classical in
noncomputable def frzF (F H : Hp) (S S2 : Sto) : Hp := fun a => match F a with
  | some o => some o
  | none => if (∃ o, S a = some o) ∧ S2 a = none then H a else none
theorem frzF_same {S2 : Sto} : Same F (frzF F H S S2) := fun a o e => by
  unfold frzF
  rw [e]
theorem frzF_at {S2 : Sto} {a : Addr} {o : SO} (hF : F a = none) (h : S a = some o) (h2 : S2 a = none) : frzF F H S S2 a = H a := by
  unfold frzF
  rw [hF]
  exact if_pos ⟨⟨o, h⟩, h2⟩
theorem Sim.freeze {S2 : Sto} (q : Sim K F M S H) (hs : Sub S2 S) : Sim K (frzF F H S S2) M S2 H := by
  have sn : ∀ {a}, S a = none → S2 a = none := fun {a} h => by
    cases z : S2 a with
    | none => rfl
    | some u => rw [hs a u z] at h; cases h
  refine ⟨fun a o e => ?_, fun a o e => ?_, fun a o e => ?_, fun c P l => (q.t c P l).go (fun a o e h1 h2 => ⟨h1, sn h2, e⟩) fun h1 _ h2 _ => ?_⟩
  rotate_left 3
  · unfold frzF
    rw [h1]
    exact if_neg fun z => by
      obtain ⟨⟨u, hu⟩, _⟩ := z
      rw [h2] at hu; cases hu
  · unfold frzF at e
    split at e
    · rename_i u hu
      cases e
      exact q.f a _ hu
    · split at e
      · exact e
      · cases e
  · obtain ⟨h1, h2, h3, h4⟩ := q.m a o e
    refine ⟨h1, ?_, ?_, h4⟩
    · unfold frzF
      rw [h2]
      exact if_neg fun z => by
        obtain ⟨⟨u, hu⟩, _⟩ := z
        rw [h3] at hu; cases hu
    · cases z : S2 a with
      | none => rfl
      | some u => rw [hs a u z] at h3; cases h3
  · obtain ⟨h1, u, h2, h3⟩ := q.s a o (hs a o e)
    refine ⟨?_, u, h2, RepO.mono frzF_same h3⟩
    unfold frzF
    rw [h1]
    exact if_neg fun z => by
      rw [z.2] at e; cases e
end
/-- v' is v, what was let go told by its content -/
inductive Frz (S S2 : Sto) : SV → SV → Prop
  | same (v : SV) : Frz S S2 v v
  | lst {p : Addr} {xs : List SV} (h : S p = some (.lst xs)) (h2 : S2 p = none) : Frz S S2 (.own p) (.lst xs)
  | dK {p : Addr} {ks : List Key} {vs : List SV} (h : S p = some (.dK ks vs)) (h2 : S2 p = none) : Frz S S2 (.own p) (.dK ks vs)
  | dT {p : Addr} {ks : List (List Key)} {vs : List SV} (h : S p = some (.dT ks vs)) (h2 : S2 p = none) : Frz S S2 (.own p) (.dT ks vs)
  /-- a dict of lists, all let go -/
  | dKL {p : Addr} {ks : List Key} {as : List (Addr × List SV)} (h : S p = some (.dK ks (as.map fun a => .own a.1))) (h2 : S2 p = none) (hl : ∀ a ∈ as, S a.1 = some (.lst a.2) ∧ S2 a.1 = none) : Frz S S2 (.own p) (.dK ks (as.map fun a => .lst a.2))
  /-- a list of lists, all let go -/
  | lstL {p : Addr} {as : List (Addr × List SV)} (h : S p = some (.lst (as.map fun a => .own a.1))) (h2 : S2 p = none) (hl : ∀ a ∈ as, S a.1 = some (.lst a.2) ∧ S2 a.1 = none) : Frz S S2 (.own p) (.lst (as.map fun a => .lst a.2))
theorem Sim.frzL {K : PySem.W.Frag} {F M H : Hp} {S S2 : Sto} (q : Sim K F M S H) : ∀ {as : List (Addr × List SV)} {vs : List V}, (∀ a ∈ as, S a.1 = some (.lst a.2) ∧ S2 a.1 = none) → RepL K F (as.map fun a => .own a.1) vs → RepL K (frzF F H S S2) (as.map fun a => .lst a.2) vs := by
  intro as
  induction as with
  | nil => intro vs _ h; exact h
  | cons a as ih =>
    intro vs ha hl
    obtain ⟨v, r, e1, e2, e3⟩ := hl
    obtain ⟨a1, a2⟩ := ha a List.mem_cons_self
    obtain ⟨g1, w, g2, ws, rfl, g3⟩ := q.s _ _ a1
    exact ⟨v, r, e1, ⟨a.1, ws, e2, .inl ((frzF_at g1 a1 a2).trans g2), RepL.mono frzF_same _ _ g3⟩, ih (fun b hb => ha b (List.mem_cons_of_mem _ hb)) e3⟩
theorem Frz.rep {K : PySem.W.Frag} {F M H : Hp} {S S2 : Sto} {x y : SV} {v : V} (f : Frz S S2 x y) (q : Sim K F M S H) (r : RepV K F x v) : RepV K (frzF F H S S2) y v := by
  cases f with
  | same _ => exact RepV.mono frzF_same _ _ r
  | lst h h2 =>
    obtain ⟨h1, u, hu, vs, rfl, hl⟩ := q.s _ _ h
    exact ⟨_, vs, r, .inl ((frzF_at h1 h h2).trans hu), RepL.mono frzF_same _ _ hl⟩
  | dK h h2 =>
    obtain ⟨h1, u, hu, vs, rfl, hz, hl⟩ := q.s _ _ h
    exact ⟨_, vs, r, (frzF_at h1 h h2).trans hu, hz, RepL.mono frzF_same _ _ hl⟩
  | dT h h2 =>
    obtain ⟨h1, u, hu, vs, rfl, hz, hl⟩ := q.s _ _ h
    exact ⟨_, vs, r, (frzF_at h1 h h2).trans hu, hz, RepL.mono frzF_same _ _ hl⟩
  | @dKL p ks as h h2 ha =>
    obtain ⟨h1, u, hu, vs, rfl, hz, hl⟩ := q.s _ _ h
    exact ⟨_, vs, r, (frzF_at h1 h h2).trans hu, hz, q.frzL ha hl⟩
  | @lstL p as h h2 ha =>
    obtain ⟨h1, u, hu, vs, rfl, hl⟩ := q.s _ _ h
    exact ⟨_, vs, r, .inl ((frzF_at h1 h h2).trans hu), q.frzL ha hl⟩
end Sy

namespace Sy
open PySem PySem.Spec PyProof.Rows L2

/-! ### the small tree of a def's body -/
inductive Bi where
  | len | sorted | tuple | list | mn | mx | sum | all | any | abs | int | str | dict | isinst
  deriving DecidableEq
inductive Ty where
  | tuple | list | str | int | bool
  deriving DecidableEq
inductive Mt where
  | append | pop | extend | index | join | split | clear | count | insert | popAt | indexT | remove | indexS
  deriving DecidableEq
inductive ItK where
  | seq | rng1 | rng2 | enum | zip
  deriving DecidableEq
/-- targets: a name, some names -/
inductive MT where
  | one (i : Nat) (x : Str)
  | many (l : List (Nat × Str))
mutual
inductive ME where
  | var (i : Nat) (x : Str)
  | cst (c : Const)
  | glob (x : Str)
  | tup (as : MA)
  | lst (own : Bool) (as : MA)
  | bin (o : Operator) (own : Bool) (a b : ME)
  | cmp (o : CmpOp) (a b : ME)
  | chain (o o2 : CmpOp) (a b c : ME)
  | neg (a : ME)
  | and (a b : ME)
  | or (a b : ME)
  | not (a : ME)
  | idx (a i : ME)
  | sl (own : Bool) (a : ME) (lo hi : MO)
  | call (f : Str) (as : MA)
  | bi (f : Bi) (own : Bool) (as : MA)
  | isi (a : ME) (t : Ty)
  | mt (m : Mt) (own : Bool) (a : ME) (as : MA)
  | lc (own : Bool) (ow : List (Str × Nat)) (elt : ME) (t : MT) (k : ItK) (ia : MA) (c : MO)
  | dnew (tk : Bool)
  | lset (a : ME)
inductive MA where
  | nil
  | cons (e : ME) (as : MA)
inductive MO where
  | none
  | some (e : ME)
end
/-- a call that may raise -/
inductive MX where
  | call (f : Str) (as : MA)
  /-- (x, b); f(a, b, x), which may raise, too; f(x), which raises nothing; x.split(w); [x] -/
  | tup2 (x : MX) (b : ME)
  | callL (f : Str) (a b : ME) (x : MX)
  | pcall (f : Str) (x : MX)
  | spl (own : Bool) (x : MX) (w : Str)
  | one (own : Bool) (x : MX)
/-- the body of a try: one such call, behind some ifs -/
inductive MY where
  | ex (x : MX)
  | asg (t : MT) (x : MX)
  | ifs (c : ME) (a b : MY)
/-- what is done where one is caught: y = e; if isinstance(e, A) and isinstance(e, B) and not isinstance(e, (Cs)): y = w -/
inductive MZ where
  | keep (l : Nat) (y : Str)
  | test (A B : Str) (Cs : List Str) (l : Nat) (y w : Str)
mutual
inductive MS where
  | asg (t : MT) (e : ME)
  | setIx (a i e : ME)
  | ex (e : ME)
  | ret (e : ME)
  | retN
  | ifs (c : ME) (a b : MB)
  | for_ (t : MT) (k : ItK) (ia : MA) (body : MB)
  | whl (c : ME) (body : MB)
  | pass
  | brk
  | cont
  | frz (i : Nat)
  | never
inductive MB where
  | nil
  | cons (s : MS) (b : MB)
end

/-! ### what is wanted -/
abbrev SK := SV → Sto → Prop
abbrev SKs := List SV → Sto → Prop
abbrev Ro := List (Option SV)
abbrev SE := Ro → Sto → SK → Prop
abbrev SEs := Ro → Sto → SKs → Prop
abbrev Cal := Str → List SV → Sto → SK → Prop
/-- what is raised: the class's name, its fields -/
structure Ex where
  c : Str
  w : List (Str × SV)
abbrev XS := Ex → Sto → Prop
def noX : XS := fun _ _ => False
/-- the calls that let nothing out, those that may, and what is wanted where the body raises -/
structure Cls where
  c : Cal
  x : Str → List SV → Sto → SK → XS → Prop
  ex : XS
  /-- the level below; the defs that there are -/
  lv : Nat
  fs : Str → Prop
  /-- a call with a lambda: its object, its code object, what it captured, its meaning -/
  l : Str → SV → (Cal → List SV → Sto → SK → Prop) → List SV → Sto → SK → Prop
/-- a new list -/
def newL (own : Bool) (xs : List SV) (S : Sto) (k : SK) : Prop := xs.length ≤ sizeLine ∧ if own = true then ∀ p, S p = none → k (.own p) (supd S p (.lst xs)) else k (.lst xs) S
/-- the items of a list -/
def items (S : Sto) : SV → Option (List SV)
  | .lst l => some l
  | .own a => match S a with
    | some (.lst l) => some l
    | some (.fz _ l) => some l
    | _ => none
  | _ => none
/-- the items of a list or tuple -/
def seqOf (S : Sto) : SV → Option (List SV)
  | .tup l => some l
  | .tuf l => some l
  | .scr l => some l
  | x => items S x
def keyOf : SV → Option Key
  | .int i => some (.inl i)
  | .str s => some (.inr s)
  | _ => none
def keysOf : List SV → Option (List Key)
  | [] => some []
  | x :: l => (keyOf x).bind fun k => (keysOf l).map fun r => k :: r
/-! data, for == -/
mutual
def toD : SV → Option PyData
  | .non => some .none
  | .bl b => some (.bool b)
  | .int i => some (.int i)
  | .str s => some (.str s)
  | .tup l => (toDs l).map .tuple
  | .tuf l => (toDs l).map .tuple
  | .lst l => (toDs l).map .list
  | .dK _ _ => none
  | .dT _ _ => none
  | .own _ => none
  | .scr _ => none
  | .fnv _ => none
  | .lam _ _ _ _ => none
def toDs : List SV → Option (List PyData)
  | [] => some []
  | x :: l => (toD x).bind fun d => (toDs l).map fun r => d :: r
end
def toDS (S : Sto) (x : SV) : Option PyData := match x with
  | .own a => match S a with
    | some (.lst l) => (toDs l).map .list
    | _ => none
  | _ => toD x
/-- .. a tuple of two lists that may change -/
def toDT (S : Sto) (x : SV) : Option PyData := match x with
  | .tup [a, b] => (match toDS S x with
    | some _ => none
    | none => (toDS S a).bind fun d => (toDS S b).map fun e => .tuple [d, e])
  | _ => none
def eqS (S : Sto) (x y : SV) (k : Bool → Prop) : Prop := ∃ d e, (toDS S x = some d ∨ toDT S x = some d) ∧ (toDS S y = some e ∨ toDT S y = some e) ∧ SeqAt.shaped d = true ∧ SeqAt.shaped e = true ∧ k (d.eqv e)
/-- x in xs -/
def inS (x : SV) (xs : List SV) (k : Bool → Prop) : Prop := ∃ d ds, toD x = some d ∧ toDs xs = some ds ∧ SeqAt.shaped d = true ∧ SeqAt.shaped (.list ds) = true ∧ k (ds.any fun z => PyData.eqv z d)
/-- a part of a list -/
def cutL {α : Type} (xs : List α) (lo hi : Option Int) : List α := List.take (HT.sIx xs.length xs.length hi - HT.sIx xs.length 0 lo) (List.drop (HT.sIx xs.length 0 lo) xs)

def tupOf : SV → Option (List SV)
  | .tup l => some l
  | .tuf l => some l
  | _ => none
def opAdd (own : Bool) (x y : SV) (S : Sto) (k : SK) : Prop := match x, y with
  | .int i, .int j => k (.int (i + j)) S
  | .str a, .str b => a.length + b.length ≤ sizeLine ∧ k (.str (a ++ b)) S
  | .tup a, .tup b => a.length + b.length ≤ sizeLine ∧ k (.tup (a ++ b)) S
  | x, y => if (tupOf x).isSome = true then ∃ a b, tupOf x = some a ∧ tupOf y = some b ∧ a.length + b.length ≤ sizeLine ∧ k (.tup (a ++ b)) S ∧ (b = [] → k x S) ∧ (a = [] → k y S) else ∃ a b, items S x = some a ∧ items S y = some b ∧ newL own (a ++ b) S k
/-- a text, again and again -/
def repS (w : Str) (n : Nat) : Str := ⟨(List.replicate n w.cps.toList).flatten.toArray⟩
def opMul (own : Bool) (x y : SV) (S : Sto) (k : SK) : Prop := match x, y with
  | .int i, .int j => CMul i j ∧ k (.int (i * j)) S
  | .own p, .int j => ∃ l, S p = some (.lst l) ∧ 0 ≤ j ∧ j ≤ 1000 ∧ newL own (List.replicate j.toNat l).flatten S k
  | .lst l, .int j => 0 ≤ j ∧ j ≤ 1000 ∧ newL own (List.replicate j.toNat l).flatten S k
  | .str w, .int j => 0 ≤ j ∧ j ≤ 1000 ∧ w.length ≤ 1000 ∧ k (.str (repS w j.toNat)) S
  | _, _ => False
/-- an operator on two whole numbers -/
def opI (C : Int → Int → Prop) (g : Int → Int → Int) (x y : SV) (S : Sto) (k : SK) : Prop := match x, y with
  | .int i, .int j => C i j ∧ k (.int (g i j)) S
  | _, _ => False
def binS (o : Operator) (own : Bool) : SV → SV → Sto → SK → Prop := match o with
  | .Add => opAdd own
  | .Sub => opI (fun _ _ => True) fun i j => i - j
  | .Mult => opMul own
  | .FloorDiv => opI CDivN fun i j => i.fdiv j
  | .Mod => opI (fun _ j => j ≠ 0) fun i j => i.fmod j
  | .Pow => opI CPow fun i j => i ^ j.toNat
  | .LShift => opI CPow fun i j => i * 2 ^ j.toNat
  | .RShift => opI (fun _ j => 0 ≤ j) fun i j => i / 2 ^ j.toNat
  | .BitAnd => opI (fun _ _ => True) Builtin.bitAnd
  | .BitOr => opI (fun _ _ => True) Builtin.bitOr
  | .BitXor => opI (fun _ _ => True) Builtin.bitXor
  | _ => fun _ _ _ _ => False
def augS (o : Operator) : SV → SV → Sto → SK → Prop := match o with
  | .Add => opI (fun _ _ => True) fun i j => i + j
  | .Sub => opI (fun _ _ => True) fun i j => i - j
  | .Mult => opI CMul fun i j => i * j
  | .BitAnd => opI (fun _ _ => True) Builtin.bitAnd
  | .BitOr => opI (fun _ _ => True) Builtin.bitOr
  | _ => fun _ _ _ _ => False
def strL : List SV → Option (List Str)
  | [] => some []
  | .str s :: l => (strL l).map fun r => s :: r
  | _ => none
abbrev wks (l : List Str) : List (List Nat) := l.map fun a => a.cps.toList
def ordS (f : Int → Int → Bool) (g : List Nat → List Nat → Bool) (t : List (List Nat) → List (List Nat) → Bool) (x y : SV) (S : Sto) (k : SK) : Prop := match x, y with
  | .int i, .int j => k (.bl (f i j)) S
  | .str a, .str b => k (.bl (g a.cps.toList b.cps.toList)) S
  | x, y => ∃ p q a b, tupOf x = some p ∧ strL p = some a ∧ tupOf y = some q ∧ strL q = some b ∧ k (.bl (t (wks a) (wks b))) S
/-! dicts -/
def tKey : SV → Option (List Key)
  | .tup l => keysOf l
  | _ => none
def dicS (S : Sto) : SV → Option SO
  | .dK ks vs => some (.dK ks vs)
  | .dT ks vs => some (.dT ks vs)
  | .own a => match S a with
    | some (.dK ks vs) => some (.dK ks vs)
    | some (.dT ks vs) => some (.dT ks vs)
    | some (.lk _ _ ks vs) => some (.dK ks vs)
    | _ => none
  | _ => none
/-- a dict that may be changed now -/
def dicW (S : Sto) (a : Addr) : Option SO := match S a with
  | some (.dK ks vs) => some (.dK ks vs)
  | some (.dT ks vs) => some (.dT ks vs)
  | _ => none
def getX {κ : Type} [DecidableEq κ] : List κ → List SV → κ → Option SV
  | a :: ks, x :: l, k => if a = k then some x else getX ks l k
  | _, _, _ => none
def putX {κ : Type} [DecidableEq κ] (ks : List κ) (l : List SV) (k : κ) (v : SV) : List κ × List SV :=
  if k ∈ ks then (ks, List.zipWith (fun a x => if a = k then v else x) ks l) else (ks ++ [k], l ++ [v])
/-- what stands at a key -/
def getD : SO → SV → Option (Option SV)
  | .dK ks l, y => (keyOf y).map fun k => getX ks l k
  | .dT ks l, y => (tKey y).map fun k => getX ks l k
  | _, _ => none
def putD : SO → SV → SV → Option SO
  | .dK ks l, y, v => (keyOf y).map fun k => .dK (putX ks l k v).1 (putX ks l k v).2
  | .dT ks l, y, v => (tKey y).map fun k => .dT (putX ks l k v).1 (putX ks l k v).2
  | _, _, _ => none
/-- a field stored -/
def putFS (f : Str) (v : SV) : List (Str × SV) → List (Str × SV)
  | [] => [(f, v)]
  | (g, x) :: r => if g = f then (g, v) :: r else (g, x) :: putFS f v r
def lenD : SO → Nat
  | .dK ks _ => ks.length
  | .dT ks _ => ks.length
  | _ => 0
def inK (neg : Bool) (x y : SV) (S : Sto) (k : SK) : Prop := match y with
  | .str z => ∃ c, x = .str ⟨#[c]⟩ ∧ k (.bl (xor neg (decide (c ∈ z.cps.toList)))) S
  | y => match dicS S y with
    | some d => ∃ o, getD d x = some o ∧ k (.bl (xor neg o.isSome)) S
    | none => ∃ l, seqOf S y = some l ∧ inS x l fun b => k (.bl (xor neg b)) S
def isN : SV → Bool
  | .non => true
  | _ => false
def cmpS (o : CmpOp) : SV → SV → Sto → SK → Prop := match o with
  | .Is => fun x y S k => match y with
    | .bl b => ∃ a, x = .bl a ∧ k (.bl (decide (a = b))) S
    | y => y = .non ∧ k (.bl (isN x)) S
  | .IsNot => fun x y S k => match y with
    | .bl b => ∃ a, x = .bl a ∧ k (.bl !(decide (a = b))) S
    | y => y = .non ∧ k (.bl !(isN x)) S
  | .Eq => fun x y S k => eqS S x y fun b => k (.bl b) S
  | .NotEq => fun x y S k => eqS S x y fun b => k (.bl !b) S
  | .Lt => ordS (fun i j => decide (i < j)) (fun a b => decide (a < b)) fun a b => decide (a < b)
  | .LtE => ordS (fun i j => decide (i ≤ j)) (fun a b => decide (a ≤ b)) fun a b => decide (a ≤ b)
  | .Gt => ordS (fun i j => decide (j < i)) (fun a b => decide (b < a)) fun a b => decide (b < a)
  | .GtE => ordS (fun i j => decide (j ≤ i)) (fun a b => decide (b ≤ a)) fun a b => decide (b ≤ a)
  | .In => inK false
  | .NotIn => inK true
def idxS (x y : SV) (S : Sto) (k : SK) : Prop := match x, y with
  | .str w, .int i => w.length ≤ sizeLine ∧ ∃ c, atI w.cps.toList i = some c ∧ k (.str ⟨#[c]⟩) S
  | x, y => match dicS S x with
    | some d => ∃ v, getD d y = some (some v) ∧ k v S
    | none => ∃ i l v, y = .int i ∧ seqOf S x = some l ∧ atI l i = some v ∧ k v S
def slS (own : Bool) (x : SV) (lo hi : Option Int) (S : Sto) (k : SK) : Prop := match x with
  | .str w => w.length ≤ sizeLine ∧ k (.str (cutS w lo hi)) S
  | .tup l => k (.tup (cutL l lo hi)) S
  | .tuf l => k (.tup (cutL l lo hi)) S ∧ (cutL l lo hi = l → k (.tuf l) S)
  | .scr l => newL own (cutL l lo hi) S k
  | x => ∃ l, items S x = some l ∧ newL own (cutL l lo hi) S k
def lenS (x : SV) (S : Sto) (k : SK) : Prop := match x with
  | .str w => w.length ≤ sizeLine ∧ k (.int w.length) S
  | x => ∃ l, seqOf S x = some l ∧ k (.int l.length) S
def sumI : List SV → Option Int
  | [] => some 0
  | .int i :: l => (sumI l).map fun r => i + r
  | _ => none
def allB : List SV → Option (List Bool)
  | [] => some []
  | .bl b :: l => (allB l).map fun r => b :: r
  | _ => none
def r1 (r : SV → Sto → SK → Prop) : List SV → Sto → SK → Prop
  | [x] => r x
  | _ => fun _ _ => False
def r2 (r : SV → SV → Sto → SK → Prop) : List SV → Sto → SK → Prop
  | [x, y] => r x y
  | _ => fun _ _ => False
def keySV : Key → SV
  | .inl i => .int i
  | .inr s => .str s
/-- what is walked of a thing: the items of a list or tuple, the keys of a dict -/
def srcOf (S : Sto) (x : SV) : Option (List SV) := match dicS S x with
  | some (.dK ks _) => some (ks.map keySV)
  | some (.dT ks _) => some (ks.map fun r => SV.tup (r.map keySV))
  | _ => seqOf S x
/-- without f -/
def wo (S : Sto) (f : Addr) : Sto := fun a => if a = f then none else S a
theorem wo_same {S : Sto} {f : Addr} : wo S f f = none := if_pos rfl
theorem wo_ne {S : Sto} {f a : Addr} (h : a ≠ f) : wo S f a = S a := if_neg h
def listS (own : Bool) (x : SV) (S : Sto) (k : SK) : Prop := match x with
  | .str w => w.length ≤ sizeLine ∧ newL own (w.cps.toList.map fun c => .str ⟨#[c]⟩) S k
  | x => ∃ l, srcOf S x = some l ∧ newL own l S k
def tupleS (own : Bool) (x : SV) (S : Sto) (k : SK) : Prop := match x with
  | .tup l => k (.tup l) S
  | .tuf l => k (.tuf l) S
  | .str w => w.length ≤ sizeLine ∧ k (if own = true then .tup (w.cps.toList.map fun c => .str ⟨#[c]⟩) else .tuf (w.cps.toList.map fun c => .str ⟨#[c]⟩)) S
  | x => ∃ l, items S x = some l ∧ k (if own = true then .tup l else .tuf l) S
def mnS (x y : SV) (S : Sto) (k : SK) : Prop := match x, y with
  | .str a, .str b => k (.str (if b.cps.toList < a.cps.toList then b else a)) S
  | .int i, .int j => k (.int (if j < i then j else i)) S
  | _, _ => False
def mxS (x y : SV) (S : Sto) (k : SK) : Prop := match x, y with
  | .str a, .str b => k (.str (if a.cps.toList < b.cps.toList then b else a)) S
  | .int i, .int j => k (.int (if j > i then j else i)) S
  | _, _ => False
def mnL (x : SV) (S : Sto) (k : SK) : Prop := ∃ l d0 dr, items S x = some l ∧ toDs l = some (d0 :: dr) ∧ PySem.W.AlikeAll (d0 :: dr) ∧ SeqAt.shaped (.list (d0 :: dr)) = true ∧ PyData.depthAll (d0 :: dr) ≤ 62 ∧ ∀ (i : Nat) v, l[i]? = some v → toD v = some (PySem.W.minD d0 dr) → k v S
def mnA : List SV → Sto → SK → Prop
  | [x] => mnL x
  | [x, y] => mnS x y
  | _ => fun _ _ => False
def mxL (x : SV) (S : Sto) (k : SK) : Prop := ∃ l d0 dr, items S x = some l ∧ toDs l = some (d0 :: dr) ∧ PySem.W.AlikeAll (d0 :: dr) ∧ SeqAt.shaped (.list (d0 :: dr)) = true ∧ PyData.depthAll (d0 :: dr) ≤ 62 ∧ ∀ (i : Nat) v, l[i]? = some v → toD v = some (PySem.W.maxD d0 dr) → k v S
def mxA : List SV → Sto → SK → Prop
  | [x] => mxL x
  | [x, y] => mxS x y
  | _ => fun _ _ => False
def absS (x : SV) (S : Sto) (k : SK) : Prop := match x with
  | .int i => k (.int (if i < 0 then -i else i)) S
  | _ => False
def intS (x : SV) (S : Sto) (k : SK) : Prop := match x with
  | .int i => k (.int i) S
  | .bl b => k (.int (if b = true then 1 else 0)) S
  | _ => False
def sumS (x : SV) (S : Sto) (k : SK) : Prop := ∃ l n, items S x = some l ∧ sumI l = some n ∧ k (.int n) S
def allS (x : SV) (S : Sto) (k : SK) : Prop := ∃ l bs, items S x = some l ∧ allB l = some bs ∧ k (.bl (bs.all id)) S
def anyS (x : SV) (S : Sto) (k : SK) : Prop := ∃ l bs, items S x = some l ∧ allB l = some bs ∧ k (.bl (bs.any id)) S
/-- a value as data, for its order -/
def datE (x : SV) : PyData := (toD x).getD .none
def srtL (l : List SV) : List SV := l.mergeSort (PySem.W.dataLe false datE)
/-- what can be sorted: such data, or one thing at most -/
def SrtOk (ds : List PyData) : Prop := PySem.W.Sortable ds ∨ (ds.length ≤ 1 ∧ ∀ d ∈ ds, d ≠ .none) ∨ ∀ d ∈ ds, ∃ xs, d = .tuple xs
def sortedS (own : Bool) (x : SV) (S : Sto) (k : SK) : Prop := ∃ l ds, srcOf S x = some l ∧ toDs l = some ds ∧ PySem.W.AllAlike ds ∧ SrtOk ds ∧ (∀ d ∈ ds, d.depth ≤ 8) ∧ newL own (srtL l) S k
def strS (x : SV) (S : Sto) (k : SK) : Prop := match x with
  | .int i => i.natAbs < 2 ^ 64 ∧ k (.str (toString i)) S
  | _ => False
def biS (f : Bi) (own : Bool) : List SV → Sto → SK → Prop := match f with
  | .len => r1 lenS
  | .list => r1 (listS own)
  | .tuple => r1 (tupleS own)
  | .mn => mnA
  | .mx => mxA
  | .abs => r1 absS
  | .int => r1 intS
  | .sum => r1 sumS
  | .all => r1 allS
  | .any => r1 anyS
  | .sorted => r1 (sortedS own)
  | .str => r1 strS
  | _ => fun _ _ _ => False
inductive Cl where
  | list | tuple | int | str | bool | none
  deriving DecidableEq
def clsS (S : Sto) (x : SV) : Option Cl := match items S x with
  | some _ => some .list
  | none => match x with
    | .tup _ => some .tuple
    | .tuf _ => some .tuple
    | .int _ => some .int
    | .str _ => some .str
    | .bl _ => some .bool
    | .non => some .none
    | _ => none
def isCl : Ty → Cl → Bool
  | .tuple, .tuple => true
  | .list, .list => true
  | .int, .int => true
  | .int, .bool => true
  | .str, .str => true
  | .bool, .bool => true
  | _, _ => false
def isTy (t : Ty) (S : Sto) (x : SV) : Option Bool := (clsS S x).map (isCl t)
def appendS (x v : SV) (S : Sto) (k : SK) : Prop := match x with
  | .own p => ∃ l, S p = some (.lst l) ∧ l.length < sizeLine ∧ k .non (supd S p (.lst (l ++ [v])))
  | _ => False
def extendS (x v : SV) (S : Sto) (k : SK) : Prop := match x with
  | .own p => ∃ l r, S p = some (.lst l) ∧ items S v = some r ∧ l.length + r.length ≤ sizeLine ∧ k .non (supd S p (.lst (l ++ r)))
  | _ => False
def joinS (x v : SV) (S : Sto) (k : SK) : Prop := match x with
  | .str a => ∃ l ys, seqOf S v = some l ∧ strL l = some ys ∧ (ys.map fun y => y.length).sum + ys.length * a.length ≤ 16777216 ∧ k (.str (Txt.join a ys)) S
  | _ => False
def popS (x v : SV) (S : Sto) (k : SK) : Prop := match x, v with
  | .own p, .int i => ∃ l j y, S p = some (.lst l) ∧ -(2 ^ 62) ≤ i ∧ i < 2 ^ 62 ∧ ixN l.length i = some j ∧ l[j]? = some y ∧ k y (supd S p (.lst (l.eraseIdx j)))
  | _, _ => False
def indexS (x v : SV) (S : Sto) (k : SK) : Prop := ∃ (ws : List Str) (a : Str), seqOf S x = some (ws.map SV.str) ∧ v = .str a ∧ a ∈ ws ∧ k (.int (ws.idxOf a : Nat)) S
def splitS (own : Bool) (x y : SV) (S : Sto) (k : SK) : Prop := match x, y with
  | .str a, .str b => (b.length == 0) = false ∧ a.length + 2 ≤ sizeLine ∧ newL own ((Txt.split a b).map SV.str) S k
  | _, _ => False
def pop0S (x : SV) (S : Sto) (k : SK) : Prop := match x with
  | .own p => ∃ l y, S p = some (.lst l) ∧ l[l.length - 1]? = some y ∧ k y (supd S p (.lst l.dropLast))
  | _ => False
def clearS (x : SV) (S : Sto) (k : SK) : Prop := match x with
  | .own p => ∃ l, S p = some (.lst l) ∧ k .non (supd S p (.lst []))
  | _ => False
def r0 (r : Sto → SK → Prop) : List SV → Sto → SK → Prop
  | [] => r
  | _ => fun _ _ => False
def insertS (x v y : SV) (S : Sto) (k : SK) : Prop := match x, v with
  | .own p, .int i => ∃ l, S p = some (.lst l) ∧ l.length < sizeLine ∧ 0 ≤ i ∧ i < 2 ^ 62 ∧ k .non (supd S p (.lst (l.take i.toNat ++ [y] ++ l.drop i.toNat)))
  | _, _ => False
def lcountS (x v : SV) (S : Sto) (k : SK) : Prop := ∃ l ds d, items S x = some l ∧ toDs l = some ds ∧ toD v = some d ∧ SeqAt.shaped (.list ds) = true ∧ SeqAt.shaped d = true ∧ k (.int (ds.countP fun z => PyData.eqv z d : Nat)) S
def lindexS (x v : SV) (S : Sto) (k : SK) : Prop := ∃ l ds d j z, items S x = some l ∧ toDs l = some ds ∧ toD v = some d ∧ SeqAt.shaped (.list ds) = true ∧ SeqAt.shaped d = true ∧ ds[j]? = some z ∧ PyData.eqv z d = true ∧ (∀ m z', m < j → ds[m]? = some z' → PyData.eqv z' d = false) ∧ k (.int (j : Nat)) S
/-- the first thing that is alike is taken out -/
def removeS (x v : SV) (S : Sto) (k : SK) : Prop := match x with
  | .own p => ∃ l ds d j z, S p = some (.lst l) ∧ toDs l = some ds ∧ toD v = some d ∧ SeqAt.shaped (.list ds) = true ∧ SeqAt.shaped d = true ∧ ds[j]? = some z ∧ PyData.eqv z d = true ∧ (∀ m z', m < j → ds[m]? = some z' → PyData.eqv z' d = false) ∧ k .non (supd S p (.lst (l.eraseIdx j)))
  | _ => False
/-- where a text stands in a text first -/
def sindexS (x v : SV) (S : Sto) (k : SK) : Prop := ∃ a b i rest, x = .str a ∧ v = .str b ∧ Builtin.Str.occurrences a b 0 a.length 1 = i :: rest ∧ k (.int (i : Nat)) S
def mtS (m : Mt) (own : Bool) (x : SV) : List SV → Sto → SK → Prop := match m with
  | .append => r1 (appendS x)
  | .extend => r1 (extendS x)
  | .join => r1 (joinS x)
  | .split => r1 (splitS own x)
  | .popAt => r1 (popS x)
  | .count => r1 (lcountS x)
  | .pop => r0 (pop0S x)
  | .clear => r0 (clearS x)
  | .insert => r2 (insertS x)
  | .index => r1 (lindexS x)
  | .remove => r1 (removeS x)
  | .indexT => fun v S k => (∃ l, x = .tuf l) ∧ r1 (indexS x) v S k
  | .indexS => r1 (sindexS x)
/-- what a method is of -/
def rcvS (m : Mt) (S : Sto) (x : SV) : Prop := match m with
  | .join => ∃ s, x = .str s
  | .split => ∃ s, x = .str s
  | .indexT => ∃ l, x = .tuf l
  | .indexS => ∃ s, x = .str s
  | _ => ∃ l, items S x = some l
/-! targets -/
def tgI : MT → List Nat
  | .one i _ => [i]
  | .many l => l.map Prod.fst
def setAll : List Nat → List SV → Ro → Option Ro
  | [], [], ρ => some ρ
  | i :: is, x :: xs, ρ => setAll is xs (ρ.set i (some x))
  | _, _, _ => none
def tgS (t : MT) (S : Sto) (x : SV) (ρ : Ro) (k : Ro → Prop) : Prop := match t with
  | .one i _ => k (ρ.set i (some x))
  | .many l => ∃ xs ρ', (x = .tup xs ∨ x = .tuf xs ∨ items S x = some xs) ∧ setAll (l.map Prod.fst) xs ρ = some ρ' ∧ k ρ'
/-! what is walked: the items -/
def rngL (lo : Int) (n : Nat) : List SV := (List.range n).map fun i : Nat => SV.int (lo + (i : Int))
def enumL (l : List SV) (i : Nat) : List SV := match l with
  | [] => []
  | x :: r => .tup [.int (i : Int), x] :: enumL r (i + 1)
def zipL (l m : List SV) : List SV := match l, m with
  | x :: r, y :: s => .tup [x, y] :: zipL r s
  | _, _ => []
def itS (k : ItK) (vs : List SV) (S : Sto) (q : List SV → Prop) : Prop := match k, vs with
  | .seq, [.str w] => q (w.cps.toList.map fun c => .str ⟨#[c]⟩)
  | .seq, [.lst l] => q l
  | .seq, [.tup l] => q l
  | .seq, [.tuf l] => q l
  | .rng1, [.int j] => -(2 ^ 62) ≤ j ∧ j < 2 ^ 62 ∧ q (rngL 0 j.toNat)
  | .rng2, [.int i, .int j] => (-(2 ^ 62) ≤ i ∧ i < 2 ^ 62 ∧ -(2 ^ 62) ≤ j ∧ j < 2 ^ 62) ∧ q (rngL i (j - i).toNat)
  | .enum, [.lst l] => q (enumL l 0)
  | .enum, [.tup l] => q (enumL l 0)
  | .enum, [.tuf l] => q (enumL l 0)
  | .zip, [.lst l, .lst m] => q (zipL l m)
  | .zip, [.tup l, .tup m] => q (zipL l m)
  | .zip, [.tuf l, .tuf m] => q (zipL l m)
  | .zip, [.tup l, .tuf m] => q (zipL l m)
  | .zip, [.tuf l, .tup m] => q (zipL l m)
  | _, _ => False
def wipeR (ρ : Ro) : List Nat → Ro
  | [] => ρ
  | v :: vs => (wipeR ρ vs).set v none
/-- a comprehension's turns -/
def lcRun (t : MT) (ρ : Ro) (cc : Ro → Sto → (Bool → Sto → Prop) → Prop) (ec : SE) : List SV → List SV → Sto → (List SV → Sto → Prop) → Prop
  | [], acc, S, Q => Q acc S
  | x :: r, acc, S, Q => tgS t S x ρ fun ρ' => cc ρ' S fun b S' => if b = true then ec ρ' S' fun v S'' => acc.length < sizeLine ∧ lcRun t ρ cc ec r (acc ++ [v]) S'' Q else lcRun t ρ cc ec r acc S' Q
def cstS : Const → Option SV
  | .none => some .non
  | .bool b => some (.bl b)
  | .int i => some (.int i)
  | .str s => some (.str s)
  | _ => none
/-- the unlike ones of some texts, in the order in which they came -/
def metS : List PySem.Str → List PySem.Str → List PySem.Str
  | acc, [] => acc
  | acc, x :: r => metS (if x ∈ acc then acc else acc ++ [x]) r
/-- the unlike ones, in the order in which they came -/
def metX {κ : Type} [DecidableEq κ] : List κ → List κ → List κ
  | acc, [] => acc
  | acc, x :: r => metX (if x ∈ acc then acc else acc ++ [x]) r
section
variable (C : Cal) (g : Str → Option SV)
mutual
def wE : ME → SE
  | .var i _ => fun ρ S k => ∃ v, ρ[i]? = some (some v) ∧ k v S
  | .cst c => fun _ S k => ∃ v, cstS c = some v ∧ k v S
  | .glob x => fun _ S k => ∃ v, g x = some v ∧ k v S
  | .tup as => fun ρ S k => wA as ρ S fun vs S' => vs.length ≤ sizeLine ∧ k (.tup vs) S'
  | .lst own as => fun ρ S k => wA as ρ S fun vs S' => newL own vs S' k
  | .bin o own a b => fun ρ S k => wE a ρ S fun x S1 => wE b ρ S1 fun y S2 => binS o own x y S2 k
  | .cmp o a b => fun ρ S k => wE a ρ S fun x S1 => wE b ρ S1 fun y S2 => cmpS o x y S2 k
  | .chain o o2 a b c => fun ρ S k => wE a ρ S fun x S1 => wE b ρ S1 fun y S2 => cmpS o x y S2 fun r S3 => ∃ q, r = .bl q ∧ if q = true then wE c ρ S3 fun z S4 => cmpS o2 y z S4 k else k (.bl false) S3
  | .neg a => fun ρ S k => wE a ρ S fun x S1 => ∃ i, x = .int i ∧ k (.int (-i)) S1
  | .and a b => fun ρ S k => wE a ρ S fun x S1 => ∃ q, x = .bl q ∧ if q = true then wE b ρ S1 k else k (.bl false) S1
  | .or a b => fun ρ S k => wE a ρ S fun x S1 => ∃ q, x = .bl q ∧ if q = true then k (.bl true) S1 else wE b ρ S1 k
  | .not a => fun ρ S k => wE a ρ S fun x S1 => ∃ q, x = .bl q ∧ k (.bl !q) S1
  | .idx a i => fun ρ S k => wE a ρ S fun x S1 => wE i ρ S1 fun y S2 => idxS x y S2 k
  | .sl own a lo hi => fun ρ S k => wE a ρ S fun x S1 => wO lo ρ S1 fun l S2 => wO hi ρ S2 fun h S3 => slS own x l h S3 k
  | .call f as => fun ρ S k => wA as ρ S fun vs S' => C f vs S' k
  | .bi f own as => fun ρ S k => wA as ρ S fun vs S' => biS f own vs S' k
  | .isi a t => fun ρ S k => wE a ρ S fun x S1 => ∃ b, isTy t S1 x = some b ∧ k (.bl b) S1
  | .mt m own a as => fun ρ S k => wE a ρ S fun x S1 => rcvS m S1 x ∧ wA as ρ S1 fun vs S2 => mtS m own x vs S2 k
  | .lc own ow elt t ik ia c => fun ρ S k => wA ia ρ S fun vs S1 => itS ik vs S1 fun l =>
      lcRun t (wipeR ρ (ow.map Prod.snd)) (wC c) (wE elt) l [] S1 fun acc S2 => newL own acc S2 k
  | .lset a => fun ρ S k => wE a ρ S fun x S1 => ∃ l ys, (items S1 x = some l ∨ tupOf x = some l) ∧ strL l = some ys ∧ ys.length ≤ 4000 ∧ k (.int ((metS [] ys).length : Nat)) S1
  | .dnew tk => fun _ S k => ∀ p, S p = none → k (.own p) (supd S p (if tk = true then .dT [] [] else .dK [] []))
def wA : MA → SEs
  | .nil => fun _ S k => k [] S
  | .cons e as => fun ρ S k => wE e ρ S fun v S1 => wA as ρ S1 fun vs S2 => k (v :: vs) S2
/-- a bound of a part -/
def wO : MO → Ro → Sto → (Option Int → Sto → Prop) → Prop
  | .none => fun _ S k => k none S
  | .some e => fun ρ S k => wE e ρ S fun v S1 => ∃ i, v = .int i ∧ k (some i) S1
/-- a condition -/
def wC : MO → Ro → Sto → (Bool → Sto → Prop) → Prop
  | .none => fun _ S k => k true S
  | .some e => fun ρ S k => wE e ρ S fun v S1 => ∃ b, v = .bl b ∧ k b S1
end
def wT (e : ME) (ρ : Ro) (S : Sto) (k : Bool → Sto → Prop) : Prop := wE C g e ρ S fun v S1 => ∃ b, v = .bl b ∧ k b S1

end
structure SD where
  nx : Ro → Sto → Prop
  rt : SK
  bk : Ro → Sto → Prop
  ct : Ro → Sto → Prop
abbrev SS := SD → Ro → Sto → Prop
/-- a loop's turns -/
def forRun (t : MT) (body : SS) (D : SD) : List SV → Ro → Sto → Prop
  | [], ρ, S => D.nx ρ S
  | x :: r, ρ, S => tgS t S x ρ fun ρ' => body ⟨forRun t body D r, D.rt, D.nx, forRun t body D r⟩ ρ' S
def whileS (tc : Ro → Sto → (Bool → Sto → Prop) → Prop) (body : SS) (D : SD) (ρ : Ro) (S : Sto) : Prop :=
  ∃ W : Nat → Ro → Sto → Prop, (∃ m, W m ρ S) ∧ ∀ m ρ S, W m ρ S → tc ρ S fun b S1 => if b = true then body ⟨fun ρ' S' => ∃ m', m' < m ∧ W m' ρ' S', D.rt, D.nx, fun ρ' S' => ∃ m', m' < m ∧ W m' ρ' S'⟩ ρ S1 else D.nx ρ S1
def setS (x y v : SV) (S : Sto) (q : Sto → Prop) : Prop := match x with
  | .own p => match dicW S p with
    | some d => ∃ d', putD d y v = some d' ∧ lenD d < sizeLine ∧ q (supd S p d')
    | none => ∃ i l j, y = .int i ∧ S p = some (.lst l) ∧ ixN l.length i = some j ∧ q (supd S p (.lst (l.set j v)))
  | _ => False
/-- what comes behind a call: what was made within and is not told any more is let go -/
def fin (Q : SK) (v : SV) (S : Sto) : Prop := ∃ S2 v', Sub S2 S ∧ Frz S S2 v v' ∧ Q v' S2
section
variable (C : Cls) (g : Str → Option SV) (ex : XS)
/-- a call that may raise, by what is wanted where it does -/
def wX : MX → SE
  | .call f as => fun ρ S k => wA C.c g as ρ S fun vs S1 => C.x f vs S1 k ex
  | .tup2 x b => fun ρ S k => wX x ρ S fun v S1 => wE C.c g b ρ S1 fun u S2 => k (.tup [v, u]) S2
  | .callL f a b x => fun ρ S k => wE C.c g a ρ S fun u S1 => wE C.c g b ρ S1 fun v S2 => wX x ρ S2 fun w S3 => C.x f [u, v, w] S3 k ex
  | .pcall f x => fun ρ S k => wX x ρ S fun v S1 => C.c f [v] S1 k
  | .spl own x w => fun ρ S k => wX x ρ S fun v S1 => splitS own v (.str w) S1 k
  | .one own x => fun ρ S k => wX x ρ S fun v S1 => newL own [v] S1 k
def wY : MY → (Ro → Sto → Prop) → Ro → Sto → Prop
  | .ex x => fun nx ρ S => wX C g ex x ρ S fun _ S1 => nx ρ S1
  | .asg t x => fun nx ρ S => wX C g ex x ρ S fun v S1 => tgS t S1 v ρ fun ρ' => nx ρ' S1
  | .ifs c a b => fun nx ρ S => wT C.c g c ρ S fun q S1 => if q = true then wY a nx ρ S1 else wY b nx ρ S1
end
section
variable (C : Cls) (g : Str → Option SV)
mutual
def wS : MS → SS
  | .asg t e => fun D ρ S => wE C.c g e ρ S fun v S1 => tgS t S1 v ρ fun ρ' => D.nx ρ' S1
  | .setIx a i e => fun D ρ S => wE C.c g e ρ S fun v S1 => wE C.c g a ρ S1 fun x S2 => wE C.c g i ρ S2 fun y S3 => setS x y v S3 fun S4 => D.nx ρ S4
  | .ex e => fun D ρ S => wE C.c g e ρ S fun _ S1 => D.nx ρ S1
  | .ret e => fun D ρ S => wE C.c g e ρ S D.rt
  | .retN => fun D _ S => D.rt .non S
  | .ifs c a b => fun D ρ S => wT C.c g c ρ S fun q S1 => if q = true then wB a D ρ S1 else wB b D ρ S1
  | .for_ t k ia body => fun D ρ S => wA C.c g ia ρ S fun vs S1 => itS k vs S1 fun l => forRun t (wB body) D l ρ S1
  | .whl c body => fun D ρ S => whileS (wT C.c g c) (wB body) D ρ S
  | .pass => fun D ρ S => D.nx ρ S
  | .brk => fun D ρ S => D.bk ρ S
  | .cont => fun D ρ S => D.ct ρ S
  | .frz i => fun D ρ S => ∃ p S2 v, ρ[i]? = some (some (.own p)) ∧ Sub S2 S ∧ Frz S S2 (.own p) v ∧ D.nx (ρ.set i (some v)) S2
  | .never => fun _ _ _ => False
def wB : MB → SS
  | .nil => fun D ρ S => D.nx ρ S
  | .cons s b => fun D ρ S => wS s ⟨fun ρ' S' => wB b D ρ' S', D.rt, D.bk, D.ct⟩ ρ S
end
end
/-- a def of the program -/
structure Def where
  ps : List Str
  N : List Str
  body : MB
def startR (d : Def) (vs : List SV) : Ro := vs.map some ++ List.replicate (d.N.length - vs.length) none
def finX (E : XS) : XS := fun e S => ∃ S2, Sub S2 S ∧ E e S2
/-- no method's full name -/
def noDot (f : PySem.Str) : Bool := f.cps.all fun c => c != 46
def noL : Str → SV → (Cal → List SV → Sto → SK → Prop) → List SV → Sto → SK → Prop := fun _ _ _ _ _ _ => False
/-- a body, by what its calls mean -/
def runB (P : Str → Option Def) (g : Str → Option SV) (C : XS → Cls) (f : Str) (vs : List SV) (S : Sto) (Q : SK) (E : XS) : Prop := ∃ d, P f = some d ∧ vs.length = d.ps.length ∧ wB (C E) g d.body ⟨fun _ S' => fin Q .non S', fin Q, fun _ _ => False, fun _ _ => False⟩ (startR d vs) S
/-- calls where no lambda is made -/
def callX0 (P : Str → Option Def) (g : Str → Option SV) : Nat → Str → List SV → Sto → SK → XS → Prop
  | 0 => fun _ _ _ _ _ => False
  | k + 1 => runB P g fun E => ⟨fun f vs S Q => callX0 P g k f vs S Q noX, callX0 P g k, finX E, k, fun f => (P f).isSome = true ∧ noDot f = true, noL⟩
def callS0 (P : Str → Option Def) (g : Str → Option SV) (k : Nat) : Cal := fun f vs S Q => callX0 P g k f vs S Q noX
/-- the calls within a def that got the lambda x, whose meaning is R -/
def calL (P : Str → Option Def) (g : Str → Option SV) (k : Nat) (x : SV) (R : Cal → List SV → Sto → SK → Prop) : Cal := fun f vs S Q =>
  if f = "<is lambda>" then vs = [x] else if f = "<lambda>" then ∃ us, vs = x :: us ∧ R (callS0 P g k) us S Q else callS0 P g (k + 1) f vs S Q
/-- a call with a lambda at level k -/
def callL (P : Str → Option Def) (g : Str → Option SV) : Nat → Str → SV → (Cal → List SV → Sto → SK → Prop) → List SV → Sto → SK → Prop
  | k + 2 => fun f x R vs S Q => runB P g (fun E => ⟨calL P g k x R, callX0 P g (k + 1), finX E, k + 1, fun f => (P f).isSome = true ∧ noDot f = true, noL⟩) f vs S Q noX
  | _ => noL
/-- a call at level k: what is wanted of its value, and of what it raises -/
def callX (P : Str → Option Def) (g : Str → Option SV) : Nat → Str → List SV → Sto → SK → XS → Prop
  | 0 => fun _ _ _ _ _ => False
  | k + 1 => runB P g fun E => ⟨fun f vs S Q => callX P g k f vs S Q noX, callX P g k, finX E, k, fun f => (P f).isSome = true ∧ noDot f = true, callL P g k⟩
def callS (P : Str → Option Def) (g : Str → Option SV) (k : Nat) : Cal := fun f vs S Q => callX P g k f vs S Q noX

/-! ### is a small tree that of a written body? -/
def ex0 : List Str := ["NoRow", "NoAsk"]
def ex1 : List (Str × Str) := [("NoName", "word"), ("NoWeb", "row")]
/-- the names' slots, the defs that may be called -/
structure Ck where
  N : List Str
  T : List Str
  /-- the classes of refusals that the row has -/
  E : List Str := []
  /-- the def may make a lambda -/
  L : Bool := false
  /-- the methods: full name, class, name -/
  M : List (Str × Str × Str) := []
def nmE (N : List Str) (sc : Scope) (i : Nat) (x : Str) : Bool := decide (N[i]? = some x) && (x != "__debug__") && (x != "__classdict__") && (match sc.names.lookup x with
  | some .local => true
  | some .cell => true
  | some .free => true
  | _ => false)
def glE (sc : Scope) (x : Str) : Bool := (match sc.names.lookup x with
  | some .globalImplicit => true
  | _ => false) && (x != "__debug__") && (x != "__name__")
/-- a name that is stored -/
def stE (N : List Str) (rs : Scope) (i : Nat) (x : Str) : Bool := decide (N[i]? = some x) && (match rs.names.lookup x with
  | some .local => true
  | some .cell => true
  | _ => false)
def biN : Bi → Str
  | .len => "len"
  | .sorted => "sorted"
  | .tuple => "tuple"
  | .list => "list"
  | .mn => "min"
  | .mx => "max"
  | .sum => "sum"
  | .all => "all"
  | .any => "any"
  | .abs => "abs"
  | .int => "int"
  | .str => "str"
  | .dict => "dict"
  | .isinst => "isinstance"
def tyN : Ty → Str
  | .tuple => "tuple"
  | .list => "list"
  | .str => "str"
  | .int => "int"
  | .bool => "bool"
def mtN : Mt → Str
  | .append => "append"
  | .pop => "pop"
  | .extend => "extend"
  | .index => "index"
  | .join => "join"
  | .split => "split"
  | .clear => "clear"
  | .count => "count"
  | .insert => "insert"
  | .popAt => "pop"
  | .indexT => "index"
  | .indexS => "index"
  | .remove => "remove"
def mtIn : Mt → Bool
  | .append => true
  | .extend => true
  | .join => true
  | .split => true
  | .popAt => true
  | .indexT => true
  | .indexS => true
  | .count => true
  | .pop => true
  | .clear => true
  | .insert => true
  | .index => true
  | .remove => true
def mtA : Mt → Nat
  | .insert => 2
  | .pop => 0
  | .clear => 0
  | _ => 1
def tgE (N : List Str) (rs : Scope) : MT → Expr → Bool
  | .one i x, .Name y _ => decide (x = y) && stE N rs i x
  | .many l, .Tuple es _ _ => decide (l.length = es.length) && (l.zip es).all fun p => match p.2 with
    | .Name y _ => decide (p.1.2 = y) && stE N rs p.1.1 p.1.2
    | _ => false
  | _, _ => false
def tupE : Expr → Bool
  | .Tuple _ _ _ => true
  | _ => false
/-- what may stand as a test -/
def tM : ME → Bool
  | .and a b => tM a && tM b
  | .or a b => tM a && tM b
  | .not a => tM a
  | _ => true
/-- a list [l + w, e2, e3, e4, o.replace(y, z, 1)] -/
def lstRE : Expr → Option (Expr × Str × Expr × Expr × Expr × Expr × Str × Str)
  | .List [.BinOp l .Add (.Constant (.str w) _ _) _, e2, e3, e4, .Call (.Attribute o m apos) [.Constant (.str y) _ _, .Constant (.str z) _ _, .Constant (.int i) _ _] [] pos] _ =>
    if (decide (m = "replace") && decide (i = 1) && (apos.endLine == pos.line) && !(y == z)) = true then some (l, w, e2, e3, e4, o, y, z) else none
  | _ => none
mutual
def cE (N : Ck) (sc : Scope) : ME → Expr → Bool
  | .var i x, .Name y _ => decide (x = y) && nmE N.N sc i x
  | .cst c, .Constant c' _ _ => decide (c = c') && (cstS c).isSome
  | .glob x, .Name y _ => decide (x = y) && glE sc x
  | .tup as, .Tuple es _ _ => cA N sc as es
  | .lst _ as, .List es _ => cA N sc as es
  | .bin o _ a b, .BinOp l o' r _ => decide (o = o') && cE N sc a l && cE N sc b r
  | .cmp o a b, .Compare l [o'] [r] _ => decide (o = o') && cE N sc a l && cE N sc b r
  | .chain o o2 a b c, .Compare l [o', o2'] [m, r] _ => decide (o = o') && decide (o2 = o2') && cE N sc a l && cE N sc b m && cE N sc c r
  | .neg a, .UnaryOp .USub e _ => cE N sc a e
  | .not a, .UnaryOp .Not e _ => cE N sc a e
  | .and a b, .BoolOp .And [x, y] _ => cE N sc a x && cE N sc b y
  | .and a b, .BoolOp .And (x :: y :: z :: r) pos => cE N sc a x && cE N sc b (.BoolOp .And (y :: z :: r) pos)
  | .or a b, .BoolOp .Or [x, y] _ => cE N sc a x && cE N sc b y
  | .or a b, .BoolOp .Or (x :: y :: z :: r) pos => cE N sc a x && cE N sc b (.BoolOp .Or (y :: z :: r) pos)
  | .idx a i, .Subscript x y _ => cE N sc a x && cE N sc i y
  | .sl _ a lo hi, .Subscript x (.Slice l h none _) _ => cE N sc a x && cO N sc lo l && cO N sc hi h
  | .call f as, .Call (.Name y _) es [] _ => decide (f = y) && glE sc f && decide (f ∈ N.T) && cA N sc as es
  | .bi f _ as, .Call (.Name y _) es [] _ => decide (biN f = y) && glE sc y && cA N sc as es
  | .isi a t, .Call (.Name y _) [e, .Name z _] [] _ => decide (y = "isinstance") && glE sc y && decide (tyN t = z) && glE sc z && cE N sc a e
  | .mt m _ a as, .Call (.Attribute o y apos) es [] pos => mtIn m && decide (mtN m = y) && (apos.endLine == pos.line) && decide (es.length = mtA m) && cE N sc a o && cA N sc as es
  | .lc _ ow elt t ik ia c, .ListComp e [⟨tg, iter, ifs, 0⟩] scope _ => blkC N.N sc scope ow && (tgI t).all (fun i => decide (i ∈ ow.map Prod.snd)) && tgE N.N scope t tg && cI N sc ik ia iter (tupE tg) && cC N (relS scope sc) c ifs && cE N (relS scope sc) elt e
  | .lset a, .Call (.Name y _) [.Call (.Name z _) [e] [] _] [] _ => decide (y = "len") && glE sc y && decide (z = "set") && glE sc z && cE N sc a e
  | .dnew _, .Dict [] [] _ => true
  | _, _ => false
def cA (N : Ck) (sc : Scope) : MA → List Expr → Bool
  | .nil, [] => true
  | .cons m as, e :: es => cE N sc m e && cA N sc as es
  | _, _ => false
def cO (N : Ck) (sc : Scope) : MO → Option Expr → Bool
  | .none, none => true
  | .some m, some e => cE N sc m e
  | _, _ => false
def cC (N : Ck) (sc : Scope) : MO → List Expr → Bool
  | .none, [] => true
  | .some m, [e] => tM m && cE N sc m e
  | _, _ => false
/-- what is walked (tu: into a written tuple of names) -/
def cI (N : Ck) (sc : Scope) : ItK → MA → Expr → Bool → Bool
  | .seq, .cons m .nil, e, _ => cE N sc m e
  | .rng1, .cons m .nil, .Call (.Name y _) [a] [] _, _ => decide (y = "range") && glE sc y && cE N sc m a
  | .rng2, .cons m (.cons m2 .nil), .Call (.Name y _) [a, b] [] _, _ => decide (y = "range") && glE sc y && cE N sc m a && cE N sc m2 b
  | .enum, .cons m .nil, .Call (.Name y _) [a] [] _, tu => tu && decide (y = "enumerate") && glE sc y && cE N sc m a
  | .zip, .cons m (.cons m2 .nil), .Call (.Name y _) [a, b] [] _, tu => tu && decide (y = "zip") && glE sc y && cE N sc m a && cE N sc m2 b
  | _, _, _, _ => false
end
def lcE : Expr → Bool
  | .ListComp _ _ _ _ => true
  | _ => false
def tupX : MX → Bool
  | .tup2 _ _ => true
  | _ => false
def cX (N : Ck) (sc : Scope) : MX → Expr → Bool
  | .call f as, .Call (.Name x _) es [] _ => decide (f = x) && decide (f ∈ N.T) && glE sc f && !es.isEmpty && cA N sc as es
  | .tup2 x b, .Tuple [e1, e2] _ _ => cX N sc x e1 && cE N sc b e2
  | .callL f a b x, .Call (.Name y _) [e1, e2, e3] [] _ => decide (f = y) && decide (f ∈ N.T) && glE sc f && cE N sc a e1 && cE N sc b e2 && cX N sc x e3
  | .pcall f x, .Call (.Name y _) [e] [] _ => decide (f = y) && decide (f ∈ N.T) && glE sc f && cX N sc x e
  | .spl _ x w, .Call (.Attribute o m apos) [.Constant (.str w') _ _] [] pos => (apos.endLine == pos.line) && decide (m = "split") && decide (w = w') && cX N sc x o
  | .one _ x, .List [e] _ => cX N sc x e
  | _, _ => false
def cY (N : Ck) (sc : Scope) : MY → Stmt → Bool
  | .ex x, .Expr v _ => cX N sc x v
  | .asg t x, .Assign [tg] v _ => tgE N.N sc t tg && !tupX x && cX N sc x v
  | .ifs c a b, .If t [s1] [s2] _ => tM c && cE N sc c t && cY N sc a s1 && cY N sc b s2
  | _, _ => false
mutual
def cS (N : Ck) (sc : Scope) : MS → Stmt → Bool
  | .asg t e, .Assign [tg] v _ => tgE N.N sc t tg && cE N sc e v && !(tupE tg && tupE v)
  | .setIx a i e, .Assign [.Subscript l j _] v _ => cE N sc a l && cE N sc i j && cE N sc e v
  | .ex e, .Expr v _ => cE N sc e v && !lcE v
  | .ret e, .Return (some v) _ => cE N sc e v
  | .retN, .Return none _ => true
  | .ifs c a b, .If t x y _ => tM c && cE N sc c t && cB N sc a x && cB N sc b y
  | .for_ t k ia body, .For tg iter st [] _ => tgE N.N sc t tg && cI N sc k ia iter (tupE tg) && cB N sc body st
  | .whl c body, .While t st [] _ => tM c && cE N sc c t && cB N sc body st
  | .pass, .Pass _ => true
  | .brk, .Break _ => true
  | .cont, .Continue _ => true
  | .never, _ => true
  | _, _ => false
def cB (N : Ck) (sc : Scope) : MB → List Stmt → Bool
  | .nil, [] => true
  | .cons (.frz i) b, sts => cB N sc b sts
  | .cons s b, st :: sts => cS N sc s st && cB N sc b sts
  | _, _ => false
end
end Sy

/-! tuples of texts, in order -/
namespace Sy
open PySem PySem.Spec PyProof.Rows L2
theorem lex_lt (A B : List (List Nat)) : ∀ k i, i + k = min A.length B.length → Ob.lexAt (fun j => decide (A.getD j [] = B.getD j [])) (fun j => decide (A.getD j [] < B.getD j [])) (decide (A.length < B.length)) i k = decide (A.drop i < B.drop i)
  | 0, i, h => by
    rw [Ob.lexAt_zero]
    rcases Nat.lt_or_ge A.length B.length with z | z
    · have e : A.drop i = [] := List.drop_eq_nil_of_le (by omega)
      rw [e, decide_eq_true z]
      cases hb : B.drop i with
      | nil =>
        have := congrArg List.length hb
        rw [List.length_drop, List.length_nil] at this
        omega
      | cons b r => exact (decide_eq_true (List.nil_lt_cons _ _)).symm
    · have e : B.drop i = [] := List.drop_eq_nil_of_le (by omega)
      rw [e, decide_eq_false (by omega)]
      exact (decide_eq_false (List.not_lt_nil _)).symm
  | k + 1, i, h => by
    have ha : i < A.length := by omega
    have hb : i < B.length := by omega
    rw [Ob.lexAt_succ, lex_lt A B k (i + 1) (by omega), List.drop_eq_getElem_cons ha, List.drop_eq_getElem_cons hb]
    have e1 : A.getD i [] = A[i] := by rw [List.getD_eq_getElem?_getD, List.getElem?_eq_getElem ha]; rfl
    have e2 : B.getD i [] = B[i] := by rw [List.getD_eq_getElem?_getD, List.getElem?_eq_getElem hb]; rfl
    simp only [e1, e2]
    generalize A.drop (i + 1) = P
    generalize B.drop (i + 1) = R
    generalize A[i] = a
    generalize B[i] = b
    by_cases e : a = b
    · simp [e, List.cons_lt_cons_iff, List.lt_irrefl]
    · simp [e, List.cons_lt_cons_iff]
theorem lex_le (A B : List (List Nat)) : ∀ k i, i + k = min A.length B.length → Ob.lexAt (fun j => decide (A.getD j [] = B.getD j [])) (fun j => decide (A.getD j [] ≤ B.getD j [])) (decide (A.length ≤ B.length)) i k = decide (A.drop i ≤ B.drop i)
  | 0, i, h => by
    rw [Ob.lexAt_zero]
    rcases Nat.lt_or_ge B.length A.length with z | z
    · have e : B.drop i = [] := List.drop_eq_nil_of_le (by omega)
      rw [e, decide_eq_false (by omega)]
      cases hb : A.drop i with
      | nil =>
        have := congrArg List.length hb
        rw [List.length_drop, List.length_nil] at this
        omega
      | cons b r => exact (decide_eq_false (fun q => List.not_lt.mpr q (List.nil_lt_cons _ _))).symm
    · have e : A.drop i = [] := List.drop_eq_nil_of_le (by omega)
      rw [e, decide_eq_true z]
      exact (decide_eq_true (List.nil_le _)).symm
  | k + 1, i, h => by
    have ha : i < A.length := by omega
    have hb : i < B.length := by omega
    rw [Ob.lexAt_succ, lex_le A B k (i + 1) (by omega), List.drop_eq_getElem_cons ha, List.drop_eq_getElem_cons hb]
    have e1 : A.getD i [] = A[i] := by rw [List.getD_eq_getElem?_getD, List.getElem?_eq_getElem ha]; rfl
    have e2 : B.getD i [] = B[i] := by rw [List.getD_eq_getElem?_getD, List.getElem?_eq_getElem hb]; rfl
    simp only [e1, e2]
    generalize A.drop (i + 1) = P
    generalize B.drop (i + 1) = R
    generalize A[i] = a
    generalize B[i] = b
    by_cases e : a = b
    · simp [e, List.cons_le_cons_iff, List.lt_irrefl]
    · have : a ≤ b ↔ a < b := ⟨fun q => (List.le_iff_lt_or_eq.mp q).elim id fun z => absurd z e, List.le_of_lt⟩
      simp [e, List.cons_le_cons_iff, this]
theorem lex_gt (A B : List (List Nat)) (k i : Nat) (h : i + k = min A.length B.length) : Ob.lexAt (fun j => decide (A.getD j [] = B.getD j [])) (fun j => decide (B.getD j [] < A.getD j [])) (decide (B.length < A.length)) i k = decide (B.drop i < A.drop i) := by
  rw [← lex_lt B A k i (by omega)]
  congr 1
  funext j
  simp only [eq_comm]
theorem lex_ge (A B : List (List Nat)) (k i : Nat) (h : i + k = min A.length B.length) : Ob.lexAt (fun j => decide (A.getD j [] = B.getD j [])) (fun j => decide (B.getD j [] ≤ A.getD j [])) (decide (B.length ≤ A.length)) i k = decide (B.drop i ≤ A.drop i) := by
  rw [← lex_le B A k i (by omega)]
  congr 1
  funext j
  simp only [eq_comm]
/-- x op y, tuples of texts -/
def rOrdT (K : PySem.W.Frag) (t : List (List Nat) → List (List Nat) → Bool) : R2 := fun x y H Q => ∃ (a b : Addr) (p q : List Str), x = .ref a ∧ y = .ref b ∧ SqT K H a (p.map V.str) ∧ SqT K H b (q.map V.str) ∧ Q (.bl (t (wks p) (wks q))) H
theorem str_at : ∀ {ys : List Str} {us : List Value}, Vals (ys.map V.str) us → ∀ (j : Nat) (h : j < us.length), ∃ x t, us[j] = Value.str x t ∧ ys[j]? = some x
  | [], _, .nil, j, h => by cases h
  | y :: ys, _, .cons r t, j, h => by
    obtain ⟨k, rfl⟩ := r
    cases j with
    | zero => exact ⟨y, k, rfl, rfl⟩
    | succ j =>
      obtain ⟨x, t', e1, e2⟩ := str_at t j (by simpa using h)
      exact ⟨x, t', by simpa using e1, by simpa using e2⟩
theorem wks_at {ys : List Str} {j : Nat} {x : Str} (h : ys[j]? = some x) : (wks ys).getD j [] = x.cps.toList := by
  rw [List.getD_eq_getElem?_getD, List.getElem?_map, h]
  rfl
section
variable {X : Cx}
theorem op_ordT {c : CmpOp} {t : List (List Nat) → List (List Nat) → Bool} {r : List Nat → List Nat → Bool} {z : Nat → Nat → Bool}
    (hs : ∀ (A : Around) (s : Shared) (x y : Str) (t u : Tok), Ob.RcOp c A s (.str x t) (.str y u) (r x.cps.toList y.cps.toList))
    (hl : ∀ A B : List (List Nat), Ob.lexAt (fun j => decide (A.getD j [] = B.getD j [])) (fun j => r (A.getD j []) (B.getD j [])) (z A.length B.length) 0 (min A.length B.length) = t A B)
    (hT : ∀ (s : Shared) (l b : Addr) (items items2 : Array Value) (e r : Nat → Bool), s.heap.IsTuple l items → s.heap.IsTuple b items2 → (∀ j (h1 : j < items.size) (h2 : j < items2.size), SeqAt.EqAt X.A.in1 s items[j] items2[j] (e j)) →
      (∀ j (h1 : j < items.size) (h2 : j < items2.size), e j = false → Ob.RcOp c X.A.in1 s items[j] items2[j] (r j)) → Ob.RcOp c X.A s (.ref l) (.ref b) (Ob.lexAt e r (z items.size items2.size) 0 (min items.size items2.size)))
    (hop : ∀ (s : Shared) (x y : Value) (E : Value → Shared → Prop) (Q : Value → Shared → Prop), wpAny (model X.prog X.w) X.A (richCompare c x y) Q E s → wpAny (model X.prog X.w) X.A (compareOp c x y) Q E s) : OpR X (compareOp c) (rOrdT X.K t) := by
  intro pins s σ H x y v u Q I rx ry h
  obtain ⟨a, b, p, q, rfl, rfl, ha, hb, hq⟩ := h
  cases rx
  cases ry
  obtain ⟨its, r1, p1, _⟩ := I.tuple ha
  obtain ⟨its2, r2, p2, _⟩ := I.tuple hb
  have e1 : its.toArray.size = p.length := by rw [List.size_toArray, ← r1.length, List.length_map]
  have e2 : its2.toArray.size = q.length := by rw [List.size_toArray, ← r2.length, List.length_map]
  have R := hT s a b its.toArray its2.toArray (fun j => decide ((wks p).getD j [] = (wks q).getD j [])) (fun j => r ((wks p).getD j []) ((wks q).getD j [])) p1 p2 (fun j h1 h2 => by
    obtain ⟨x, t1, ex, gx⟩ := str_at r1 j (by simpa using h1)
    obtain ⟨y, t2, ey, gy⟩ := str_at r2 j (by simpa using h2)
    have ex' : its.toArray[j] = Value.str x t1 := by simpa using ex
    have ey' : its2.toArray[j] = Value.str y t2 := by simpa using ey
    rw [ex', ey', wks_at gx, wks_at gy]
    have z : (x == y) = decide (x.cps.toList = y.cps.toList) := by
      by_cases e : x = y
      · subst e; simp
      · rw [decide_eq_false fun w => e (PySem.W.str_of_cps w)]
        exact beq_eq_false_iff_ne.mpr e
    rw [← z]
    exact SeqAt.EqAt.str_str _ _ _ _) (fun j h1 h2 _ => by
    obtain ⟨x, t1, ex, gx⟩ := str_at r1 j (by simpa using h1)
    obtain ⟨y, t2, ey, gy⟩ := str_at r2 j (by simpa using h2)
    have ex' : its.toArray[j] = Value.str x t1 := by simpa using ex
    have ey' : its2.toArray[j] = Value.str y t2 := by simpa using ey
    rw [ex', ey', wks_at gx, wks_at gy]
    exact hs _ _ _ _ _ _)
  rw [e1, e2, show p.length = (wks p).length from (List.length_map _).symm, show q.length = (wks q).length from (List.length_map _).symm, hl] at R
  exact hop s _ _ _ _ (R X.prog X.w X.xe (EP X pins σ Q) ⟨.bl _, H, I, rfl, hq⟩)
theorem not_lt_dec (a b : List Nat) : (!decide (b < a)) = decide (a ≤ b) := by
  by_cases h : b < a
  · have : ¬ a ≤ b := fun z => (List.not_le.mpr h) z
    simp [h, this]
  · have : a ≤ b := List.not_lt.mp h
    simp [h, this]
theorem op_ltTS (hu : X.A.units < cLine) : OpR X (compareOp .Lt) (rOrdT X.K fun a b => decide (a < b)) :=
  op_ordT (r := fun a b => decide (a < b)) (z := fun m n => decide (m < n)) (fun _ _ _ _ _ _ _ _ _ _ h => lt_str h) (fun A B => lex_lt A B _ 0 (by omega)) (fun s l b i1 i2 e r h1 h2 he hr => Ob.RcOp.tuples_lt h1 h2 hu he hr) fun _ _ _ _ _ h => h
theorem op_leTS (hu : X.A.units < cLine) : OpR X (compareOp .LtE) (rOrdT X.K fun a b => decide (a ≤ b)) :=
  op_ordT (r := fun a b => decide (a ≤ b)) (z := fun m n => decide (m ≤ n)) (fun _ _ _ _ _ _ _ _ _ _ h => PySem.P.le_str (by rw [not_lt_dec]; exact h)) (fun A B => lex_le A B _ 0 (by omega)) (fun s l b i1 i2 e r h1 h2 he hr => Ob.RcOp.tuples_le h1 h2 hu he hr) fun _ _ _ _ _ h => h
theorem op_gtTS (hu : X.A.units < cLine) : OpR X (compareOp .Gt) (rOrdT X.K fun a b => decide (b < a)) :=
  op_ordT (r := fun a b => decide (b < a)) (z := fun m n => decide (n < m)) (fun _ _ _ _ _ _ _ _ _ _ h => PySem.P.gt_str h) (fun A B => lex_gt A B _ 0 (by omega)) (fun s l b i1 i2 e r h1 h2 he hr => Ob.RcOp.tuples_gt h1 h2 hu he hr) fun _ _ _ _ _ h => h
theorem op_geTS (hu : X.A.units < cLine) : OpR X (compareOp .GtE) (rOrdT X.K fun a b => decide (b ≤ a)) :=
  op_ordT (r := fun a b => decide (b ≤ a)) (z := fun m n => decide (n ≤ m)) (fun _ _ _ _ _ _ _ _ _ _ h => PySem.P.ge_str (by rw [not_lt_dec]; exact h)) (fun A B => lex_ge A B _ 0 (by omega)) (fun s l b i1 i2 e r h1 h2 he hr => Ob.RcOp.tuples_ge h1 h2 hu he hr) fun _ _ _ _ _ h => h
end
end Sy

namespace Sy
open PySem PySem.Spec PyProof.Rows L2

/-! ### the readings of the layer by the data -/
def RepR (K : PySem.W.Frag) (F : Hp) (ρ : Ro) (σ : L2.St) : Prop := ρ.length = σ.length ∧ ∀ (i : Nat) (x : SV), ρ[i]? = some (some x) → ∃ v, σ[i]? = some (some v) ∧ RepV K F x v
/-- what is wanted, of the things that stand for the data -/
def Kk (K : PySem.W.Frag) (F M : Hp) (k : SK) (Q : VK) : Prop := ∀ F' S' H' x v, Same F F' → Sim K F' M S' H' → RepV K F' x v → k x S' → Q v H'
def LE (K : PySem.W.Frag) (t : SE) : TE := fun σ H Q => ∃ F M S ρ k, RepR K F ρ σ ∧ Sim K F M S H ∧ t ρ S k ∧ Kk K F M k Q
def LA (K : PySem.W.Frag) (t : SEs) : TA := fun σ H Q => ∃ F M S ρ k, RepR K F ρ σ ∧ Sim K F M S H ∧ t ρ S k ∧ ∀ F' S' H' xs vs, Same F F' → Sim K F' M S' H' → RepL K F' xs vs → k xs S' → Q vs H'
def LT (K : PySem.W.Frag) (t : Ro → Sto → (Bool → Sto → Prop) → Prop) : TT := fun σ H Q => ∃ F M S ρ k, RepR K F ρ σ ∧ Sim K F M S H ∧ t ρ S k ∧ ∀ F' S' H' b, Same F F' → Sim K F' M S' H' → k b S' → Q b H'
def LO (K : PySem.W.Frag) (t : Ro → Sto → (Option Int → Sto → Prop) → Prop) : TO := fun σ H Q => ∃ F M S ρ k, RepR K F ρ σ ∧ Sim K F M S H ∧ t ρ S k ∧ ∀ F' S' H' o, Same F F' → Sim K F' M S' H' → k o S' → Q o H'
def LR2 (K : PySem.W.Frag) (r : SV → SV → Sto → SK → Prop) : R2 := fun v u H Q => ∃ F M S x y k, RepV K F x v ∧ RepV K F y u ∧ Sim K F M S H ∧ r x y S k ∧ Kk K F M k Q
def LR1 (K : PySem.W.Frag) (r : SV → Sto → SK → Prop) : V → Hp → VK → Prop := fun v H Q => ∃ F M S x k, RepV K F x v ∧ Sim K F M S H ∧ r x S k ∧ Kk K F M k Q
def LRs (K : PySem.W.Frag) (r : List SV → Sto → SK → Prop) : List V → Hp → VK → Prop := fun vs H Q => ∃ F M S xs k, RepL K F xs vs ∧ Sim K F M S H ∧ r xs S k ∧ Kk K F M k Q
def LRm (K : PySem.W.Frag) (r : SV → List SV → Sto → SK → Prop) : V → List V → Hp → VK → Prop := fun v vs H Q => ∃ F M S x xs k, RepV K F x v ∧ RepL K F xs vs ∧ Sim K F M S H ∧ r x xs S k ∧ Kk K F M k Q
def LSp (K : PySem.W.Frag) (c : List SV → Sto → SK → Prop) : Sp := fun vs H Q _ => LRs K c vs H Q

section
variable {K : PySem.W.Frag} {F F' M H : Hp} {S : Sto} {ρ : Ro} {σ : L2.St}
theorem Same.rfl' : Same F F := fun _ _ h => h
theorem RepR.mono (e : Same F F') (h : RepR K F ρ σ) : RepR K F' ρ σ := ⟨h.1, fun i x q => let ⟨v, a, b⟩ := h.2 i x q; ⟨v, a, RepV.mono e _ _ b⟩⟩
theorem RepR.set (h : RepR K F ρ σ) (i : Nat) {x : SV} {v : V} (r : RepV K F x v) : RepR K F (ρ.set i (some x)) (σ.set i (some v)) := by
  refine ⟨by rw [List.length_set, List.length_set, h.1], fun j y e => ?_⟩
  by_cases hj : i = j
  · subst hj
    have hl : i < ρ.length := by
      by_cases hl : i < ρ.length
      · exact hl
      · rw [List.getElem?_eq_none (by rw [List.length_set]; omega)] at e; cases e
    rw [List.getElem?_set_self hl] at e
    cases e
    exact ⟨v, List.getElem?_set_self (by rw [← h.1]; exact hl), r⟩
  · rw [List.getElem?_set_ne hj] at e
    obtain ⟨w, a, b⟩ := h.2 j y e
    exact ⟨w, by rw [List.getElem?_set_ne hj]; exact a, b⟩
theorem RepR.none (h : RepR K F ρ σ) (i : Nat) : RepR K F (ρ.set i Option.none) (σ.set i Option.none) := by
  refine ⟨by rw [List.length_set, List.length_set, h.1], fun j y e => ?_⟩
  by_cases hj : i = j
  · subst hj
    by_cases hl : i < ρ.length
    · rw [List.getElem?_set_self hl] at e; cases e
    · rw [List.getElem?_eq_none (by rw [List.length_set]; omega)] at e; cases e
  · rw [List.getElem?_set_ne hj] at e
    obtain ⟨w, a, b⟩ := h.2 j y e
    exact ⟨w, by rw [List.getElem?_set_ne hj]; exact a, b⟩
theorem RepR.wipe (h : RepR K F ρ σ) : ∀ vs : List Nat, RepR K F (wipeR ρ vs) (L2.wipe σ vs)
  | [] => h
  | v :: vs => RepR.none (RepR.wipe h vs) v
theorem Kk.mono {k : SK} {Q : VK} (e : Same F F') (h : Kk K F M k Q) : Kk K F' M k Q := fun F2 S' H' x v s q r z => h F2 S' H' x v (e.trans s) q r z
theorem Kk.go {k : SK} {Q : VK} (h : Kk K F M k Q) (q : Sim K F M S H) {x : SV} {v : V} (r : RepV K F x v) (z : k x S) : Q v H := h F S H x v Same.rfl' q r z
theorem PE.imp {X : Cx} {e : PySem.Expr} {t t' : TE} (h : PE X e t) (q : ∀ σ H Q, t' σ H Q → t σ H Q) : PE X e t' := ⟨fun pins s σ H Q I z => h.run pins s σ H Q I (q σ H Q z)⟩
theorem PT.imp {X : Cx} {e : PySem.Expr} {t t' : TT} (h : PT X e t) (q : ∀ σ H Q, t' σ H Q → t σ H Q) : PT X e t' := ⟨fun pins s σ H Q I z => h.run pins s σ H Q I (q σ H Q z)⟩
theorem PW.imp {X : Cx} {e : PySem.Expr} {t t' : TT} (h : PW X e t) (q : ∀ σ H Q, t' σ H Q → t σ H Q) : PW X e t' := ⟨fun whole pins s σ H Q I z => h.run whole pins s σ H Q I (q σ H Q z)⟩
theorem PA.imp {X : Cx} {es : List PySem.Expr} {t t' : TA} (h : PA X es t) (q : ∀ σ H Q, t' σ H Q → t σ H Q) : PA X es t' := ⟨fun pos pins s σ H Q I z => h.run pos pins s σ H Q I (q σ H Q z)⟩
theorem PS.imp {X : Cx} {e : PySem.Stmt} {t t' : TS} (h : PS X e t) (q : ∀ D σ H, t' D σ H → t D σ H) : PS X e t' := ⟨fun pins s σ H D I z => h.run pins s σ H D I (q D σ H z)⟩
theorem PSs.imp {X : Cx} {e : List PySem.Stmt} {t t' : TS} (h : PSs X e t) (q : ∀ D σ H, t' D σ H → t D σ H) : PSs X e t' := ⟨fun pins s σ H D I z => h.run pins s σ H D I (q D σ H z)⟩
theorem PO.imp {X : Cx} {e : Option PySem.Expr} {t t' : TO} (h : PO X e t) (q : ∀ σ H Q, t' σ H Q → t σ H Q) : PO X e t' := ⟨fun pins s σ H Q I z => h.run pins s σ H Q I (q σ H Q z)⟩
end

/-! ### lists and tuples as they stand -/
section
variable {K : PySem.W.Frag} {F F' M H : Hp} {S : Sto}
theorem items_rd (q : Sim K F M S H) {x : SV} {v : V} {l : List SV} (r : RepV K F x v) (h : items S x = some l) : ∃ a vs, v = .ref a ∧ Rd H a (.lst vs) ∧ RepL K F l vs := by
  cases x with
  | lst m =>
    cases (show some m = some l from h)
    obtain ⟨a, vs, rfl, h2, h3⟩ := r
    exact ⟨a, vs, rfl, Same.rd q.f h2, h3⟩
  | own a =>
    unfold items at h
    simp only at h
    split at h
    · rename_i m e
      cases h
      obtain ⟨_, u, hu, vs, rfl, h3⟩ := q.s _ _ e
      exact ⟨a, vs, r, .inl hu, h3⟩
    · rename_i o m e
      cases h
      obtain ⟨_, u, hu, vs, rfl, h3⟩ := q.s _ _ e
      exact ⟨a, vs, r, .inr ⟨o, hu⟩, h3⟩
    · cases h
  | _ => cases h
theorem items_l (q : Sim K F M S H) {x : SV} {v : V} {l : List SV} (r : RepV K F x v) (h : items S x = some l) : ∃ a vs, v = .ref a ∧ SqL K H a vs ∧ RepL K F l vs := by
  obtain ⟨a, vs, h1, h2, h3⟩ := items_rd q r h
  exact ⟨a, vs, h1, .inl h2, h3⟩
theorem tup_t (q : Sim K F M S H) {v : V} {l : List SV} (r : RepV K F (.tup l) v) : ∃ a vs, v = .ref a ∧ SqT K H a vs ∧ RepL K F l vs := by
  obtain ⟨a, vs, h1, h2, h3⟩ := r
  exact ⟨a, vs, h1, .inl (.inl (q.f _ _ h2)), h3⟩
theorem tuf_t (q : Sim K F M S H) {v : V} {l : List SV} (r : RepV K F (.tuf l) v) : ∃ a vs, v = .ref a ∧ SqT K H a vs ∧ RepL K F l vs := by
  obtain ⟨a, vs, h1, h2, h3⟩ := r
  exact ⟨a, vs, h1, (TufAt.mono q.f h2).sqT, h3⟩
theorem tupOf_t (q : Sim K F M S H) {x : SV} {v : V} {l : List SV} (r : RepV K F x v) (h : tupOf x = some l) : ∃ a vs, v = .ref a ∧ SqT K H a vs ∧ RepL K F l vs := by
  cases x <;> first | (cases h; done) | skip
  · cases h
    exact tup_t q r
  · cases h
    exact tuf_t q r
theorem seq_lt (q : Sim K F M S H) {x : SV} {v : V} {l : List SV} (r : RepV K F x v) (h : seqOf S x = some l) : ∃ a vs, v = .ref a ∧ (SqL K H a vs ∨ SqT K H a vs) ∧ RepL K F l vs := by
  cases x with
  | tup m =>
    cases (show some m = some l from h)
    obtain ⟨a, vs, h1, h2, h3⟩ := tup_t q r
    exact ⟨a, vs, h1, .inr h2, h3⟩
  | tuf m =>
    cases (show some m = some l from h)
    obtain ⟨a, vs, h1, h2, h3⟩ := r
    exact ⟨a, vs, h1, .inr (TufAt.mono q.f h2).sqT, h3⟩
  | scr m =>
    cases (show some m = some l from h)
    obtain ⟨a, vs, h1, h2, h3⟩ := r
    exact ⟨a, vs, h1, .inl (Same.sqL q.f h2), h3⟩
  | _ =>
    obtain ⟨a, vs, h1, h2, h3⟩ := items_l q r (show items S _ = some l from h)
    exact ⟨a, vs, h1, .inl h2, h3⟩
/-- a new list comes -/
theorem newL_ok {own : Bool} {xs : List SV} {vs : List V} {k : SK} {Q : VK} (q : Sim K F M S H) (r : RepL K F xs vs) (h : newL own xs S k) (kk : Kk K F M k Q) {p : Addr} (hp : H p = none) : Q (.ref p) (upd H p (.lst vs)) := by
  obtain ⟨_, h⟩ := h
  cases own with
  | true =>
    have h' : ∀ p, S p = none → k (.own p) (supd S p (.lst xs)) := by simpa using h
    exact kk F _ _ (.own p) _ Same.rfl' (q.newS (o := .lst xs) hp ⟨vs, rfl, r⟩) rfl (h' p (q.freeS hp))
  | false =>
    have h' : k (.lst xs) S := by simpa using h
    have s1 : Same F (upd F p (.lst vs)) := Same.new (q.freeF hp)
    exact kk _ _ _ (.lst xs) _ s1 (q.newF hp) ⟨p, vs, rfl, .inl upd_same, RepL.mono s1 _ _ r⟩ h'
theorem newT_ok {xs : List SV} {vs : List V} {k : SK} {Q : VK} (q : Sim K F M S H) (r : RepL K F xs vs) (h : k (.tup xs) S) (kk : Kk K F M k Q) {p : Addr} (hp : H p = none) : Q (.ref p) (upd H p (.tup vs)) := by
  have s1 : Same F (upd F p (.tup vs)) := Same.new (q.freeF hp)
  exact kk _ _ _ (.tup xs) _ s1 (q.newF hp) ⟨p, vs, rfl, upd_same, RepL.mono s1 _ _ r⟩ h
theorem cut_rep {xs : List SV} {vs : List V} (r : RepL K F xs vs) (lo hi : Option Int) : RepL K F (cutL xs lo hi) (cutV vs lo hi) := by
  unfold cutL cutV
  rw [r.length]
  exact RepL.take _ (RepL.drop _ r)
end

/-! ### data for == -/
section
variable {K : PySem.W.Frag} {F M H : Hp} {S : Sto}
mutual
theorem toD_ok (f : ∀ a o, F a = some o → H a = some o) : ∀ (x : SV) (v : V) (d : PyData), RepV K F x v → toD x = some d → Dp K H v d
  | .non, v, d, r, h => by
    have e : some PyData.none = some d := by simpa [toD] using h
    cases e
    rw [show v = .non from r]
    exact .non
  | .bl b, v, d, r, h => by
    have e : some (PyData.bool b) = some d := by simpa [toD] using h
    cases e
    rw [show v = .bl b from r]
    exact .bl b
  | .int i, v, d, r, h => by
    have e : some (PyData.int i) = some d := by simpa [toD] using h
    cases e
    rw [show v = .int i from r]
    exact .int i
  | .str s, v, d, r, h => by
    have e : some (PyData.str s) = some d := by simpa [toD] using h
    cases e
    rw [show v = .str s from r]
    exact .str s
  | .tup l, v, d, ⟨a, vs, h1, h2, h3⟩, h => by
    have h' : (toDs l).map PyData.tuple = some d := by simpa [toD] using h
    obtain ⟨ds, e1, e2⟩ := Option.map_eq_some_iff.mp h'
    rw [h1, ← e2]
    exact .tup (.inl (.inl (f _ _ h2))) (toDs_ok f l vs ds h3 e1)
  | .tuf l, v, d, ⟨a, vs, h1, h2, h3⟩, h => by
    have h' : (toDs l).map PyData.tuple = some d := by simpa [toD] using h
    obtain ⟨ds, e1, e2⟩ := Option.map_eq_some_iff.mp h'
    rw [h1, ← e2]
    exact .tup (TufAt.mono f h2).sqT (toDs_ok f l vs ds h3 e1)
  | .lst l, v, d, ⟨a, vs, h1, h2, h3⟩, h => by
    have h' : (toDs l).map PyData.list = some d := by simpa [toD] using h
    obtain ⟨ds, e1, e2⟩ := Option.map_eq_some_iff.mp h'
    rw [h1, ← e2]
    exact .lst (.inl (Same.rd f h2)) (toDs_ok f l vs ds h3 e1)
  | .dK _ _, _, _, _, h => by simp [toD] at h
  | .dT _ _, _, _, _, h => by simp [toD] at h
  | .own _, _, _, _, h => by simp [toD] at h
  | .scr _, _, _, _, h => by simp [toD] at h
  | .lam _ _ _ _, _, _, _, h => by simp [toD] at h
  | .fnv _, _, _, _, h => by simp [toD] at h
theorem toDs_ok (f : ∀ a o, F a = some o → H a = some o) : ∀ (l : List SV) (vs : List V) (ds : List PyData), RepL K F l vs → toDs l = some ds → DpAll K H vs ds
  | [], vs, ds, r, h => by
    have e : some [] = some ds := by simpa [toDs] using h
    cases e
    rw [show vs = [] from r]
    exact .nil
  | x :: l, vs, ds, ⟨v, w, h1, h2, h3⟩, h => by
    have h' : ((toD x).bind fun d => (toDs l).map fun r => d :: r) = some ds := by simpa [toDs] using h
    obtain ⟨d, e1, e2⟩ := Option.bind_eq_some_iff.mp h'
    obtain ⟨r, e3, e4⟩ := Option.map_eq_some_iff.mp e2
    rw [h1, ← e4]
    exact .cons (toD_ok f x v d h2 e1) (toDs_ok f l w r h3 e3)
end
theorem toDS_ok (q : Sim K F M S H) {x : SV} {v : V} {d : PyData} (r : RepV K F x v) (h : toDS S x = some d) : Dp K H v d := by
  cases x with
  | own a =>
    unfold toDS at h
    simp only at h
    split at h
    · rename_i l e
      obtain ⟨ds, e1, e2⟩ := Option.map_eq_some_iff.mp h
      obtain ⟨_, u, hu, vs, rfl, h3⟩ := q.s _ _ e
      rw [show v = .ref a from r, ← e2]
      exact .lst (.inl (.inl hu)) (toDs_ok q.f l vs ds h3 e1)
    · cases h
  | _ => exact toD_ok q.f _ v d r h
end

/-! ### operators -/
section
variable {X : Cx}
theorem OpR.imp {f : Value → Value → Sem Value} {r r' : R2} (h : OpR X f r) (q : ∀ x y H Q, r' x y H Q → r x y H Q) : OpR X f r' := fun pins s σ H x y v u Q I a b z => h pins s σ H x y v u Q I a b (q _ _ _ _ z)
/-- by cases: where the first holds, the first rule, else the second -/
theorem OpR.or {f : Value → Value → Sem Value} {r r1 r2 : R2} (h1 : OpR X f r1) (h2 : OpR X f r2) (q : ∀ x y H Q, r x y H Q → r1 x y H Q ∨ r2 x y H Q) : OpR X f r := fun pins s σ H x y v u Q I a b z => (q _ _ _ _ z).elim (h1 pins s σ H x y v u Q I a b) (h2 pins s σ H x y v u Q I a b)
theorem op_int {f : Value → Value → Sem Value} {Cn : Int → Int → Prop} {g : Int → Int → Int} (h : OpR X f (rI Cn fun i j => V.int (g i j))) : OpR X f (LR2 X.K (opI Cn g)) := by
  refine OpR.imp h fun v u H Q z => ?_
  obtain ⟨F, M, S, x, y, k, rx, ry, q, o, kk⟩ := z
  unfold opI at o
  split at o
  · obtain ⟨o1, o2⟩ := o
    exact ⟨_, _, rx, ry, o1, kk.go q (show RepV X.K F (.int _) (.int _) from rfl) o2⟩
  · cases o
theorem op_int0 {f : Value → Value → Sem Value} {g : Int → Int → Int} (h : OpR X f (rI0 fun i j => V.int (g i j))) : OpR X f (LR2 X.K (opI (fun _ _ => True) g)) := by
  refine OpR.imp h fun v u H Q z => ?_
  obtain ⟨F, M, S, x, y, k, rx, ry, q, o, kk⟩ := z
  unfold opI at o
  split at o
  · exact ⟨_, _, rx, ry, kk.go q (show RepV X.K F (.int _) (.int _) from rfl) o.2⟩
  · cases o
def rCatR : R2 := fun x y H Q => ∃ l b xs zs, x = .ref l ∧ y = .ref b ∧ Rd H l (.lst xs) ∧ Rd H b (.lst zs) ∧ xs.length + zs.length ≤ sizeLine ∧ ∀ p, H p = none → Q (.ref p) (upd H p (.lst (xs ++ zs)))
theorem op_catR : OpR X (binaryOp .Add) rCatR := by
  intro pins s σ H x y v u Q I rx ry h
  obtain ⟨l, b, xs, zs, rfl, rfl, hH, hB, hz, q⟩ := h
  cases rx
  cases ry
  obtain ⟨z, its, n, r, e⟩ := hH.ok I.hok
  obtain ⟨z2, its2, n2, r2, e2⟩ := hB.ok I.hok
  have hl := r.length
  have hl2 := r2.length
  refine PySem.P.add_list e e2 ?_ (by rw [List.size_toArray, List.size_toArray]; omega)
  have ea : its.toArray ++ its2.toArray = (its ++ its2).toArray := by simp
  rw [ea]
  exact ⟨.ref _, _, I.lnew (t' := s.toks) (r.append r2) (by rw [List.length_append]; omega), rfl, q _ I.fresh⟩
theorem op_addS {own : Bool} : OpR X (binaryOp .Add) (LR2 X.K (opAdd own)) := by
  intro pins s σ H v u V U Q I rv ru z
  obtain ⟨F, M, S, x, y, k, rx, ry, q, o, kk⟩ := z
  unfold opAdd at o
  split at o
  · exact op_add pins s σ H v u V U Q I rv ru ⟨_, _, rx, ry, kk.go q (show RepV X.K F (.int _) (.int _) from rfl) o⟩
  · exact op_add_str pins s σ H v u V U Q I rv ru ⟨_, _, rx, ry, o.1, kk.go q (show RepV X.K F (.str _) (.str _) from rfl) o.2⟩
  · rename_i a b
    obtain ⟨p, vs, e1, h1, r1⟩ := tup_t q rx
    obtain ⟨p2, ws, e2, h2, r2⟩ := tup_t q ry
    refine op_catA pins s σ H v u V U Q I rv ru ⟨p, p2, vs, ws, e1, e2, h1, h2, by rw [← r1.length, ← r2.length]; exact o.1, fun hv => ?_, fun _ hw => ?_, fun _ _ n hn => newT_ok q (RepL.append r1 r2) o.2 kk hn⟩
    · have ha : a = [] := List.eq_nil_of_length_eq_zero (by rw [r1.length, hv]; rfl)
      subst ha
      rw [← e2]
      exact kk.go q ry o.2
    · have hb : b = [] := List.eq_nil_of_length_eq_zero (by rw [r2.length, hw]; rfl)
      subst hb
      rw [← e1]
      exact kk.go q rx (by rw [List.append_nil] at o; exact o.2)
  · split at o
    · obtain ⟨a, b, ea, eb, o0, o1, o2, o3⟩ := o
      obtain ⟨p, vs, e1, h1, r1⟩ := tupOf_t q rx ea
      obtain ⟨p2, ws, e2, h2, r2⟩ := tupOf_t q ry eb
      refine op_catA pins s σ H v u V U Q I rv ru ⟨p, p2, vs, ws, e1, e2, h1, h2, by rw [← r1.length, ← r2.length]; exact o0, fun hv => ?_, fun _ hw => ?_, fun _ _ n hn => newT_ok q (RepL.append r1 r2) o1 kk hn⟩
      · have ha : a = [] := List.eq_nil_of_length_eq_zero (by rw [r1.length, hv]; rfl)
        rw [← e2]
        exact kk.go q ry (o3 ha)
      · have hb : b = [] := List.eq_nil_of_length_eq_zero (by rw [r2.length, hw]; rfl)
        rw [← e1]
        exact kk.go q rx (o2 hb)
    · obtain ⟨a, b, ea, eb, o⟩ := o
      obtain ⟨p, vs, e1, h1, r1⟩ := items_rd q rx ea
      obtain ⟨p2, ws, e2, h2, r2⟩ := items_rd q ry eb
      have hz := o.1
      rw [List.length_append] at hz
      exact op_catR pins s σ H v u V U Q I rv ru ⟨p, p2, vs, ws, e1, e2, h1, h2, by rw [← r1.length, ← r2.length]; exact hz, fun n hn => newL_ok q (RepL.append r1 r2) o kk hn⟩
/-- a list times a number, the list just read -/
def rRepR : R2 := fun x y H Q => ∃ l k xs, x = .ref l ∧ y = .int k ∧ Rd H l (.lst xs) ∧ -(2 ^ 63) ≤ k ∧ k < 2 ^ 63 ∧ xs.length * k.toNat ≤ sizeLine ∧
  ∀ p, H p = none → Q (.ref p) (upd H p (.lst (List.replicate k.toNat xs).flatten))
theorem op_repR : OpR X (binaryOp .Mult) rRepR := by
  intro pins s σ H x y v u Q I rx ry h
  obtain ⟨l, k, xs, rfl, rfl, hH, h1, h2, hz, q⟩ := h
  cases rx
  obtain ⟨t, rfl⟩ := ry
  obtain ⟨z, its, n, r, e⟩ := hH.ok I.hok
  have hl := r.length
  have hlen : its.toArray.size * k.toNat ≤ sizeLine := by rw [List.size_toArray, ← hl]; exact hz
  have hcap : ¬ its.toArray.size * k.toNat > (2 ^ 63 - 1) / 8 := by
    have : (sizeLine : Nat) ≤ (2 ^ 63 - 1) / 8 := by decide
    omega
  have hfit : ¬ (!Builtin.List.listFitsIndex k) = true := by
    rw [fitsIndex_both h1 h2]
    exact Bool.false_ne_true
  have hlong : ¬ Builtin.List.listTooLong (its.toArray.size * k.toNat) = true := by
    rw [notLongL hlen]
    exact Bool.false_ne_true
  have hnew : List.foldl (fun x1 x2 => x1 ++ x2) #[] (List.replicate (if its.toArray.isEmpty = true then 0 else k.toNat) its.toArray) = (List.replicate k.toNat its).flatten.toArray := by
    have f0 : ∀ m : Nat, List.foldl (fun x1 x2 => x1 ++ x2) #[] (List.replicate m its.toArray) = (List.replicate m its).flatten.toArray := fun m => by
      have := foldl_rep its m []
      rw [List.nil_append] at this
      exact this
    rw [f0]
    cases its with
    | nil => simp
    | cons a r' => rw [if_neg (by simp)]
  refine wpAny_binaryOp_repeat_ref (T := "list") (U := "int") (by decide) ⟨_, e, rfl⟩ (fun s' => typeIs_int s' k t) noFill_list_mul F.fills_int_mul F.slot_int_rmul repeat_list F.slot_int_index.lookup
    (call_meets F.slot_int_rmul (typeIs_int s k t) F.entry_int_rmul (F.args_int_rmul_2 _ _) (int___rmul___int_list k t l its.toArray n)
      ⟨e, rfl, ⟨_, e, rfl⟩, call_meets F.slot_list_mul ⟨_, e, rfl⟩ F.entry_list_mul (F.args_list_mul_2 _ _) (AutoListH.list___mul___list_int_3 l its.toArray n k t hfit hcap hlong) ⟨e, ?_⟩⟩)
  rw [hnew]
  exact ⟨.ref _, _, I.lnew (t' := s.toks) (r.rep k.toNat) (by rw [PyProof.Rows.lm_len_rep_flat, Nat.mul_comm]; omega), rfl, q _ I.fresh⟩
theorem foldl_repA : ∀ (n : Nat) (l acc : List Nat), List.foldl (fun x1 x2 => x1 ++ x2) acc.toArray (List.replicate n l.toArray) = (acc ++ (List.replicate n l).flatten).toArray
  | 0, l, acc => by simp
  | n + 1, l, acc => by
    rw [List.replicate_succ, List.foldl_cons, List.replicate_succ, List.flatten_cons, ← List.append_assoc, ← foldl_repA n l (acc ++ l)]
    congr 1
    simp
/-- a text times a number -/
theorem op_repStr : OpR X (binaryOp .Mult) (fun x y H Q => ∃ (w : PySem.Str) (j : Int), x = V.str w ∧ y = V.int j ∧ 0 ≤ j ∧ j ≤ 1000 ∧ w.length ≤ 1000 ∧ Q (V.str (repS w j.toNat)) H) := by
  intro pins s σ H x y v u Q I r1 r2 h
  obtain ⟨w, j, e1, e2, h0, h1, h2, q⟩ := h
  subst e1; subst e2
  obtain ⟨t, rfl⟩ := r1
  obtain ⟨t', rfl⟩ := r2
  have hlen : w.length * j.toNat ≤ 1000 * 1000 := Nat.mul_le_mul h2 (by omega)
  have hbig : (1000 * 1000 : Nat) ≤ sizeLine := by decide
  refine PySem.P.mul_str ?_ ?_ ?_ ?_
  · simp only [Bool.or_eq_false_iff, decide_eq_false_iff_not]
    omega
  · intro hn _ hgt
    have h3 : (2 ^ 63 - 1 : Int) / j ≥ (2 ^ 63 - 1) / 1000 := by
      rw [ge_iff_le, Int.le_ediv_iff_mul_le (by omega)]
      have : ((2 ^ 63 - 1 : Int) / 1000) * j ≤ ((2 ^ 63 - 1 : Int) / 1000) * 1000 := Int.mul_le_mul_of_nonneg_left (by omega) (by decide)
      omega
    have : ((2 ^ 63 - 1 : Int) / 1000) = 9223372036854775 := by decide
    omega
  · intro _ _
    unfold Builtin.Str.tooLong
    exact decide_eq_false (by omega)
  · have fin : ∀ w' : PySem.Str, w' = repS w j.toNat → (Made.str w').post (EP X pins σ Q) s := fun w' e => by
      subst e
      refine ⟨?_, V.str _, H, I.tok _, ⟨_, rfl⟩, q⟩
      have : (repS w j.toNat).length = j.toNat * w.length := by
        show (List.replicate j.toNat w.cps.toList).flatten.toArray.size = j.toNat * w.cps.size
        rw [List.size_toArray, List.length_flatten, List.map_replicate, List.sum_replicate_nat, Array.length_toList]
      rw [this, Nat.mul_comm]
      omega
    have hw : w.cps.toList.toArray = w.cps := by simp
    split
    · refine fin _ ?_
      have : j.toNat = 0 := by omega
      rw [this]
      rfl
    · split
      · rename_i hh
        have e : repS w j.toNat = w := by
          unfold repS
          rcases (Bool.or_eq_true _ _).mp hh with z | z
          · have : j.toNat = 1 := by
              have : j = 1 := by simpa using z
              omega
            rw [this]
            simp
          · have : w.cps = #[] := by
              have : w.cps.size = 0 := by simpa [PySem.Str.length] using z
              exact Array.eq_empty_of_size_eq_zero this
            have e2 : w = ⟨#[]⟩ := by cases w; simp_all
            rw [e2]
            simp
        rw [e] at q
        exact ⟨V.str w, H, I, ⟨_, rfl⟩, q⟩
      · refine fin _ ?_
        unfold repS
        congr 1
        have := foldl_repA j.toNat w.cps.toList []
        rw [hw, List.nil_append] at this
        exact this
theorem op_mulS {own : Bool} : OpR X (binaryOp .Mult) (LR2 X.K (opMul own)) := by
  intro pins s σ H v u V U Q I rv ru z
  obtain ⟨F, M, S, x, y, k, rx, ry, q, o, kk⟩ := z
  unfold opMul at o
  split at o
  · exact op_mul pins s σ H v u V U Q I rv ru ⟨_, _, rx, ry, o.1, kk.go q (show RepV X.K F (.int _) (.int _) from rfl) o.2⟩
  · rename_i p j
    obtain ⟨l, hS, h0, h1, h2⟩ := o
    obtain rfl : v = .ref p := rx
    obtain rfl : u = .int j := ry
    obtain ⟨_, uo, hu, vs, rfl, rl⟩ := q.s p _ hS
    have flat : ∀ n : Nat, RepL X.K F (List.replicate n l).flatten (List.replicate n vs).flatten := fun n => by
      induction n with
      | zero => exact rfl
      | succ n ih =>
        rw [List.replicate_succ, List.replicate_succ, List.flatten_cons, List.flatten_cons]
        exact RepL.append rl ih
    have hz : vs.length * j.toNat ≤ sizeLine := by
      have e := (flat j.toNat).length
      have e2 := h2.1
      have e3 : (List.replicate j.toNat vs).flatten.length = vs.length * j.toNat := by
        rw [List.length_flatten, List.map_replicate, List.sum_replicate_nat, Nat.mul_comm]
      omega
    exact op_rep pins s σ H _ _ V U Q I rv ru ⟨p, j, vs, rfl, rfl, hu, by omega, by omega, hz, fun p' hp => newL_ok q (flat j.toNat) h2 kk hp⟩
  · rename_i l j
    obtain ⟨h0, h1, h2⟩ := o
    obtain ⟨p, vs, rfl, hu, rl⟩ := items_rd q rx (show items S (.lst l) = some l from rfl)
    obtain rfl : u = .int j := ry
    have flat : ∀ n : Nat, RepL X.K F (List.replicate n l).flatten (List.replicate n vs).flatten := fun n => by
      induction n with
      | zero => exact rfl
      | succ n ih =>
        rw [List.replicate_succ, List.replicate_succ, List.flatten_cons, List.flatten_cons]
        exact RepL.append rl ih
    have hz : vs.length * j.toNat ≤ sizeLine := by
      have e := (flat j.toNat).length
      have e2 := h2.1
      have e3 : (List.replicate j.toNat vs).flatten.length = vs.length * j.toNat := by
        rw [List.length_flatten, List.map_replicate, List.sum_replicate_nat, Nat.mul_comm]
      omega
    exact op_repR pins s σ H _ _ V U Q I rv ru ⟨p, j, vs, rfl, rfl, hu, by omega, by omega, hz, fun p' hp => newL_ok q (flat j.toNat) h2 kk hp⟩
  · rename_i w j
    obtain ⟨h0, h1, h2, h3⟩ := o
    obtain rfl : v = .str w := rx
    obtain rfl : u = .int j := ry
    exact op_repStr pins s σ H _ _ V U Q I rv ru ⟨w, j, rfl, rfl, h0, h1, h2, kk.go q (show RepV X.K F (.str _) (.str _) from rfl) h3⟩
  · cases o
theorem op_binS {o : Operator} {own : Bool} : OpR X (binaryOp o) (LR2 X.K (binS o own)) := by
  have nope : ∀ o : Operator, OpR X (binaryOp o) (LR2 X.K fun _ _ _ _ => False) := fun o pins s σ H v u V U Q I rv ru z => by
    obtain ⟨_, _, _, _, _, _, _, _, _, z, _⟩ := z
    cases z
  cases o with
  | Add => exact op_addS (own := own)
  | Sub => exact op_int0 op_sub
  | Mult => exact op_mulS (own := own)
  | FloorDiv => exact op_int op_fdivN
  | Mod => exact op_int op_modN
  | Pow => exact op_int op_pow
  | LShift => exact op_int op_shl
  | RShift => exact op_int op_shr
  | BitAnd => exact op_int0 op_and
  | BitOr => exact op_int0 op_or
  | BitXor => exact op_int0 op_xor
  | _ => exact nope _

theorem rep_strL {K : PySem.W.Frag} {F : Hp} : ∀ {l : List SV} {vs : List V} {ys : List Str}, RepL K F l vs → strL l = some ys → vs = ys.map V.str
  | [], vs, n, r, h => by
    have e : some [] = some n := by simpa [strL] using h
    cases e
    exact r
  | .str b :: l, vs, n, ⟨v, w, h1, h2, h3⟩, h => by
    obtain ⟨m, e1, e2⟩ := Option.map_eq_some_iff.mp (show (strL l).map (fun r => b :: r) = some n from h)
    rw [h1, rep_strL h3 e1, ← e2, show v = .str b from h2]
    rfl
  | .non :: _, _, _, _, h => by simp [strL] at h
  | .int _ :: _, _, _, _, h => by simp [strL] at h
  | .bl _ :: _, _, _, _, h => by simp [strL] at h
  | .tup _ :: _, _, _, _, h => by simp [strL] at h
  | .lst _ :: _, _, _, _, h => by simp [strL] at h
  | .dK _ _ :: _, _, _, _, h => by simp [strL] at h
  | .dT _ _ :: _, _, _, _, h => by simp [strL] at h
  | .own _ :: _, _, _, _, h => by simp [strL] at h
  | .scr _ :: _, _, _, _, h => by simp [strL] at h
  | .lam _ _ _ _ :: _, _, _, _, h => by simp [strL] at h
  | .tuf _ :: _, _, _, _, h => by simp [strL] at h
  | .fnv _ :: _, _, _, _, h => by simp [strL] at h
theorem op_ordS {c : CmpOp} {f : Int → Int → Bool} {g : List Nat → List Nat → Bool} {t : List (List Nat) → List (List Nat) → Bool} (h1 : OpR X (compareOp c) (rI0 fun i j => V.bl (f i j)))
    (h2 : OpR X (compareOp c) fun x y H Q => ∃ i j, x = V.str i ∧ y = V.str j ∧ Q (V.bl (g i.cps.toList j.cps.toList)) H) (h3 : OpR X (compareOp c) (rOrdT X.K t)) : OpR X (compareOp c) (LR2 X.K (ordS f g t)) := by
  intro pins s σ H v u V U Q I rv ru z
  obtain ⟨F, M, S, x, y, k, rx, ry, q, o, kk⟩ := z
  unfold ordS at o
  split at o
  · exact h1 pins s σ H v u V U Q I rv ru ⟨_, _, rx, ry, kk.go q (show RepV X.K F (.bl _) (.bl _) from rfl) o⟩
  · exact h2 pins s σ H v u V U Q I rv ru ⟨_, _, rx, ry, kk.go q (show RepV X.K F (.bl _) (.bl _) from rfl) o⟩
  · obtain ⟨l, m, as, bs, t1, t2, t3, t4, o⟩ := o
    obtain ⟨p, vs, rfl, g1, r1⟩ := tupOf_t q rx t1
    obtain ⟨p2, ws, rfl, g2, r2⟩ := tupOf_t q ry t3
    rw [rep_strL r1 t2] at g1
    rw [rep_strL r2 t4] at g2
    exact h3 pins s σ H _ _ V U Q I rv ru ⟨p, p2, as, bs, rfl, rfl, g1, g2, kk.go q (show RepV X.K F (.bl _) (.bl _) from rfl) o⟩
theorem list_le_iff (a b : List Nat) : (!decide (b < a)) = decide (a ≤ b) := by
  by_cases h : b < a
  · have : ¬ a ≤ b := fun z => by exact (List.not_le.mpr h) z
    simp [h, this]
  · have : a ≤ b := List.not_lt.mp h
    simp [h, this]

def rInT (K : PySem.W.Frag) (neg : Bool) : R2 := fun x y H Q => ∃ d ds, Dp K H x d ∧ (Dp K H y (.list ds) ∨ Dp K H y (.tuple ds)) ∧ SeqAt.shaped d = true ∧ SeqAt.shaped (.list ds) = true ∧ Q (.bl (xor neg (ds.any fun z => PyData.eqv z d))) H
theorem op_inT (hu : X.A.units + 65 < cLine) : OpR X (compareOp .In) (rInT X.K false) := by
  intro pins s σ H x y v u Q I rx ry h
  obtain ⟨d, ds, hd, he, sd, se, q⟩ := h
  rw [Bool.false_xor] at q
  obtain ⟨as, r1⟩ := Dp.reads I d x v hd rx
  rcases he with he | he
  · exact op_inD hu pins s σ H x y v u Q I rx ry ⟨d, ds, hd, he, sd, se, q⟩
  · obtain ⟨bs, r2⟩ := Dp.reads I (.tuple ds) y u he ry
    exact SeqAt.in_tuple_reads r2 r1 (SeqAt.canLay_of_shaped se) (SeqAt.canLay_of_shaped sd) (room_in_shaped sd hu) ⟨.bl _, H, I, rfl, q⟩
theorem op_notInT (hu : X.A.units + 65 < cLine) : OpR X (compareOp .NotIn) (rInT X.K true) := by
  intro pins s σ H x y v u Q I rx ry h
  obtain ⟨d, ds, hd, he, sd, se, q⟩ := h
  rw [Bool.true_xor] at q
  obtain ⟨as, r1⟩ := Dp.reads I d x v hd rx
  rcases he with he | he
  · exact op_notInD hu pins s σ H x y v u Q I rx ry ⟨d, ds, hd, he, sd, se, q⟩
  · obtain ⟨bs, r2⟩ := Dp.reads I (.tuple ds) y u he ry
    exact SeqAt.notIn_tuple_reads r2 r1 (SeqAt.canLay_of_shaped se) (SeqAt.canLay_of_shaped sd) (room_in_shaped sd hu) ⟨.bl _, H, I, rfl, q⟩
theorem seq_dp {K : PySem.W.Frag} {F M H : Hp} {S : Sto} (q : Sim K F M S H) {x : SV} {v : V} {l : List SV} {ds : List PyData} (r : RepV K F x v) (h : seqOf S x = some l) (e : toDs l = some ds) : Dp K H v (.list ds) ∨ Dp K H v (.tuple ds) := by
  obtain ⟨a, vs, rfl, h1 | h1, h2⟩ := seq_lt q r h
  · exact .inl (.lst h1 (toDs_ok q.f l vs ds h2 e))
  · exact .inr (.tup h1 (toDs_ok q.f l vs ds h2 e))
/-! dicts -/
theorem keyOf_ok {K : PySem.W.Frag} {F : Hp} {x : SV} {v : V} {k : Key} (r : RepV K F x v) (h : keyOf x = some k) : v = kV k := by
  cases x <;> first | (cases h; done) | skip
  · cases h
    exact r
  · cases h
    exact r
theorem keysOf_ok {K : PySem.W.Frag} {F : Hp} : ∀ {l : List SV} {vs : List V} {ks : List Key}, RepL K F l vs → keysOf l = some ks → vs = ks.map kV
  | [], vs, ks, r, h => by
    cases h
    exact r
  | x :: l, vs, ks, ⟨v, w, h1, h2, h3⟩, h => by
    have h' : ((keyOf x).bind fun k => (keysOf l).map fun r => k :: r) = some ks := h
    obtain ⟨k, e1, e2⟩ := Option.bind_eq_some_iff.mp h'
    obtain ⟨q, e3, e4⟩ := Option.map_eq_some_iff.mp e2
    rw [h1, ← e4, List.map_cons, keyOf_ok h2 e1, keysOf_ok h3 e3]
theorem tKey_ok {K : PySem.W.Frag} {F M H : Hp} {S : Sto} (q : Sim K F M S H) {x : SV} {v : V} {k : List Key} (r : RepV K F x v) (h : tKey x = some k) : ∃ b, v = .ref b ∧ H b = some (.tup (k.map kV)) := by
  cases x <;> first | (cases h; done) | skip
  obtain ⟨a, vs, h1, h2, h3⟩ := r
  rw [keysOf_ok h3 h] at h2
  exact ⟨a, h1, q.f _ _ h2⟩
section
variable {κ : Type} [DecidableEq κ] {K : PySem.W.Frag} {F : Hp}
theorem getX_ok : ∀ {ks : List κ} {l : List SV} {vs : List V} {k : κ}, RepL K F l vs → ks.length = vs.length → (∀ x, getX ks l k = some x → ∃ w, valV (ks.zip vs) k = some w ∧ RepV K F x w) ∧ (getX ks l k = none → valV (ks.zip vs) k = none)
  | [], l, vs, k, r, e => by
    refine ⟨fun x h => ?_, fun _ => ?_⟩
    · unfold getX at h
      cases h
    · rw [List.zip_nil_left]
      rfl
  | a :: ks, [], vs, k, r, e => by
    rw [show vs = [] from r] at e
    cases e
  | a :: ks, x :: l, vs, k, ⟨v, w, h1, h2, h3⟩, e => by
    subst h1
    obtain ⟨g1, g2⟩ := getX_ok (ks := ks) (k := k) h3 (by simpa using e)
    rw [List.zip_cons_cons]
    by_cases ha : a = k
    · rw [valV_pos (p := (a, v)) ha]
      unfold getX
      rw [if_pos ha]
      exact ⟨fun y h => ⟨v, rfl, by cases h; exact h2⟩, fun h => (by cases h)⟩
    · rw [valV_neg (p := (a, v)) ha]
      unfold getX
      rw [if_neg ha]
      exact ⟨g1, g2⟩
theorem putX_ok {ks : List κ} {l : List SV} {vs : List V} {k : κ} {x : SV} {v : V} (r : RepL K F l vs) (e : ks.length = vs.length) (rv : RepV K F x v) : ∃ ws, putK (ks.zip vs) k v = (putX ks l k x).1.zip ws ∧ (putX ks l k x).1.length = ws.length ∧ RepL K F (putX ks l k x).2 ws := by
  have hany : (((ks.zip vs).any fun kv => decide (kv.1 = k)) = true) ↔ k ∈ ks := by
    rw [List.any_eq_true]
    constructor
    · rintro ⟨p, hp, hk⟩
      rw [← of_decide_eq_true hk]
      exact (List.of_mem_zip (a := p.1) (b := p.2) hp).1
    · intro hk
      obtain ⟨i, hi⟩ := List.mem_iff_getElem?.mp hk
      have hi' := (List.getElem?_eq_some_iff.mp hi).1
      refine ⟨(k, vs[i]'(by omega)), ?_, decide_eq_true rfl⟩
      refine List.mem_iff_getElem?.mpr ⟨i, ?_⟩
      rw [List.getElem?_zip_eq_some]
      exact ⟨hi, by simp⟩
  unfold putK putX
  by_cases hk : k ∈ ks
  · rw [if_pos (hany.mpr hk), if_pos hk]
    have go : ∀ {ks : List κ} {l : List SV} {vs : List V}, RepL K F l vs → ks.length = vs.length → (ks.zip vs).map (fun kv => if kv.1 = k then (kv.1, v) else kv) = ks.zip (List.zipWith (fun a w => if a = k then v else w) ks vs) ∧ ks.length = (List.zipWith (fun a w => if a = k then v else w) ks vs).length ∧ RepL K F (List.zipWith (fun a y => if a = k then x else y) ks l) (List.zipWith (fun a w => if a = k then v else w) ks vs) := by
      intro ks
      induction ks with
      | nil =>
        intro l vs r e
        refine ⟨by simp, by simp, ?_⟩
        rw [List.zipWith_nil_left, List.zipWith_nil_left]
        rfl
      | cons a ks ih =>
        intro l vs r e
        cases l with
        | nil =>
          rw [show vs = [] from r] at e
          cases e
        | cons y l =>
          obtain ⟨u, w, h1, h2, h3⟩ := r
          subst h1
          obtain ⟨i1, i2, i3⟩ := ih h3 (by simpa using e)
          refine ⟨?_, ?_, ?_⟩
          · rw [List.zip_cons_cons, List.map_cons, List.zipWith_cons_cons, List.zip_cons_cons, i1]
            by_cases ha : a = k <;> simp [ha]
          · rw [List.zipWith_cons_cons, List.length_cons, List.length_cons, ← i2]
          · rw [List.zipWith_cons_cons, List.zipWith_cons_cons]
            refine ⟨_, _, rfl, ?_, i3⟩
            by_cases ha : a = k
            · rw [if_pos ha, if_pos ha]
              exact rv
            · rw [if_neg ha, if_neg ha]
              exact h2
    obtain ⟨g1, g2, g3⟩ := go r e
    exact ⟨_, g1, g2, g3⟩
  · rw [if_neg (fun z => hk (hany.mp z)), if_neg hk]
    exact ⟨vs ++ [v], by rw [List.zip_append e]; rfl, by simp [e], RepL.append r (RepL.single rv)⟩
end
section
variable {K : PySem.W.Frag} {F M H : Hp} {S : Sto}
theorem dic_rd (q : Sim K F M S H) {x : SV} {v : V} {d : SO} (r : RepV K F x v) (h : dicS S x = some d) : ∃ a u, v = .ref a ∧ Rd H a u ∧ RepO K F d u ∧ ((∃ ks l, d = .dK ks l) ∨ ∃ ks l, d = .dT ks l) := by
  cases x <;> first | (cases h; done) | skip
  · cases h
    obtain ⟨a, vs, h1, h2, h3, h4⟩ := r
    exact ⟨a, _, h1, .inl (q.f _ _ h2), ⟨vs, rfl, h3, h4⟩, .inl ⟨_, _, rfl⟩⟩
  · cases h
    obtain ⟨a, vs, h1, h2, h3, h4⟩ := r
    exact ⟨a, _, h1, .inl (q.f _ _ h2), ⟨vs, rfl, h3, h4⟩, .inr ⟨_, _, rfl⟩⟩
  · rename_i a
    unfold dicS at h
    simp only at h
    split at h
    · rename_i ks l e
      cases h
      obtain ⟨_, u, hu, hr⟩ := q.s _ _ e
      exact ⟨a, u, r, .inl hu, hr, .inl ⟨_, _, rfl⟩⟩
    · rename_i ks l e
      cases h
      obtain ⟨_, u, hu, hr⟩ := q.s _ _ e
      exact ⟨a, u, r, .inl hu, hr, .inr ⟨_, _, rfl⟩⟩
    · rename_i od us ks l e
      cases h
      obtain ⟨_, u, hu, rfl, hl, hr⟩ := q.s _ _ e
      exact ⟨a, _, r, .inr ⟨od, hu⟩, ⟨us, rfl, hl, hr⟩, .inl ⟨_, _, rfl⟩⟩
    · cases h
theorem get_ok (q : Sim K F M S H) {x y : SV} {v u : V} {d : SO} {o : Option SV} (r : RepV K F x v) (ry : RepV K F y u) (h : dicS S x = some d) (g : getD d y = some o) : ∃ a o', v = .ref a ∧ DGet H a u o' ∧ o'.isSome = o.isSome ∧ ∀ z, o = some z → ∃ w, o' = some w ∧ RepV K F z w := by
  obtain ⟨a, w, e1, h1, h2, h3⟩ := dic_rd q r h
  rcases h3 with ⟨ks, l, rfl⟩ | ⟨ks, l, rfl⟩
  · obtain ⟨vs, rfl, hz, hl⟩ := h2
    obtain ⟨k, g1, g2⟩ := Option.map_eq_some_iff.mp g
    obtain ⟨q1, q2⟩ := getX_ok (k := k) hl hz
    refine ⟨a, _, e1, .inl ⟨_, k, h1, keyOf_ok ry g1, rfl⟩, ?_, fun z hz => ?_⟩
    · cases ho : getX ks l k with
      | none =>
        rw [q2 ho, ← g2, ho]
        rfl
      | some z =>
        obtain ⟨w, w1, _⟩ := q1 z ho
        rw [w1, ← g2, ho]
        rfl
    · rw [hz] at g2
      exact q1 z g2
  · obtain ⟨vs, rfl, hz, hl⟩ := h2
    obtain ⟨k, g1, g2⟩ := Option.map_eq_some_iff.mp g
    obtain ⟨q1, q2⟩ := getX_ok (k := k) hl hz
    obtain ⟨b, b1, b2⟩ := tKey_ok q ry g1
    refine ⟨a, _, e1, .inr ⟨_, k, b, h1, b1, b2, rfl⟩, ?_, fun z hz => ?_⟩
    · cases ho : getX ks l k with
      | none =>
        rw [q2 ho, ← g2, ho]
        rfl
      | some z =>
        obtain ⟨w, w1, _⟩ := q1 z ho
        rw [w1, ← g2, ho]
        rfl
    · rw [hz] at g2
      exact q1 z g2
end
def rInDk (neg : Bool) : R2 := fun x y H Q => ∃ a o, y = .ref a ∧ DGet H a x o ∧ Q (.bl (xor neg o.isSome)) H
theorem op_inDk (hu : X.A.units + 1 < cLine) : OpR X (compareOp .In) (rInDk false) := by
  intro pins s σ H x y v u Q I rx ry h
  obtain ⟨a, o, rfl, g, q⟩ := h
  cases (show u = Value.ref a from ry)
  exact d_in hu I g rx fun s' I' => ⟨.bl o.isSome, H, I', rfl, by rw [Bool.false_xor] at q; exact q⟩
theorem op_notInDk (hu : X.A.units + 1 < cLine) : OpR X (compareOp .NotIn) (rInDk true) := by
  intro pins s σ H x y v u Q I rx ry h
  obtain ⟨a, o, rfl, g, q⟩ := h
  cases (show u = Value.ref a from ry)
  exact d_notIn hu I g rx fun s' I' => ⟨.bl (!o.isSome), H, I', rfl, by rw [Bool.true_xor] at q; exact q⟩
theorem op_inK {neg : Bool} {c : CmpOp} (h1 : OpR X (compareOp c) (rInT X.K neg)) (h2 : OpR X (compareOp c) fun x y H Q => ∃ c z, x = V.str ⟨#[c]⟩ ∧ y = V.str z ∧ Q (V.bl (xor neg (decide (c ∈ z.cps.toList)))) H) (h3 : OpR X (compareOp c) (rInDk neg)) : OpR X (compareOp c) (LR2 X.K (inK neg)) := by
  intro pins s σ H v u V U Q I rv ru z
  obtain ⟨F, M, S, x, y, k, rx, ry, q, o, kk⟩ := z
  unfold inK at o
  split at o
  · obtain ⟨n, rfl, o⟩ := o
    exact h2 pins s σ H v u V U Q I rv ru ⟨_, _, rx, ry, kk.go q (show RepV X.K F (.bl _) (.bl _) from rfl) o⟩
  · split at o
    · rename_i d hd
      obtain ⟨w, g, o⟩ := o
      obtain ⟨a, o', e1, g1, g2, _⟩ := get_ok q ry rx hd g
      exact h3 pins s σ H v u V U Q I rv ru ⟨a, o', e1, g1, by rw [g2]; exact kk.go q (show RepV X.K F (.bl _) (.bl _) from rfl) o⟩
    · obtain ⟨l, hl, d, ds, e1, e2, s1, s2, o⟩ := o
      exact h1 pins s σ H v u V U Q I rv ru ⟨d, ds, toD_ok q.f _ _ d rx e1, seq_dp q ry hl e2, s1, s2, kk.go q (show RepV X.K F (.bl _) (.bl _) from rfl) o⟩
theorem toDT_ok {K : PySem.W.Frag} {F M H : Hp} {S : Sto} (q : Sim K F M S H) {x : SV} {v : V} {d : PyData} (r : RepV K F x v) (h : toDT S x = some d) : Dp K H v d := by
  unfold toDT at h
  split at h
  · rename_i a b
    split at h
    · cases h
    · obtain ⟨d1, e1, e2⟩ := Option.bind_eq_some_iff.mp h
      obtain ⟨d2, e3, e4⟩ := Option.map_eq_some_iff.mp e2
      obtain ⟨p, vs, h1, h2, h3⟩ := r
      obtain ⟨v1, w1, rfl, r1, v2, w2, rfl, r2, r3⟩ := h3
      obtain rfl : w2 = [] := r3
      rw [h1, ← e4]
      exact .tup (.inl (.inl (q.f _ _ h2))) (.cons (toDS_ok q r1 e1) (.cons (toDS_ok q r2 e3) .nil))
  · cases h
theorem toDQ_ok {K : PySem.W.Frag} {F M H : Hp} {S : Sto} (q : Sim K F M S H) {x : SV} {v : V} {d : PyData} (r : RepV K F x v) (h : toDS S x = some d ∨ toDT S x = some d) : Dp K H v d := by
  rcases h with h | h
  · exact toDS_ok q r h
  · exact toDT_ok q r h
theorem op_eqS (hu : X.A.units + 64 < cLine) : OpR X (compareOp .Eq) (LR2 X.K fun x y S k => eqS S x y fun b => k (.bl b) S) := OpR.imp (op_eqD hu) fun v u H Q z => by
  obtain ⟨F, M, S, x, y, k, rx, ry, q, ⟨d, e, e1, e2, s1, s2, o⟩, kk⟩ := z
  exact ⟨d, e, toDQ_ok q rx e1, toDQ_ok q ry e2, s1, s2, kk.go q (show RepV X.K F (.bl _) (.bl _) from rfl) o⟩
theorem op_neS (hu : X.A.units + 64 < cLine) : OpR X (compareOp .NotEq) (LR2 X.K fun x y S k => eqS S x y fun b => k (.bl !b) S) := OpR.imp (op_neD hu) fun v u H Q z => by
  obtain ⟨F, M, S, x, y, k, rx, ry, q, ⟨d, e, e1, e2, s1, s2, o⟩, kk⟩ := z
  exact ⟨d, e, toDQ_ok q rx e1, toDQ_ok q ry e2, s1, s2, kk.go q (show RepV X.K F (.bl _) (.bl _) from rfl) o⟩
theorem isN_rep {K : PySem.W.Frag} {F : Hp} {x : SV} {v : V} (r : RepV K F x v) : decide (v = .non) = isN x := by
  cases x <;> first
    | (rw [show v = _ from r]; rfl)
    | (rw [show v = _ from r.1]; rfl)
    | (obtain ⟨_, rfl, _⟩ := r; rfl)
    | (obtain ⟨_, _, rfl, _⟩ := r; rfl)
theorem op_cmpS {k : Nat} (hr : Room k X.A) (o : CmpOp) : OpR X (compareOp o) (LR2 X.K (cmpS o)) := by
  have h64 := hr.units
  have h65 : X.A.units + 65 < cLine := by have := hr.un; omega
  have nope : ∀ o : CmpOp, OpR X (compareOp o) (LR2 X.K fun _ _ _ _ => False) := fun o pins s σ H v u V U Q I rv ru z => by
    obtain ⟨_, _, _, _, _, _, _, _, _, z, _⟩ := z
    cases z
  cases o with
  | Eq => exact op_eqS h64
  | NotEq => exact op_neS h64
  | Lt => exact op_ordS (f := fun i j => decide (i < j)) (g := fun a b => decide (a < b)) op_lt op_lt_str (op_ltTS (by omega))
  | LtE => exact op_ordS (f := fun i j => decide (i ≤ j)) (g := fun a b => decide (a ≤ b)) op_le (OpR.imp op_le_str fun x y H Q ⟨i, j, e1, e2, q⟩ => ⟨i, j, e1, e2, by rw [← list_le_iff] at q; exact q⟩) (op_leTS (by omega))
  | Gt => exact op_ordS (f := fun i j => decide (j < i)) (g := fun a b => decide (b < a)) op_gt op_gt_str (op_gtTS (by omega))
  | GtE => exact op_ordS (f := fun i j => decide (j ≤ i)) (g := fun a b => decide (b ≤ a)) op_ge (OpR.imp op_ge_str fun x y H Q ⟨i, j, e1, e2, q⟩ => ⟨i, j, e1, e2, by rw [← list_le_iff] at q; exact q⟩) (op_geTS (by omega))
  | In => exact op_inK (op_inT h65) (OpR.imp op_in_sign fun x y H Q ⟨c, z, e1, e2, q⟩ => ⟨c, z, e1, e2, by rw [Bool.false_xor] at q; exact q⟩) (op_inDk (by omega))
  | NotIn => exact op_inK (op_notInT h65) (OpR.imp op_notIn_sign fun x y H Q ⟨c, z, e1, e2, q⟩ => ⟨c, z, e1, e2, by rw [Bool.true_xor] at q; exact q⟩) (op_notInDk (by omega))
  | Is =>
    intro pins s σ H v u V U Q I rv ru z
    obtain ⟨F, M, S, x, y, k, rx, ry, q, o, kk⟩ := z
    cases y with
    | bl b =>
      obtain ⟨a, rfl, o⟩ := o
      exact op_isBl pins s σ H v u V U Q I rv ru ⟨a, b, rx, ry, kk.go q (show RepV X.K F (.bl _) (.bl _) from rfl) o⟩
    | _ =>
      obtain ⟨h, o⟩ := o
      first
        | (cases h; done)
        | exact op_isN pins s σ H v u V U Q I rv ru ⟨ry, by rw [isN_rep rx]; exact kk.go q (show RepV X.K F (.bl _) (.bl _) from rfl) o⟩
  | IsNot =>
    intro pins s σ H v u V U Q I rv ru z
    obtain ⟨F, M, S, x, y, k, rx, ry, q, o, kk⟩ := z
    cases y with
    | bl b =>
      obtain ⟨a, rfl, o⟩ := o
      exact op_notBl pins s σ H v u V U Q I rv ru ⟨a, b, rx, ry, kk.go q (show RepV X.K F (.bl _) (.bl _) from rfl) o⟩
    | _ =>
      obtain ⟨h, o⟩ := o
      first
        | (cases h; done)
        | exact op_notN pins s σ H v u V U Q I rv ru ⟨ry, by rw [isN_rep rx]; exact kk.go q (show RepV X.K F (.bl _) (.bl _) from rfl) o⟩
/-! ### items, parts -/
theorem atI_rep {K : PySem.W.Frag} {F : Hp} {l : List SV} {vs : List V} {i : Int} {x : SV} (r : RepL K F l vs) (h : atI l i = some x) : ∃ v, atI vs i = some v ∧ RepV K F x v := by
  unfold atI at h ⊢
  rw [r.length] at h
  obtain ⟨j, h1, h2⟩ := Option.bind_eq_some_iff.mp h
  obtain ⟨v, h3, h4⟩ := RepL.get r h2
  exact ⟨v, Option.bind_eq_some_iff.mpr ⟨j, h1, h3⟩, h4⟩
def rIxD : R2 := fun x y H Q => ∃ a v, x = .ref a ∧ DGet H a y (some v) ∧ Q v H
theorem ix_dict (hu : X.A.units + 1 < cLine) : IxR X rIxD := by
  intro value slice pins s σ H x y v u Q I rx ry h hs
  obtain ⟨a, z, rfl, g, q⟩ := h
  obtain rfl : v = Value.ref a := rx
  exact tail_any (dict_typeIs I g) PySem.F.slot_dict_getitem.lookup (d_getItem hu I g ry fun w' s' I' rw' => ⟨z, H, I', rw', q⟩) hs
theorem ix_S (hu : X.A.units + 1 < cLine) : IxR X (LR2 X.K idxS) := by
  intro ea eb pins s σ H v u V U Q I rv ru z hpl
  obtain ⟨F, M, S, x, y, k, rx, ry, q, o, kk⟩ := z
  unfold idxS at o
  split at o
  · obtain ⟨o1, c, o2, o3⟩ := o
    refine ix_str ea eb pins s σ H v u V U Q I rv ru ⟨_, _, c, rx, ry, o1, o2, kk.go q (show RepV X.K F (.str _) (.str _) from rfl) o3⟩ hpl
  · split at o
    · rename_i d hd
      obtain ⟨w, g, o⟩ := o
      obtain ⟨a, o', e1, g1, g2, g3⟩ := get_ok q rx ry hd g
      obtain ⟨z, rfl, z2⟩ := g3 w rfl
      exact ix_dict hu ea eb pins s σ H v u V U Q I rv ru ⟨a, z, e1, g1, kk.go q z2 o⟩ hpl
    · obtain ⟨i, l, w, rfl, o1, o2, o3⟩ := o
      obtain ⟨a, vs, e1, h1 | h1, r1⟩ := seq_lt q rx o1
      · obtain ⟨z, z1, z2⟩ := atI_rep r1 o2
        refine ix_list ea eb pins s σ H v u V U Q I rv ru ⟨a, vs, _, z, e1, ry, h1, z1, kk.go q z2 o3⟩ hpl
      · obtain ⟨z, z1, z2⟩ := atI_rep r1 o2
        refine ix_tup ea eb pins s σ H v u V U Q I rv ru ⟨a, vs, _, z, e1, ry, h1, z1, kk.go q z2 o3⟩ hpl
def LSl (K : PySem.W.Frag) (r : SV → Option Int → Option Int → Sto → SK → Prop) : V → Option Int → Option Int → Hp → VK → Prop := fun v lo hi H Q => ∃ F M S x k, RepV K F x v ∧ Sim K F M S H ∧ r x lo hi S k ∧ Kk K F M k Q
theorem sl_S {own : Bool} : SlR X (LSl X.K (slS own)) := by
  intro pins s σ H v V vl vu lo hi sl Q I rv hs pl pu z
  obtain ⟨F, M, S, x, k, rx, q, o, kk⟩ := z
  unfold slS at o
  split at o
  · exact sl_str pins s σ H v V vl vu lo hi sl Q I rv hs pl pu ⟨_, rx, o.1, kk.go q (show RepV X.K F (.str _) (.str _) from rfl) o.2⟩
  · rename_i l
    obtain ⟨a, vs, e1, h1, r1⟩ := tup_t q rx
    refine sl_tupA pins s σ H v V vl vu lo hi sl Q I rv hs pl pu ⟨a, vs, e1, h1, fun w => ?_, fun _ p hp => newT_ok q (cut_rep r1 lo hi) o kk hp⟩
    have e : cutL l lo hi = l := by
      unfold cutL
      rw [r1.length, w.1, w.2, List.drop_zero, Nat.sub_zero, ← r1.length, List.take_length]
    rw [e] at o
    rw [← e1]
    exact kk.go q rx o
  · rename_i l
    obtain ⟨a, vs, e1, h1, r1⟩ := tuf_t q rx
    refine sl_tupA pins s σ H v V vl vu lo hi sl Q I rv hs pl pu ⟨a, vs, e1, h1, fun w => ?_, fun _ p hp => newT_ok q (cut_rep r1 lo hi) o.1 kk hp⟩
    have e : cutL l lo hi = l := by
      unfold cutL
      rw [r1.length, w.1, w.2, List.drop_zero, Nat.sub_zero, ← r1.length, List.take_length]
    rw [← e1]
    exact kk.go q rx (o.2 e)
  · obtain ⟨a, vs, e1, h1, r1⟩ := rx
    exact sl_list pins s σ H v V vl vu lo hi sl Q I rv hs pl pu ⟨a, vs, e1, Same.sqL q.f h1, fun p hp => newL_ok q (cut_rep r1 lo hi) o kk hp⟩
  · obtain ⟨l, o1, o2⟩ := o
    obtain ⟨a, vs, e1, h1, r1⟩ := items_l q rx o1
    exact sl_list pins s σ H v V vl vu lo hi sl Q I rv hs pl pu ⟨a, vs, e1, h1, fun p hp => newL_ok q (cut_rep r1 lo hi) o2 kk hp⟩
/-! ### calls of what is built in -/
theorem rep_ints {K : PySem.W.Frag} {F : Hp} : ∀ {l : List SV} {vs : List V} {n : Int}, RepL K F l vs → sumI l = some n → ∃ ns : List Int, vs = ns.map V.int ∧ ns.sum = n
  | [], vs, n, r, h => ⟨[], by rw [show vs = [] from r]; rfl, by simpa [sumI] using h⟩
  | .int i :: l, vs, n, ⟨v, w, h1, h2, h3⟩, h => by
    obtain ⟨m, e1, e2⟩ := Option.map_eq_some_iff.mp (show (sumI l).map (fun r => i + r) = some n from h)
    obtain ⟨ns, q1, q2⟩ := rep_ints h3 e1
    exact ⟨i :: ns, by rw [h1, q1, show v = .int i from h2]; rfl, by rw [List.sum_cons, q2, e2]⟩
  | .non :: _, _, _, _, h => by simp [sumI] at h
  | .bl _ :: _, _, _, _, h => by simp [sumI] at h
  | .str _ :: _, _, _, _, h => by simp [sumI] at h
  | .tup _ :: _, _, _, _, h => by simp [sumI] at h
  | .lst _ :: _, _, _, _, h => by simp [sumI] at h
  | .dK _ _ :: _, _, _, _, h => by simp [sumI] at h
  | .dT _ _ :: _, _, _, _, h => by simp [sumI] at h
  | .own _ :: _, _, _, _, h => by simp [sumI] at h
  | .scr _ :: _, _, _, _, h => by simp [sumI] at h
  | .lam _ _ _ _ :: _, _, _, _, h => by simp [sumI] at h
  | .tuf _ :: _, _, _, _, h => by simp [sumI] at h
  | .fnv _ :: _, _, _, _, h => by simp [sumI] at h
theorem rep_bls {K : PySem.W.Frag} {F : Hp} : ∀ {l : List SV} {vs : List V} {bs : List Bool}, RepL K F l vs → allB l = some bs → vs = bs.map V.bl
  | [], vs, n, r, h => by
    have e : some [] = some n := by simpa [allB] using h
    cases e
    exact r
  | .bl b :: l, vs, n, ⟨v, w, h1, h2, h3⟩, h => by
    obtain ⟨m, e1, e2⟩ := Option.map_eq_some_iff.mp (show (allB l).map (fun r => b :: r) = some n from h)
    rw [h1, rep_bls h3 e1, ← e2, show v = .bl b from h2]
    rfl
  | .non :: _, _, _, _, h => by simp [allB] at h
  | .int _ :: _, _, _, _, h => by simp [allB] at h
  | .str _ :: _, _, _, _, h => by simp [allB] at h
  | .tup _ :: _, _, _, _, h => by simp [allB] at h
  | .lst _ :: _, _, _, _, h => by simp [allB] at h
  | .dK _ _ :: _, _, _, _, h => by simp [allB] at h
  | .dT _ _ :: _, _, _, _, h => by simp [allB] at h
  | .own _ :: _, _, _, _, h => by simp [allB] at h
  | .scr _ :: _, _, _, _, h => by simp [allB] at h
  | .lam _ _ _ _ :: _, _, _, _, h => by simp [allB] at h
  | .tuf _ :: _, _, _, _, h => by simp [allB] at h
  | .fnv _ :: _, _, _, _, h => by simp [allB] at h
theorem RepL.one {K : PySem.W.Frag} {F : Hp} {x : SV} {vs : List V} (r : RepL K F [x] vs) : ∃ v, vs = [v] ∧ RepV K F x v := by
  obtain ⟨v, w, h1, h2, h3⟩ := r
  exact ⟨v, by rw [h1, show w = [] from h3], h2⟩
theorem RepL.two {K : PySem.W.Frag} {F : Hp} {x y : SV} {vs : List V} (r : RepL K F [x, y] vs) : ∃ v u, vs = [v, u] ∧ RepV K F x v ∧ RepV K F y u := by
  obtain ⟨v, w, h1, h2, h3⟩ := r
  obtain ⟨u, e, h4⟩ := RepL.one h3
  exact ⟨v, u, by rw [h1, e], h2, h4⟩
end
end Sy

namespace Sy
open PySem PySem.Spec PyProof.Rows L2
open PySem.SeqAt

/-! rows are sorted, an empty one too (tuples) -/
section
variable {prog : Program} {w : World} {A : Around} {E : Value → Shared → Prop} {s : Shared}
theorem lt_gen (x y : Value) : PyProof.Rows.keyLt' PyProof.Rows.general' x y = oneLt' false x y := rfl
theorem call_tuple_lt {Q : Value → Shared → Prop} {l b : Addr} {items items2 : Array Value} {e r : Nat → Bool} (hl : s.heap.IsTuple l items) (hb : s.heap.IsTuple b items2)
    (he : ∀ j (h1 : j < items.size) (h2 : j < items2.size), EqAt A.in1 s items[j] items2[j] (e j)) (hr : ∀ j (h1 : j < items.size) (h2 : j < items2.size), e j = false → RcLt A.in1 s items[j] items2[j] (r j))
    (h : Q (.bool (firstLt e r (decide (items.size < items2.size)) (List.range (min items.size items2.size)))) s) : wpAny (model prog w) A (call (.builtin "tuple.__lt__") [.ref l, .ref b]) Q E s := by
  obtain ⟨⟨cls, dd, data, sl⟩, ho, hc, n, hd⟩ := id hl
  obtain ⟨⟨cls2, dd2, data2, sl2⟩, ho2, hc2, n2, hd2⟩ := id hb
  simp only at hc hd hc2 hd2
  subst hc hd hc2 hd2
  exact call_meets F.slot_tuple_lt ⟨_, ho, rfl⟩ F.entry_tuple_lt (F.args_tuple_lt_2 _ _) (tuple_ltAt l b items items2 n n2 dd dd2 sl sl2 e r) ⟨ho, ho2, he, hr, h⟩
theorem oneLt_tup {xs ys : List PyData} {a b : Value} {as bs : List Addr} {Q : Bool → Shared → Prop} (ra : Reads s.heap a (.tuple xs) as) (rb : Reads s.heap b (.tuple ys) bs) (h : PySem.W.alike (.tuple xs) (.tuple ys) = true)
    (hu : A.units + min (PyData.tuple xs).depth (PyData.tuple ys).depth < cLine) (hq : Q (PySem.W.dataLt (.tuple xs) (.tuple ys)) s) : wpAny (model prog w) A (oneLt' true a b) Q E s := by
  have hal : PySem.W.alikeAll xs ys = true := by simpa [PySem.W.alike] using h
  cases ra with
  | @tuple l o vs n _ as₁ h1 h2 h3 h4 =>
    cases rb with
    | @tuple l' o' vs' n' _ bs₁ k1 k2 k3 k4 =>
      have n1 : vs.size = xs.length := by simpa using ReadsAll.length _ _ _ h4
      have n2 : vs'.size = ys.length := by simpa using ReadsAll.length _ _ _ k4
      rw [PySem.W.dataLt_tuple, ← PySem.W.firstLt_toks xs ys hal, ← n1, ← n2] at hq
      rw [oneLt'_eq]
      simp only [if_true]
      refine wpAny_bind (wpAny_cRoomFor (room_here hu) ?_)
      refine wpAny_bind (wpAny_callSpecialIfBound?_slot (T := "tuple") ⟨_, h1, h2⟩ F.slot_tuple_lt (call_tuple_lt (e := pairEq xs ys) (r := fun j => PySem.W.dataLt (xs.getD j .none) (ys.getD j .none)) ⟨_, h1, h2, _, h3⟩ ⟨_, k1, k2, _, k3⟩ (fun j j1 j2 => ?_) (fun j j1 j2 hj => ?_) ?_))
      · have := PySem.W.eqAt_alikeAll xs ys A.in1 s vs.toList vs'.toList _ _ h4 k4 hal (room_in hu) j (by simpa using j1) (by simpa using j2)
        simpa using this
      · have := PySem.W.rcLt_alikeAll xs ys A.in1 s vs.toList vs'.toList _ _ h4 k4 hal (room_in hu) j (by simpa using j1) (by simpa using j2) hj
        simpa using this
      · exact wpAny_truthy_bool hq
end

def isTn : PyData → Bool
  | .tuple [] => true
  | _ => false
section
variable {M : Model} {A : Around} {E : Value → Shared → Prop} {s : Shared}
theorem firsts_ok : ∀ (vs : List Value) (ds : List PyData) {Q : List (Option Value) → Shared → Prop}, PySem.W.EachIs (fun v d => ∃ as, Reads s.heap v d as) vs ds → (∀ d ∈ ds, ∃ xs, d = .tuple xs) →
    (∀ fs, PySem.W.EachIs (fun f d => f.isSome = !isTn d) fs ds → Q fs s) → wpAny M A (vs.mapM firstOfTuple') Q E s
  | _, _, Q, .nil, _, h => by rw [List.mapM_nil]; exact wpAny_pure (h [] .nil)
  | _, _, Q, .cons (a := v) (b := d) (as := vs) (bs := ds) ⟨as, r⟩ t, ht, h => by
    obtain ⟨xs, rfl⟩ := ht d (List.mem_cons_self ..)
    rw [List.mapM_cons]
    cases r with
    | @tuple l o us n _ _ ho hc hd hr =>
      refine wpAny_bind ?_
      rw [PySem.W.kas_first_eq]
      refine wpAny_bind (PySem.W.Looks.here (show PySem.W.Looks M s.heap (typeOf (.ref l)) o.cls from (PySem.W.Looks.ld ho).andThen .now) ?_)
      rw [hc, if_neg (by first | decide | simp)]
      refine wpAny_bind (listItems_at ho hd (wpAny_pure ?_))
      refine wpAny_bind (firsts_ok vs ds (Q := fun bs s' => wpAny M A (pure (us[0]? :: bs)) Q E s') t (fun d hd => ht d (List.mem_cons_of_mem _ hd)) fun fs hf => wpAny_pure (h _ (.cons ?_ hf)))
      cases q : us.toList with
      | nil =>
        rw [q] at hr
        cases hr
        rw [← Array.getElem?_toList, q]
        rfl
      | cons f fr =>
        rw [q] at hr
        cases hr with
        | cons a b =>
          rw [← Array.getElem?_toList, q]
          rfl
end
theorem each_right {α β : Type} {R : α → β → Prop} : ∀ {as : List α} {bs : List β}, PySem.W.EachIs R as bs → ∀ b ∈ bs, ∃ a ∈ as, R a b
  | _, _, .nil, b, h => by cases h
  | _, _, .cons (a := a) h t, b, hb => by
    rcases List.mem_cons.mp hb with e | hb
    · subst e
      exact ⟨a, List.mem_cons_self .., h⟩
    · obtain ⟨a', x, y⟩ := each_right t b hb
      exact ⟨a', List.mem_cons_of_mem _ x, y⟩

theorem sorts_tups {prog : Program} {w : World} {A : Around} {s : Shared} {vs : List Value} {ds : List PyData} (e : PySem.W.EachIs (fun v d => ∃ as, Reads s.heap v d as) vs ds) (hal : PySem.W.AllAlike ds) (ht : ∀ d ∈ ds, ∃ xs, d = .tuple xs) (hu : ∀ d, d ∈ ds → A.units + d.depth < cLine) : PySem.W.SortsAt prog w A s (PySem.W.dataKind s.heap ds) vs := by
  by_cases hne : ∀ d ∈ ds, ∃ x r, d = .tuple (x :: r)
  · exact PySem.W.SortsAt.data e hal (.inl hne) hu
  have room : ∀ {d d' : PyData}, d ∈ ds → A.units + min d.depth d'.depth < cLine := fun {d d'} hd => Nat.lt_of_le_of_lt (Nat.add_le_add_left (Nat.min_le_left _ _) _) (hu d hd)
  have hz : ∃ d ∈ ds, isTn d = true := by
    apply Classical.byContradiction
    intro h
    apply hne
    intro d hd
    obtain ⟨xs, rfl⟩ := ht d hd
    cases xs with
    | nil => exact absurd ⟨_, hd, rfl⟩ h
    | cons x r => exact ⟨x, r, rfl⟩
  refine ⟨fun v hv => ?_, if ds.head?.any isTn = true then oneType' else general', ?_, fun h2 E Q hq => ?_⟩
  · obtain ⟨d, hd, as, r⟩ := e.left v hv
    exact ⟨_, PySem.W.dataKind_some hal hd r⟩
  · intro E x y a b Q ha hb hq
    obtain ⟨d, as, hd, ra, rfl⟩ := PySem.W.dataKind_inv ha
    obtain ⟨d', as', hd', rb, rfl⟩ := PySem.W.dataKind_inv hb
    obtain ⟨xs, rfl⟩ := ht d hd
    obtain ⟨ys, rfl⟩ := ht d' hd'
    by_cases hh : ds.head?.any isTn = true
    · rw [if_pos hh, keyLt'_oneType]
      exact oneLt_tup ra rb (hal _ hd _ hd') (room hd) hq
    · rw [if_neg hh, lt_gen]
      exact PySem.W.oneLt_alike (f := false) (fun h => by cases h) ra rb (hal _ hd _ hd') (fun h => by cases h) (room hd) hq
  · rw [keyKind'_eq, List.mapM_toArray, map_eq_pure_bind]
    refine wpAny_bind (wpAny_bind (firsts_ok vs ds e ht fun fs hf => wpAny_pure ?_))
    have hall : ¬ (fs.toArray.all fun x => x.isSome) = true := by
      intro hc
      obtain ⟨d, hd, hi⟩ := hz
      obtain ⟨f, hfm, hfe⟩ := each_right hf d hd
      rw [hi] at hfe
      have := (Array.all_eq_true_iff_forall_mem.mp hc) f (by simpa using hfm)
      rw [hfe] at this
      cases this
    rw [if_neg hall]
    cases hf with
    | nil =>
      cases e
      exact absurd h2 (by simp)
    | @cons f d fs' ds' hfd hfr =>
      have e0 : ((f :: fs').toArray[0]?.bind id) = f := by simp
      rw [e0, hfd]
      by_cases hh : isTn d = true
      · have hh' : (d :: ds').head?.any isTn = true := by simpa using hh
        rw [if_pos hh'] at hq
        rw [hh, if_neg (by simp)]
        rw [oneTypeOnly'_eq, List.mapM_toArray, map_eq_pure_bind]
        refine wpAny_bind (wpAny_bind (wpAny_bind (PySem.W.kas_mapM (r := Value.type "tuple") _ (fun v hv Q' hq' => ?_) (wpAny_pure ?_))))
        · obtain ⟨d', hd', as, r⟩ := e.left v hv
          obtain ⟨xs, rfl⟩ := ht d' hd'
          exact (PySem.W.looks_reads r).here hq'
        · have hall2 : ((List.map (fun _ => Value.type "tuple") vs).toArray.all fun x => x == Value.type "tuple") = true := by
            simp only [List.all_toArray, List.all_map, List.all_eq_true]
            intro _ _
            exact (beq_self_eq_true _)
          have h0 : (List.map (fun _ => Value.type "tuple") vs).toArray[0]? = some (Value.type "tuple") := by
            cases vs with
            | nil => exact absurd h2 (by simp)
            | cons v vs => simp
          rw [h0]
          simp only [hall2, if_true]
          exact wpAny_pure (wpAny_pure hq)
      · have hh' : ¬ (d :: ds').head?.any isTn = true := by simpa using hh
        rw [if_neg hh'] at hq
        rw [if_pos (by simpa using hh)]
        exact wpAny_pure hq
end Sy

namespace Sy
open PySem PySem.Spec PyProof.Rows L2

section
variable {prog : Program} {w : World} {A : Around} {E : Value → Shared → Prop} {s : Shared}
theorem sortedHeap_at {h : Heap} {a : Addr} {vs : List Value} {n : Nat} (out : Array Value) (ho : h.get? a = some (seqObj "list" vs.toArray n)) : ∃ n, (sortedHeap h a vs out).get? a = some (seqObj "list" out n) := by
  have ha : a < h.objs.size := Heap.lt_size ho
  obtain ⟨e1, ho1⟩ : ∃ e1, (h.update a (Obj.mapSeq fun _ => #[])).get? a = some (seqObj "list" #[] e1) := ⟨_, get?_update_seq ho (fun _ => #[])⟩
  have ho6 : (((h.update a (Obj.mapSeq fun _ => #[])).push (seqObj "tuple" vs.toArray 0)).push (seqObj "list" #[] 0)).get? a = some (seqObj "list" #[] e1) :=
    Heap.get?_push_of_some _ (Heap.get?_push_of_some _ ho1)
  exact ⟨_, get?_update_seq ho6 (fun _ => out)⟩
theorem sortedHeap_old {h : Heap} {a b : Addr} {vs : List Value} {out : Array Value} {o : Obj} (hb : b ≠ a) (e : h.get? b = some o) : (sortedHeap h a vs out).get? b = some o := by
  unfold sortedHeap
  rw [Heap.get?_update_ne _ _ _ _ hb]
  exact Heap.get?_push_of_some _ (Heap.get?_push_of_some _ ((Heap.get?_update_ne _ _ _ _ hb).trans e))
/-- what a list or a tuple gives to a builtin, and the heap behind it -/
theorem collect_any {it : Addr} {T : String} {o : Obj} {vs : List Value} {n : Nat} {Q : List Value → Shared → Prop} (hT : T = "list" ∨ T = "tuple") (ho : s.heap.get? it = some o) (hc : o.cls = .type T) (hd : o.data = .seq vs.toArray n) (hsz : vs.length ≤ sizeLine)
    (h : Q vs { s with heap := (s.heap.push (seqObj "list" #[] 0)).update s.heap.objs.size (Obj.mapSeq (· ++ vs.toArray)) }) : wpAny (model prog w) A (collect (.ref it)) Q E s := by
  have h0 : (s.heap.push (seqObj "list" #[] 0)).get? s.heap.objs.size = some (seqObj "list" #[] 0) := Heap.get?_push_size _ rfl
  have sz : vs.toArray.size ≤ sizeLine := by rw [List.size_toArray]; exact hsz
  unfold collect
  refine wpAny_bind (wpAny_runValue (codeAny_builtin entry_proto_collect' ?_))
  show wpAny _ A.in1 (newList [] >>= fun l => again (.builtin "list.__iadd__" ⟨[l, .ref it], []⟩)) _ _ s
  refine wpAny_bind (wpAny_newList (wpAny_pure ⟨Code.quiet_builtin _ (by decide +kernel), codeAny_builtin entry_list_iadd' ?_⟩))
  refine wpAny_mono (wpAny_extend_seq (A := A) (s := { s with heap := s.heap.push (seqObj "list" #[] 0) }) (R := fun r s' => r = .ok (.ret (.ref s.heap.objs.size)) ∧ s' = { s with heap := (s.heap.push (seqObj "list" #[] 0)).update s.heap.objs.size (Obj.mapSeq (· ++ vs.toArray)) })
    s.heap.objs.size it (.ref s.heap.objs.size) 0 hT h0 (Heap.get?_push_of_some _ ho) hc hd ⟨rfl, rfl⟩ sz) (fun f s' q => ?_) (fun e s' q => absurd q.1 (by simp))
  have back : wpAny (model prog w) A (do
      let o ← load s.heap.objs.size
      match o.data with
      | .seq xs _ => pure xs.toList
      | _ => unsupported "internal:collect") Q E { s with heap := (s.heap.push (seqObj "list" #[] 0)).update s.heap.objs.size (Obj.mapSeq (· ++ vs.toArray)) } := by
    refine wpAny_bind (wpAny_load (get?_update_seq h0 _) ?_)
    show wpAny _ _ (pure ((#[] : Array Value) ++ vs.toArray).toList) Q E _
    rw [show ((#[] : Array Value) ++ vs.toArray).toList = vs by simp]
    exact wpAny_pure h
  cases f with
  | done f =>
    obtain ⟨e, rfl⟩ := q
    cases e
    exact back
  | again c => exact ⟨q.1, codeAny_mono q.2 fun r s2 z => by obtain ⟨rfl, rfl⟩ := z; exact back⟩
theorem sorts_one {prog : Program} {w : World} {A : Around} {s : Shared} {vs : List Value} {ds : List PyData} (e : PySem.W.EachIs (fun v d => ∃ as, Reads s.heap v d as) vs ds) (hal : PySem.W.AllAlike ds) (h1 : ds.length ≤ 1) (hn : ∀ d ∈ ds, d ≠ .none) (hu : ∀ d, d ∈ ds → A.units + d.depth < cLine) : PySem.W.SortsAt prog w A s (PySem.W.dataKind s.heap ds) vs := by
  refine ⟨fun v hv => ?_, PyProof.Rows.general', ?_, fun h2 => absurd h2 (by rw [e.length]; omega)⟩
  · obtain ⟨d, hd, as, r⟩ := e.left v hv
    exact ⟨_, PySem.W.dataKind_some hal hd r⟩
  · intro E x y a b Q ha hb hq
    obtain ⟨d, as, hd, ra, rfl⟩ := PySem.W.dataKind_inv ha
    obtain ⟨d', as', hd', rb, rfl⟩ := PySem.W.dataKind_inv hb
    rw [lt_gen]
    exact PySem.W.oneLt_alike (f := false) (fun h => by cases h) ra rb (hal d hd d' hd') (hn d hd) (Nat.lt_of_le_of_lt (Nat.add_le_add_left (Nat.min_le_left _ _) _) (hu d hd)) hq
theorem sorts_any {prog : Program} {w : World} {A : Around} {s : Shared} {vs : List Value} {ds : List PyData} (e : PySem.W.EachIs (fun v d => ∃ as, Reads s.heap v d as) vs ds) (hal : PySem.W.AllAlike ds) (h : SrtOk ds) (hu : ∀ d, d ∈ ds → A.units + d.depth < cLine) : PySem.W.SortsAt prog w A s (PySem.W.dataKind s.heap ds) vs := by
  rcases h with h | ⟨h1, h2⟩ | h
  · exact PySem.W.SortsAt.data e hal h hu
  · exact sorts_one e hal h1 h2 hu
  · exact sorts_tups e hal h hu
/-- sorted(l), by what l gives to a builtin -/
theorem sorted_of {l : Addr} (Pv : List Value → Prop) {β : Type} {R : Value → β → Prop} {bs : List β} {enc : β → PyData} {Q : Value → Shared → Prop}
    (hcol : ∀ (E' : Value → Shared → Prop) (Q' : List Value → Shared → Prop), (∀ (vs : List Value) (h1 : Heap) (tk : Nat), Pv vs → (∀ b u, s.heap.get? b = some u → h1.get? b = some u) → Q' vs { s with heap := h1, toks := tk }) → wpAny (model prog w) A.in1 (collect (.ref l)) Q' E' s)
    (hz : bs.length ≤ sizeLine) (e : ∀ vs, Pv vs → PySem.W.EachIs R vs bs) (er : ∀ vs, Pv vs → PySem.W.EachIs (fun v b => ∃ as, Reads s.heap v (enc b) as) vs bs) (hal : PySem.W.AllAlike (bs.map enc)) (hk : SrtOk (bs.map enc)) (hu : ∀ b, b ∈ bs → A.units + 2 + (enc b).depth < cLine)
    (h : ∀ (h1 h' : Heap) (tk : Nat) (d : Addr) (out : List Value), PySem.W.EachIs R out (bs.mergeSort (PySem.W.dataLe false enc)) → (∀ b o, s.heap.get? b = some o → h1.get? b = some o) → (∀ b o, h1.get? b = some o → h'.get? b = some o) → h1.objs.size ≤ d → (∃ n, h'.get? d = some (seqObj "list" out.toArray n)) → Q (.ref d) { s with heap := h', toks := tk }) :
    wpAny (model prog w) A (call (.builtin "sorted") [.ref l]) Q E s := by
  refine Calls.call_function_entry kind_sorted plain_sorted entry_sorted (args_sorted1 _) ?_
  unfold Builtin.«sorted»
  refine wpAny_bind (m := checkCount "sorted" 1 1 _) (wpAny_pure ?_)
  refine wpAny_bind (hcol _ _ fun vs h1 tk hpv keep => ?_)
  have e := e vs hpv
  have er := er vs hpv
  have hz : vs.length ≤ sizeLine := by rw [e.length]; exact hz
  refine wpAny_bind (wpAny_newList ?_ hz)
  have hoL : (h1.push (seqObj "list" vs.toArray 0)).get? h1.objs.size = some (seqObj "list" vs.toArray 0) := Heap.get?_push_size _ rfl
  show wpAny _ _ _ _ _ { s with heap := h1.push (seqObj "list" vs.toArray 0), toks := tk }
  have old : ∀ b u, s.heap.get? b = some u → b ≠ h1.objs.size ∧ (h1.push (seqObj "list" vs.toArray 0)).get? b = some u := fun b u q => ⟨Nat.ne_of_lt (Heap.lt_size (keep _ _ q)), Heap.get?_push_of_some _ (keep _ _ q)⟩
  have er' : PySem.W.EachIs (fun v b => ∃ as, Reads (PySem.W.sortingHeap (h1.push (seqObj "list" vs.toArray 0)) h1.objs.size vs) v (enc b) as) vs bs := er.mono fun _ _ ⟨as, r⟩ => ⟨as, PyProof.Rows.Reads.keeps (fun b u q => PySem.W.sortingHeap_old (old b u q).1 (old b u q).2) r⟩
  refine wpAny_bind (wpAny_holding (wpAny_call_entry slot_list_sort ⟨_, hoL, rfl⟩ entry_list_sort (PySem.W.list_sort_vals (s := { s with heap := h1.push (seqObj "list" vs.toArray 0), toks := tk }) (κ := PySem.W.dataKind (PySem.W.sortingHeap (h1.push (seqObj "list" vs.toArray 0)) h1.objs.size vs) (bs.map enc)) hoL
    (sorts_any (s := { s with heap := PySem.W.sortingHeap (h1.push (seqObj "list" vs.toArray 0)) h1.objs.size vs, toks := tk }) (PySem.W.each_map (R := fun v d => ∃ as, Reads (PySem.W.sortingHeap (h1.push (seqObj "list" vs.toArray 0)) h1.objs.size vs) v d as) enc er') hal hk (PySem.W.bound_map hu)) hz ⟨_, rfl, ?_⟩) (args_list_sort _)))
  refine wpAny_pure ⟨_, rfl, ?_⟩
  exact h h1 _ tk h1.objs.size _ (PySem.W.sortVals_data false e er' hal) keep (fun b u q => sortedHeap_old (Nat.ne_of_lt (Heap.lt_size q)) (Heap.get?_push_of_some _ q)) (Nat.le_refl _) (sortedHeap_at _ hoL)
theorem collect_seq {l : Addr} {vs : List Value} {T : String} {o : Obj} {n : Nat} (hT : T = "list" ∨ T = "tuple") (ho : s.heap.get? l = some o) (hc : o.cls = .type T) (hd : o.data = .seq vs.toArray n) (hz : vs.length ≤ sizeLine)
    (E' : Value → Shared → Prop) (Q' : List Value → Shared → Prop) (h : ∀ (vs' : List Value) (h1 : Heap) (tk : Nat), vs' = vs → (∀ b u, s.heap.get? b = some u → h1.get? b = some u) → Q' vs' { s with heap := h1, toks := tk }) : wpAny (model prog w) A (collect (.ref l)) Q' E' s := by
  refine collect_any hT ho hc hd hz (h _ _ s.toks rfl fun b u q => ?_)
  rw [Heap.get?_update_ne _ _ _ _ (Nat.ne_of_lt (Heap.lt_size q))]
  exact Heap.get?_push_of_some _ q
end

section
variable {K : PySem.W.Frag} {F : Hp}
theorem each_rep : ∀ {l : List SV} {vs : List V} {us : List Value}, RepL K F l vs → Vals vs us → PySem.W.EachIs (fun u x => ∃ v, RelV v u ∧ RepV K F x v) us l
  | [], vs, us, r, h => by
    rw [show vs = [] from r] at h
    cases h
    exact .nil
  | x :: l, vs, us, ⟨v, w, h1, h2, h3⟩, h => by
    subst h1
    cases h with
    | cons a b => exact .cons ⟨v, a, h2⟩ (each_rep h3 b)
theorem rep_each : ∀ {l : List SV} {us : List Value}, PySem.W.EachIs (fun u x => ∃ v, RelV v u ∧ RepV K F x v) us l → ∃ vs, RepL K F l vs ∧ Vals vs us
  | [], us, h => by
    cases h
    exact ⟨[], rfl, .nil⟩
  | x :: l, us, h => by
    cases h with
    | cons a b =>
      obtain ⟨v, a1, a2⟩ := a
      obtain ⟨vs, b1, b2⟩ := rep_each b
      exact ⟨v :: vs, ⟨v, vs, rfl, a2, b1⟩, .cons a1 b2⟩
theorem toDs_map : ∀ {l : List SV} {ds : List PyData}, toDs l = some ds → l.map datE = ds
  | [], ds, h => by
    have e : some [] = some ds := by simpa [toDs] using h
    cases e
    rfl
  | x :: l, ds, h => by
    have h' : ((toD x).bind fun d => (toDs l).map fun r => d :: r) = some ds := by simpa [toDs] using h
    obtain ⟨d, e1, e2⟩ := Option.bind_eq_some_iff.mp h'
    obtain ⟨r, e3, e4⟩ := Option.map_eq_some_iff.mp e2
    rw [← e4, List.map_cons, toDs_map e3]
    show (toD x).getD .none :: r = d :: r
    rw [e1]
    rfl
theorem toDs_each {l : List SV} {ds : List PyData} (h : toDs l = some ds) : ∀ x ∈ l, toD x = some (datE x) := by
  induction l generalizing ds with
  | nil => intro x hx; cases hx
  | cons y l ih =>
    have h' : ((toD y).bind fun d => (toDs l).map fun r => d :: r) = some ds := by simpa [toDs] using h
    obtain ⟨d, e1, e2⟩ := Option.bind_eq_some_iff.mp h'
    obtain ⟨r, e3, e4⟩ := Option.map_eq_some_iff.mp e2
    intro x hx
    rcases List.mem_cons.mp hx with e | hx
    · rw [e]
      unfold datE
      rw [e1]
      rfl
    · exact ih e3 x hx
end
end Sy

/-! what is walked of a list, a tuple or a dict: sorted, list -/
namespace Sy
open PySem PySem.Spec PyProof.Rows L2
section
variable {K : PySem.W.Frag} {F M H : Hp} {S : Sto}
open Classical in
/-- F, and all tuples that are tracked -/
noncomputable def tupF (F H : Hp) : Hp := fun a => if ∃ vs, H a = some (.tup vs) then H a else F a
theorem tupF_at {a : Addr} {vs : List V} (h : H a = some (.tup vs)) : tupF F H a = some (.tup vs) := by
  unfold tupF
  rw [if_pos ⟨vs, h⟩, h]
theorem tupF_same (f : ∀ a o, F a = some o → H a = some o) : Same F (tupF F H) := fun a o e => by
  unfold tupF
  split
  · exact f a o e
  · exact e
theorem tupF_of {a : Addr} {o : HO} (h : tupF F H a = some o) : F a = some o ∨ (H a = some o ∧ ∃ vs, o = .tup vs) := by
  unfold tupF at h
  split at h
  · rename_i z
    obtain ⟨vs, hv⟩ := z
    rw [hv] at h
    cases h
    exact .inr ⟨hv, vs, rfl⟩
  · exact .inl h
theorem Sim.tupF (q : Sim K F M S H) : Sim K (Sy.tupF F H) M S H := by
  refine ⟨fun a o e => ?_, fun a o e => ?_, fun a o e => ?_, fun c P l => (q.t c P l).go (fun a o e h1 h2 => ⟨h1, h2, e⟩) fun h1 _ _ ⟨ps, h2⟩ => ?_⟩
  rotate_left 3
  · cases z : Sy.tupF F H P with
    | none => rfl
    | some u =>
      rcases tupF_of z with w | ⟨w, vs, e2⟩
      · rw [h1] at w; cases w
      · rw [h2, e2] at w
        cases w
  · rcases tupF_of e with z | ⟨z, _⟩
    · exact q.f a o z
    · exact z
  · obtain ⟨h1, h2, h3, h4⟩ := q.m a o e
    refine ⟨h1, ?_, h3, h4⟩
    cases z : Sy.tupF F H a with
    | none => rfl
    | some u =>
      rcases tupF_of z with w | ⟨w, vs, e2⟩
      · rw [h2] at w; cases w
      · rw [h1] at w
        cases w
        exact absurd e2 (h4 vs)
  · obtain ⟨h1, u, h2, h3⟩ := q.s a o e
    refine ⟨?_, u, h2, RepO.mono (tupF_same q.f) h3⟩
    cases z : Sy.tupF F H a with
    | none => rfl
    | some w =>
      rcases tupF_of z with y | ⟨y, vs, e2⟩
      · rw [h1] at y; cases y
      · rw [h2] at y
        cases y
        rw [e2] at h3
        cases o <;> simp [RepO, ExC] at h3
theorem key_rep (ks : List Key) : RepL K F (ks.map keySV) (ks.map kV) := by
  induction ks with
  | nil => rfl
  | cons k ks ih =>
    refine ⟨kV k, ks.map kV, rfl, ?_, ih⟩
    cases k <;> rfl
theorem zip_keys {α : Type} : ∀ {ks : List α} {vs : List V}, ks.length = vs.length → (ks.zip vs).map (·.1) = ks
  | [], _, _ => rfl
  | _ :: _, [], h => by cases h
  | k :: ks, v :: vs, h => by
    show k :: (ks.zip vs).map (·.1) = k :: ks
    rw [zip_keys (by simpa using h)]
theorem isKeys_rep : ∀ {ks : List (List Key)} {vs : List V} {bs : List Addr}, ks.length = vs.length → IsKeys H (ks.zip vs) bs → RepL K (tupF F H) (ks.map fun r => SV.tup (r.map keySV)) (bs.map V.ref)
  | [], _, _, _, h => by
    cases h
    rfl
  | k :: ks, [], _, hl, _ => by cases hl
  | k :: ks, v :: vs, _, hl, h => by
    cases h with
    | cons h1 t => 
      rename_i b bs
      exact ⟨.ref b, bs.map V.ref, rfl, ⟨b, k.map kV, rfl, tupF_at h1, key_rep k⟩, isKeys_rep (by simpa using hl) t⟩
/-- what is walked -/
theorem src_rep (q : Sim K F M S H) {x : SV} {v : V} {l : List SV} (rx : RepV K F x v) (h : srcOf S x = some l) :
    ∃ a, v = .ref a ∧ ((∃ vs, (SqL K H a vs ∨ SqT K H a vs) ∧ RepL K F l vs) ∨ (∃ (ks : List Key) (vs : List V), Rd H a (.dK (ks.zip vs)) ∧ ks.length = vs.length ∧ l = ks.map keySV) ∨ (∃ (ks : List (List Key)) (vs : List V), Rd H a (.dT (ks.zip vs)) ∧ ks.length = vs.length ∧ l = ks.map fun r => SV.tup (r.map keySV))) := by
  unfold srcOf at h
  cases hd : dicS S x with
  | none =>
    rw [hd] at h
    obtain ⟨a, vs, e, h1, r1⟩ := seq_lt q rx h
    exact ⟨a, e, .inl ⟨vs, h1, r1⟩⟩
  | some d =>
    rw [hd] at h
    cases x with
    | dK ks vs =>
      cases hd
      cases h
      obtain ⟨a, us, e, h1, h2, h3⟩ := rx
      exact ⟨a, e, .inr (.inl ⟨ks, us, .inl (q.f _ _ h1), h2, rfl⟩)⟩
    | dT ks vs =>
      cases hd
      cases h
      obtain ⟨a, us, e, h1, h2, h3⟩ := rx
      exact ⟨a, e, .inr (.inr ⟨ks, us, .inl (q.f _ _ h1), h2, rfl⟩)⟩
    | own a =>
      unfold dicS at hd
      cases hs : S a with
      | none => simp [hs] at hd
      | some o =>
        obtain ⟨_, u, hu, r⟩ := q.s a o hs
        cases o with
        | dK ks vs =>
          simp [hs] at hd
          subst hd
          cases h
          obtain ⟨us, e1, e2, e3⟩ := r
          subst e1
          exact ⟨a, rx, .inr (.inl ⟨ks, us, .inl hu, e2, rfl⟩)⟩
        | dT ks vs =>
          simp [hs] at hd
          subst hd
          cases h
          obtain ⟨us, e1, e2, e3⟩ := r
          subst e1
          exact ⟨a, rx, .inr (.inr ⟨ks, us, .inl hu, e2, rfl⟩)⟩
        | lk od us ks vs =>
          simp [hs] at hd
          subst hd
          cases h
          obtain ⟨e1, e2, e3⟩ := r
          subst e1
          exact ⟨a, rx, .inr (.inl ⟨ks, us, .inr ⟨od, hu⟩, e2, rfl⟩)⟩
        | lst l' => simp [hs] at hd
        | ins C fs => simp [hs] at hd
        | exc a' c w => simp [hs] at hd
        | fz o' l' => simp [hs] at hd
    | _ => cases hd
end
section
variable {X : Cx}
/-- the keys of a dict, gathered -/
theorem collect_dK {pins : List (Addr × Obj)} {σ : L2.St} {H : Hp} {s : Shared} (I : Inv X pins σ H s) (hc : X.calm = true) {a : Addr} {kvs : List (Key × V)} (hd : Rd H a (.dK kvs))
    (E' : Value → Shared → Prop) (Q' : List Value → Shared → Prop) (h : ∀ (its : List Value) (h1 : Heap) (tk : Nat), Vals (kvs.map fun p => kV p.1) its → (∀ b u, s.heap.get? b = some u → h1.get? b = some u) → Q' its { s with heap := h1, toks := tk }) : wpAny (model X.prog X.w) X.A.in1 (collect (.ref a)) Q' E' s := by
  obtain ⟨z, lo, vs, rel, dd⟩ := dk_rd I.hok hd
  obtain ⟨ep, hat⟩ := dd.dictAt
  have ek : (kvs.map fun kv => kV kv.1) = vs.map fun p => kV p.1 := by
    have e := congrArg (List.map kV) rel.keys
    rw [List.map_map, List.map_map] at e
    exact e
  refine PySem.W.kdu_collect (A := X.A.in1) (PySem.W.kdl_dict (knd := mixKind X.prog X.w) (kvs := vs) (ep := ep) lo) (I.ok.hd hc) hat (by rw [← rel.length]; exact z) fun h' tk acc hk hacc => ?_
  refine h _ _ _ ?_ hk
  rw [ek]
  exact keys_at (by rw [Array.length_toList]; exact hacc.1) fun j v e => hacc.2 j v (by rw [← Array.getElem?_toList]; exact e)
theorem collect_dT {pins : List (Addr × Obj)} {σ : L2.St} {H : Hp} {s : Shared} (I : Inv X pins σ H s) (hc : X.calm = true) {a : Addr} {kvs : List (List Key × V)} (hd : Rd H a (.dT kvs)) :
    ∃ bs : List Addr, IsKeys H kvs bs ∧ ∀ (E' : Value → Shared → Prop) (Q' : List Value → Shared → Prop) (_ : ∀ (its : List Value) (h1 : Heap) (tk : Nat), its = bs.map Value.ref → (∀ b u, s.heap.get? b = some u → h1.get? b = some u) → Q' its { s with heap := h1, toks := tk }), wpAny (model X.prog X.w) X.A.in1 (collect (.ref a)) Q' E' s := by
  obtain ⟨z, hs, ks, pr, o, es, ep, ho, hx, hdt, he, hn⟩ := (show ObjOk X.prog X.w H s.heap a (.dT kvs) from hd.ok I.hok)
  have l1 : es.size = ks.length := size_of_entries he
  have l2 : kvs.length = ks.length := Paired.length pr
  refine ⟨ks.map fun x => x.2.1, isKeys_of pr, fun E' Q' h => ?_⟩
  refine PySem.W.kdu_collect (A := X.A.in1) (kdl_raw hs hx hdt) (I.ok.hd hc) ho (by omega) fun h' tk acc hk hacc => h _ _ _ ?_ hk
  have hl : acc.toList.length = ks.length := by rw [Array.length_toList, hacc.1]; exact l1
  refine List.ext_getElem? fun j => ?_
  rw [List.map_map, List.getElem?_map]
  cases hj : acc.toList[j]? with
  | none =>
    have h1 := List.getElem?_eq_none_iff.mp hj
    rw [List.getElem?_eq_none (by omega)]
    rfl
  | some v =>
    obtain ⟨en, hen, hv⟩ := hacc.2 j v (by rw [← Array.getElem?_toList]; exact hj)
    have qe := entry_at he j
    rw [hen] at qe
    cases hb : ks[j]? with
    | none =>
      rw [hb] at qe
      exact nomatch (show some en = none from qe)
    | some b =>
      rw [hb] at qe
      have e2 : en = entryOfKey (tupleKind (mixKind X.prog X.w)) b := Option.some.inj qe
      rw [hv, e2]
      rfl
theorem vals_of_refs : ∀ {bs : List Addr} {its : List Value}, its = bs.map Value.ref → Vals (bs.map V.ref) its := fun {bs its} e => by
  rw [e]
  exact vals_refs bs
theorem cr_sortedA (hc : X.calm = true) (hu : X.A.units + 64 < cLine) {own : Bool} : CallR X (.builtin "sorted") (LRs X.K (r1 (sortedS own))) := by
  intro pins s σ H ws us Q I rv z
  obtain ⟨F, M, S, xs, kq, rr, q, o, kk⟩ := z
  unfold Sy.r1 at o
  split at o
  · rename_i x
    obtain ⟨v, rfl, r0⟩ := RepL.one rr
    obtain ⟨l, ds, o1, o2, o3, o4, o5, o6⟩ := o
    obtain ⟨a, rfl, h1⟩ := src_rep q r0 o1
    obtain ⟨u, rfl, ru⟩ := vals1 rv
    obtain rfl : u = Value.ref a := ru
    have el : l.map datE = ds := toDs_map o2
    -- the end, alike for all
    have fin : ∀ (F' : Hp) (vs : List V) (Pv : List Value → Prop), Same F F' → Sim X.K F' M S H → RepL X.K F' l vs → vs.length ≤ sizeLine → (∀ its, Pv its → Vals vs its) →
        (∀ (E' : Value → Shared → Prop) (Q' : List Value → Shared → Prop), (∀ (its : List Value) (h1 : Heap) (tk : Nat), Pv its → (∀ b u, s.heap.get? b = some u → h1.get? b = some u) → Q' its { s with heap := h1, toks := tk }) → wpAny (model X.prog X.w) X.A.in1 (collect (.ref a)) Q' E' s) →
        wpAny (model X.prog X.w) X.A (call (.builtin "sorted") [Value.ref a]) (EP X pins σ Q) X.xe s := fun F' vs Pv s1 q' r1 hz hpv hcol => by
      have ea := fun its h => each_rep r1 (hpv its h)
      refine sorted_of Pv hcol (by rw [r1.length]; exact hz) ea (fun its h => (PySem.W.each_mem (ea its h)).mono fun u x ⟨⟨v, p1, p2⟩, hx⟩ => Dp.reads I (datE x) v u (toD_ok q'.f x v (datE x) p2 (toDs_each o2 x hx)) p1) (by rw [el]; exact o3) (by rw [el]; exact o4) (fun b hb => ?_) fun h1 h' tk d out hs k1 kp hd' hn => ?_
      · have := o5 (datE b) (by rw [← el]; exact List.mem_map.mpr ⟨b, hb, rfl⟩)
        omega
      · obtain ⟨n, hn⟩ := hn
        obtain ⟨zs, z1, z2⟩ := rep_each hs
        have hl : zs.length ≤ sizeLine := by
          have e1 := z1.length
          rw [List.length_mergeSort] at e1
          have e2 := r1.length
          omega
        have I1 : Inv X pins σ H { s with heap := h1, toks := tk } := I.kept k1
        exact ⟨.ref d, upd H d (.lst zs), I1.laid (t' := tk) kp hd' ⟨hl, out, n, z2, hn⟩, rfl, newL_ok q' z1 o6 (kk.mono s1) (I1.hok.fresh hd')⟩
    rcases h1 with ⟨vs, h1, r1⟩ | ⟨ks, vs, h1, hl, rfl⟩ | ⟨ks, vs, h1, hl, rfl⟩
    · obtain ⟨T, ob, n, its, hT, ho, hc, hd, hv, hz⟩ : ∃ (T : String) (ob : Obj) (n : Nat) (its : List Value), (T = "list" ∨ T = "tuple") ∧ s.heap.get? a = some ob ∧ ob.cls = .type T ∧ ob.data = .seq its.toArray n ∧ Vals vs its ∧ vs.length ≤ sizeLine := by
        rcases h1 with h1 | h1
        · obtain ⟨its, hv, hp, hz⟩ := I.list h1
          obtain ⟨ob, ho, hc, n, hd⟩ := hp.isList
          exact ⟨"list", ob, n, its, .inl rfl, ho, hc, hd, hv, hz⟩
        · obtain ⟨its, hv, hp, hz⟩ := I.tuple h1
          have pT : s.heap.IsTuple a its.toArray := hp
          obtain ⟨ob, ho, hc, n, hd⟩ := pT
          exact ⟨"tuple", ob, n, its, .inr rfl, ho, hc, hd, hv, hz⟩
      refine fin F vs (fun x => x = its) Same.rfl' q r1 hz (fun x e => by rw [e]; exact hv) fun E' Q' h => collect_seq hT ho hc hd (by rw [← hv.length]; exact hz) E' Q' h
    · obtain ⟨z, _⟩ := dk_rd I.hok h1
      have zl : (ks.zip vs).length = ks.length := by rw [List.length_zip]; omega
      refine fin F (ks.map kV) (fun x => Vals (ks.map kV) x) Same.rfl' q (key_rep ks) (by rw [List.length_map]; omega) (fun x e => e) fun E' Q' h => collect_dK I hc h1 E' Q' fun its h1 tk hv hk => h its h1 tk ?_ hk
      have e : ((ks.zip vs).map fun p => kV p.1) = ks.map kV := by
        rw [← zip_keys hl, List.map_map]
        rw [zip_keys hl]
        rfl
      rw [← e]
      exact hv
    · obtain ⟨bs, hk, hcol⟩ := collect_dT I hc h1
      obtain ⟨z, _⟩ := (show ObjOk X.prog X.w H s.heap a (.dT (ks.zip vs)) from h1.ok I.hok)
      have zl : (ks.zip vs).length = ks.length := by rw [List.length_zip]; omega
      have bl := Paired.length hk
      refine fin (tupF F H) (bs.map V.ref) (fun x => x = bs.map Value.ref) (tupF_same q.f) q.tupF (isKeys_rep hl hk) (by rw [List.length_map]; omega) (fun x e => vals_of_refs e) fun E' Q' h => hcol E' Q' fun its h1 tk e hk => h its h1 tk e hk
  · cases o
/-- list(s), s a text -/
theorem call_listS (hc : X.calm = true) : CallR X (.type "list") (fun xs H Q => ∃ w : PySem.Str, xs = [.str w] ∧ w.length ≤ sizeLine ∧ ∀ p, H p = none → Q (.ref p) (upd H p (.lst (w.cps.toList.map fun c => V.str ⟨#[c]⟩)))) := by
  intro pins s σ H xs us Q I r h
  obtain ⟨w, rfl, hz, q⟩ := h
  obtain ⟨u, rfl, t, rfl⟩ := vals1 r
  refine call_list_str (I.ok.hd hc) w t (fun h' tk acc' c' kp e hacc => ?_) hz
  have hv : Vals (w.cps.toList.map fun c => V.str ⟨#[c]⟩) acc'.toList := by
    have go : ∀ (l : List Nat) (vs : List Value), vs.length = l.length → (∀ (j : Nat) v, vs[j]? = some v → ∃ c u, l[j]? = some c ∧ v = Value.str ⟨#[c]⟩ u) → Vals (l.map fun c => V.str ⟨#[c]⟩) vs := by
      intro l
      induction l with
      | nil =>
        intro vs hl _
        cases vs with
        | nil => exact .nil
        | cons _ _ => cases hl
      | cons c l ih =>
        intro vs hl hj
        cases vs with
        | nil => cases hl
        | cons v vs =>
          obtain ⟨c', u, h1, h2⟩ := hj 0 v rfl
          cases h1
          exact .cons ⟨u, h2⟩ (ih vs (by simpa using hl) fun j v hv => by
            obtain ⟨c2, u2, g1, g2⟩ := hj (j + 1) v (by simpa using hv)
            exact ⟨c2, u2, by simpa using g1, g2⟩)
    refine go _ _ (by simpa using hacc.1) fun j v hv => ?_
    obtain ⟨c, u, h1, h2⟩ := hacc.2 j v (by simpa using hv)
    exact ⟨c, u, by simpa using h1, h2⟩
  exact ⟨.ref s.heap.objs.size, _, I.laid (t' := tk) kp (Nat.le_refl _) (show ObjOk X.prog X.w _ h' _ (.lst _) from ⟨by rw [List.length_map]; exact hz, acc'.toList, c', hv, e⟩), rfl, q _ (I.hok.fresh (Nat.le_refl _))⟩
theorem cr_list (hc : X.calm = true) {own : Bool} : CallR X (.type "list") (LRs X.K (r1 (listS own))) := by
  intro pins s σ H ws us Q I rv z
  obtain ⟨F, M, S, xs, kq, rr, q, o, kk⟩ := z
  unfold Sy.r1 at o
  split at o
  · rename_i x
    obtain ⟨v, rfl, r0⟩ := RepL.one rr
    unfold listS at o
    split at o
    · rename_i w
      obtain ⟨o1, o2⟩ := o
      cases (show v = .str w from r0)
      refine call_listS hc pins s σ H _ us Q I rv ⟨w, rfl, o1, fun p hp => newL_ok q (?_ : RepL X.K F _ _) o2 kk hp⟩
      have go : ∀ l : List Nat, RepL X.K F (l.map fun c => SV.str ⟨#[c]⟩) (l.map fun c => V.str ⟨#[c]⟩) := by
        intro l
        induction l with
        | nil => rfl
        | cons c l ih => exact ⟨_, _, rfl, rfl, ih⟩
      exact go _
    obtain ⟨l, o1, o6⟩ := o
    obtain ⟨a, rfl, h1⟩ := src_rep q r0 o1
    rcases h1 with ⟨vs, h1, r1⟩ | ⟨ks, vs, h1, hl, rfl⟩ | ⟨ks, vs, h1, hl, rfl⟩
    · exact call_list_of pins s σ H _ us Q I rv ⟨a, vs, rfl, h1, fun p hp => newL_ok q r1 o6 kk hp⟩
    · refine call_listD hc pins s σ H _ us Q I rv ⟨a, ks.zip vs, rfl, h1, fun p hp => ?_⟩
      have e : ((ks.zip vs).map fun kv => kV kv.1) = ks.map kV := by
        have e1 := congrArg (List.map kV) (zip_keys hl)
        rw [List.map_map] at e1
        exact e1
      rw [e]
      exact newL_ok q (key_rep ks) o6 kk hp
    · refine call_list_dT hc pins s σ H _ us Q I rv ⟨a, ks.zip vs, rfl, h1, fun p bs hp hk => ?_⟩
      exact newL_ok q.tupF (isKeys_rep hl hk) o6 (kk.mono (tupF_same q.f)) hp
  · cases o
end
end Sy

/-! len(set(texts)): how many unlike ones -/
namespace Sy
open PySem PySem.Spec PyProof.Rows L2
theorem metS_app : ∀ (l acc : List PySem.Str) (x : PySem.Str), metS acc (l ++ [x]) = (if x ∈ metS acc l then metS acc l else metS acc l ++ [x])
  | [], acc, x => rfl
  | y :: l, acc, x => metS_app l _ x
theorem metS_len : ∀ (l acc : List PySem.Str), (metS acc l).length ≤ acc.length + l.length
  | [], acc => Nat.le_refl _
  | y :: l, acc => by
    refine Nat.le_trans (metS_len l _) ?_
    split
    · rw [List.length_cons]; omega
    · simp only [List.length_append, List.length_cons, List.length_nil]; omega
theorem metS_nodup : ∀ (l acc : List PySem.Str), (∀ x ∈ l, x ∉ acc) → l.Nodup → metS acc l = acc ++ l
  | [], acc, _, _ => (List.append_nil _).symm
  | y :: l, acc, h, hn => by
    show metS (if y ∈ acc then acc else acc ++ [y]) l = _
    rw [if_neg (h y List.mem_cons_self), metS_nodup l (acc ++ [y]) (fun x hx hm => ?_) (List.nodup_cons.mp hn).2, List.append_assoc]
    · rfl
    · rcases List.mem_append.mp hm with z | z
      · exact h x (List.mem_cons_of_mem _ hx) z
      · rw [List.mem_singleton.mp z] at hx
        exact (List.nodup_cons.mp hn).1 hx
theorem strs_get : ∀ {us : List Value} {ys : List PySem.Str}, StrsAre us ys → ∀ (i : Nat) (v : Value), us[i]? = some v → ∃ x t, ys[i]? = some x ∧ v = Value.str x t
  | _, _, .nil, i, v, h => by simp at h
  | _, _, .cons n t hr, 0, v, h => by
    simp at h
    exact ⟨n, t, rfl, h.symm⟩
  | _, _, .cons n t hr, i + 1, v, h => by
    obtain ⟨x, u, e1, e2⟩ := strs_get hr i v (by simpa using h)
    exact ⟨x, u, by simpa using e1, e2⟩
section
variable {prog : Program} {w : World} {A : Around} {R : Result → Shared → Prop} {I : Addr} {fp wr : List Addr} {G : Array GenState → Array GenState → Prop} {n : Nat} {P : Nat → Value → Prop} {St : Nat → Shared → Prop}
/-- the members while the first i texts were put in -/
def InSet (prog : Program) (w : World) (h : Heap) (S : Addr) (xs : List PySem.Str) (i : Nat) : Prop := h.SetOf (PySem.strKind prog w) S (fun k => decide (k ∈ metS [] (xs.take i))) (metS [] (xs.take i)).length
theorem InSet.at {h h' : Heap} {S : Addr} {xs : List PySem.Str} {i : Nat} (x : InSet prog w h S xs i) (k : ∀ o, h.get? S = some o → h'.get? S = some o) : InSet prog w h' S xs i := by
  obtain ⟨o, es, ep, t, ho, rest⟩ := x
  exact ⟨o, es, ep, t, k _ ho, rest⟩
theorem InSet.next {h : Heap} {S : Addr} {xs : List PySem.Str} {i : Nat} {x : PySem.Str} (hx : xs[i]? = some x)
    (q : h.SetOf (PySem.strKind prog w) S (fun j => decide (j ∈ metS [] (xs.take i)) || decide (j = x)) (if decide (x ∈ metS [] (xs.take i)) = true then (metS [] (xs.take i)).length else (metS [] (xs.take i)).length + 1)) : InSet prog w h S xs (i + 1) := by
  have e : xs.take (i + 1) = xs.take i ++ [x] := by rw [List.take_add_one, hx]; rfl
  unfold InSet
  rw [e, metS_app]
  refine SetOf_congr q (fun k => ?_) ?_
  · by_cases hm : x ∈ metS [] (xs.take i)
    · rw [if_pos hm]
      by_cases hk : k = x
      · subst hk; simp [hm]
      · simp [hk]
    · rw [if_neg hm]
      simp
  · by_cases hm : x ∈ metS [] (xs.take i)
    · simp [hm]
    · simp [hm]
theorem set_loop (W : WalksS prog w A.in1 I fp wr G n P St) (S : Addr) (hSf : S ∉ fp) (xs : List PySem.Str) (hsz : xs.length = n) (hn : n + 1 < scanBound) (hval : ∀ i v, P i v → ∃ x t, xs[i]? = some x ∧ v = .str x t) :
    ∀ (k i : Nat) (s : Shared), n - i = k → i ≤ n → St i s → InSet prog w s.heap S xs i → (∀ s', Moved (S :: wr) G s s' → InSet prog w s'.heap S xs n → R (.ok (.ret .none)) s') →
      codeAny (model prog w) A (.builtin "set.update.loop" ⟨[.ref S, .ref I], []⟩) R s := by
  have hSw : S ∉ wr := fun h => hSf (W.sub _ h)
  have hsub : ∀ b ∈ wr, b ∈ S :: wr := fun b hb => List.mem_cons_of_mem _ hb
  intro k
  induction k with
  | zero =>
    intro i s hk hi hst hS hR
    obtain rfl : i = n := by omega
    refine codeAny_builtin PyProof.Rows.F.entry_set_update_loop ?_
    rw [Around.under_plainId PyProof.Rows.F.plain_set_update_loop _]
    show wpAny _ A.in1 (pyNext (.ref I) >>= _) _ _ s
    exact wpAny_bind (W.done s _ _ hst fun s' hm => wpAny_pure (hR s' (hm.mono hsub) (hS.at fun o e => hm.heap S o hSw e)))
  | succ k ih =>
    intro i s hk hi hst hS hR
    have hlt : i < n := by omega
    refine codeAny_builtin PyProof.Rows.F.entry_set_update_loop ?_
    rw [Around.under_plainId PyProof.Rows.F.plain_set_update_loop _]
    show wpAny _ A.in1 (pyNext (.ref I) >>= _) _ _ s
    refine wpAny_bind (W.item i s _ _ hlt hst fun v s' hP hst' hm => ?_)
    obtain ⟨x, t, hx, rfl⟩ := hval i v hP
    have hS' : InSet prog w s'.heap S xs i := hS.at fun o e => hm.heap S o hSw e
    show wpAny _ A.in1 (holding [Value.str x t] (setAdd S (.str x t)) >>= _) _ _ s'
    refine wpAny_bind (wpAny_holding ?_)
    unfold setAdd
    refine wpAny_holding ?_
    refine wpAny_bind ((PySem.strKind prog w).pyHash (k := x) (strKind_is _ _ _ _) ?_)
    have hroom : (metS [] (xs.take i)).length + 1 < scanBound := by
      have h1 := metS_len (xs.take i) []
      have h2 := List.length_take_le i xs
      rw [List.length_nil, Nat.zero_add] at h1
      omega
    refine wpAny_setAddHashed_of (knd := PySem.strKind prog w) (s := { s' with toks := s'.toks + 1 }) (strKind_is _ _ _ _) rfl hS' hroom fun h' hsb hS2 => ?_
    have hSi : InSet prog w h' S xs (i + 1) := .next hx hS2
    refine wpAny_pure ⟨plainId_quiet PyProof.Rows.F.plain_set_update_loop _, ih (i + 1) _ (by omega) hlt (W.frame _ s' _ _ hst' (Nat.le_succ _) fun b hb o e => ?_) hSi fun s'' hm'' hS'' => ?_⟩
    · rw [hsb.2 b (fun h : b = S => hSf (by rw [← h]; exact hb))]
      exact e
    · refine hR s'' (Moved.trans W.gtrans ((hm.mono hsub).then_heap (Nat.le_succ _) fun b o hb e => ?_) hm'') hS''
      rw [hsb.2 b (fun h : b = S => hb (by rw [h]; exact List.mem_cons_self))]
      exact e
end
section
variable {prog : Program} {w : World} {A : Around} {E : Value → Shared → Prop} {s : Shared}
theorem set_of_list {l : Addr} {items : Array Value} {xs : List PySem.Str} {Q : Value → Shared → Prop} (hh : A.handled = none) (hl : s.heap.IsList l items) (hi : StrsAre items.toList xs) (hn : xs.length + 1 < scanBound)
    (h : ∀ (h' : Heap) (tk : Nat), InSet prog w h' s.heap.objs.size xs xs.length → (∀ b o, b < s.heap.objs.size → s.heap.get? b = some o → h'.get? b = some o) → Q (.ref s.heap.objs.size) { s with heap := h', toks := tk }) :
    wpAny (model prog w) A (call (.type "set") [.ref l]) Q E s := by
  obtain ⟨c, tl, hmro⟩ := PySem.F.called_set.mro
  have hmade := PySem.F.called_set.made
  have hsub := PySem.F.called_set.sub
  refine wpAny_call (codeAny_of_tree ?_)
  show wpAny _ _ (callAny (.type "set") _) _ _ _
  refine wpAny_pure ⟨Code.quiet_builtin _ (by decide +kernel), codeAny_builtin PySem.F.entry_type_call ?_⟩
  rw [Around.under_plain (weight_type_call_type "set" [.ref l] []) rfl]
  have h1 := PySem.F.called_set.notType
  have h2 := PySem.F.called_set.canCreate
  have hct := PySem.F.typeCall_set_1 (.ref l)
  repeat (any_goals (first | assumption | wp_step))
  refine codeAny_mono (code_set_new_1 (.ref l) (E := E) (Q₁ := fun obj s₁ => ∃ led : Bool, obj = .ref s.heap.objs.size ∧ s₁ = { s with heap := s.heap.push { cls := .type "set", dict := none, data := .set #[] 0 (.fresh 0 0 led) } }) fun led => ⟨led, rfl, rfl⟩) fun r s₁ hr => ?_
  cases r with
  | error e => exact hr
  | ok fl =>
    cases fl with
    | ret obj =>
      obtain ⟨led, rfl, rfl⟩ := hr
      have hS : (s.heap.push { cls := .type "set", dict := none, data := .set #[] 0 (.fresh 0 0 led) }).get? s.heap.objs.size = some { cls := .type "set", dict := none, data := .set #[] 0 (.fresh 0 0 led) } := Heap.get?_push_size _ rfl
      have hT : Shared.TypeIs { s with heap := s.heap.push { cls := .type "set", dict := none, data := .set #[] 0 (.fresh 0 0 led) } } (.ref s.heap.objs.size) "set" := ⟨_, hS, rfl⟩
      have hli := PySem.F.called_set.init.lookup
      have hbi := PySem.F.called_set.init.bind (.ref s.heap.objs.size)
      repeat (any_goals (first | assumption | wp_step))
      refine codeAny_mono (codeAny_call_builtin (R := wants (fun r s₂ => r = .none ∧ ∃ h' tk, s₂ = { s with heap := h', toks := tk } ∧ InSet prog w h' s.heap.objs.size xs xs.length ∧
          (∀ b o, b < s.heap.objs.size → s.heap.get? b = some o → h'.get? b = some o)) E) PySem.F.called_set.init.plain PySem.F.entry_set_init (check_set_init_1 hT ?_)) fun r₂ s₂ hr₂ => ?_
      · obtain ⟨ol, hol, hcl, nl, hdl⟩ := hl
        obtain ⟨ocls, odict, odata, oslots⟩ := ol
        simp only at hcl hdl
        subst hcl; subst hdl
        have hol' : (s.heap.push { cls := .type "set", dict := none, data := .set #[] 0 (.fresh 0 0 led) }).get? l = some { cls := .type "list", dict := odict, data := .seq items nl, slots := oslots } := Heap.get?_push_of_some _ hol
        have hsls := PySem.F.sub_list_set
        have hslf := PySem.F.sub_list_frozenset
        have hne : (Value.type "list" == Value.type "dict") = false := by decide
        have hl1 : (s.heap.push { cls := .type "set", dict := none, data := .set #[] 0 (.fresh 0 0 led) }).IsList l items := ⟨_, hol', rfl, nl, rfl⟩
        unfold Builtin.«set.__init__» noKeywords Builtin.Frozenset.updateFrom
        generalize hPI : pyIter = PI
        wp_walk
        subst hPI
        refine wpAny_pyIter_list hl1 ?_
        refine wpAny_bind (wpAny_runValue ?_)
        have hlS : l < s.heap.objs.size := Heap.lt_size hol
        have hh3 : A.in1.in1.in1.handled = none := by simp [hh]
        have hneI : l ≠ (s.heap.push { cls := .type "set", dict := none, data := .set #[] 0 (.fresh 0 0 led) }).objs.size := by
          rw [Heap.size_push]; exact Nat.ne_of_lt (Nat.lt_succ_of_lt hlS)
        have hSf : s.heap.objs.size ∉ [(s.heap.push { cls := .type "set", dict := none, data := .set #[] 0 (.fresh 0 0 led) }).objs.size, l] := by
          rw [Heap.size_push]
          simp only [List.mem_cons, List.mem_singleton, List.not_mem_nil, or_false, not_or]
          exact ⟨Nat.ne_of_lt (Nat.lt_succ_self _), Nat.ne_of_gt hlS⟩
        have hsz : xs.length = items.size := by rw [← StrsAre.len_eq hi, Array.length_toList]
        rw [hsz]
        refine set_loop ((Walks.list hh3 _ l hneI items).toS) s.heap.objs.size hSf xs hsz (by rw [← hsz]; exact hn) (fun i v hv => strs_get hi i v (by rw [Array.getElem?_toList]; exact hv)) (items.size - 0) 0 _ (by omega) (Nat.zero_le _)
          ⟨⟨_, Heap.get?_push_size _ rfl, rfl, rfl⟩, (hl1.push _)⟩ ?hS0 ?hR
        case hS0 =>
          have hget : ((s.heap.push { cls := .type "set", dict := none, data := .set #[] 0 (.fresh 0 0 led) }).push { cls := .type "list_iterator", data := .fields #[.ref l, .int 0 0] }).get? s.heap.objs.size
              = some { cls := .type "set", dict := none, data := .set #[] 0 (.fresh 0 0 led) } := Heap.get?_push_of_some _ hS
          exact SetOf_congr ((setObjOf_fresh (knd := PySem.strKind prog w) led).setOf hget (by unfold scanBound; omega)) (fun _ => rfl) rfl
        case hR =>
          intro s' hm hS'
          obtain ⟨h', g', d', tk', os'⟩ := s'
          have eg : g' = s.gens := hm.gens
          have ed : d' = s.drawn := hm.drawn
          have eo : os' = s.os := hm.os
          subst eg; subst ed; subst eo
          show wpAny _ _ _ _ _ _
          refine wpAny_pure ?_
          show wpAny _ _ (ret Value.none) _ _ _
          refine wpAny_pure ⟨rfl, h', tk', rfl, hS', fun b o hb e => ?_⟩
          have hb1 : b ≠ s.heap.objs.size := Nat.ne_of_lt hb
          have hb2 : b ≠ (s.heap.push { cls := .type "set", dict := none, data := .set #[] 0 (.fresh 0 0 led) }).objs.size := by
            rw [Heap.size_push]; exact Nat.ne_of_lt (Nat.lt_succ_of_lt hb)
          exact hm.heap b o (by simp only [List.mem_cons, List.mem_singleton, List.not_mem_nil, or_false, not_or]; exact ⟨hb1, hb2⟩) (Heap.get?_push_of_some _ (Heap.get?_push_of_some _ e))
      · cases r₂ with
        | error e => exact hr₂
        | ok fl₂ =>
          cases fl₂ with
          | ret r =>
            obtain ⟨rfl, h', tk, rfl, hS', hk'⟩ := hr₂
            repeat (any_goals (first | assumption | wp_step))
            exact h _ _ hS' hk'
          | _ => exact hr₂.elim
    | _ => exact hr.elim
end
section
variable {prog : Program} {w : World} {A : Around} {E : Value → Shared → Prop} {s : Shared}
theorem set_of_tuple {l : Addr} {items : Array Value} {xs : List PySem.Str} {Q : Value → Shared → Prop} (hh : A.handled = none) (hl : s.heap.IsTuple l items) (hi : StrsAre items.toList xs) (hn : xs.length + 1 < scanBound)
    (h : ∀ (h' : Heap) (tk : Nat), InSet prog w h' s.heap.objs.size xs xs.length → (∀ b o, b < s.heap.objs.size → s.heap.get? b = some o → h'.get? b = some o) → Q (.ref s.heap.objs.size) { s with heap := h', toks := tk }) :
    wpAny (model prog w) A (call (.type "set") [.ref l]) Q E s := by
  obtain ⟨c, tl, hmro⟩ := PySem.F.called_set.mro
  have hmade := PySem.F.called_set.made
  have hsub := PySem.F.called_set.sub
  refine wpAny_call (codeAny_of_tree ?_)
  show wpAny _ _ (callAny (.type "set") _) _ _ _
  refine wpAny_pure ⟨Code.quiet_builtin _ (by decide +kernel), codeAny_builtin PySem.F.entry_type_call ?_⟩
  rw [Around.under_plain (weight_type_call_type "set" [.ref l] []) rfl]
  have h1 := PySem.F.called_set.notType
  have h2 := PySem.F.called_set.canCreate
  have hct := PySem.F.typeCall_set_1 (.ref l)
  repeat (any_goals (first | assumption | wp_step))
  refine codeAny_mono (code_set_new_1 (.ref l) (E := E) (Q₁ := fun obj s₁ => ∃ led : Bool, obj = .ref s.heap.objs.size ∧ s₁ = { s with heap := s.heap.push { cls := .type "set", dict := none, data := .set #[] 0 (.fresh 0 0 led) } }) fun led => ⟨led, rfl, rfl⟩) fun r s₁ hr => ?_
  cases r with
  | error e => exact hr
  | ok fl =>
    cases fl with
    | ret obj =>
      obtain ⟨led, rfl, rfl⟩ := hr
      have hS : (s.heap.push { cls := .type "set", dict := none, data := .set #[] 0 (.fresh 0 0 led) }).get? s.heap.objs.size = some { cls := .type "set", dict := none, data := .set #[] 0 (.fresh 0 0 led) } := Heap.get?_push_size _ rfl
      have hT : Shared.TypeIs { s with heap := s.heap.push { cls := .type "set", dict := none, data := .set #[] 0 (.fresh 0 0 led) } } (.ref s.heap.objs.size) "set" := ⟨_, hS, rfl⟩
      have hli := PySem.F.called_set.init.lookup
      have hbi := PySem.F.called_set.init.bind (.ref s.heap.objs.size)
      repeat (any_goals (first | assumption | wp_step))
      refine codeAny_mono (codeAny_call_builtin (R := wants (fun r s₂ => r = .none ∧ ∃ h' tk, s₂ = { s with heap := h', toks := tk } ∧ InSet prog w h' s.heap.objs.size xs xs.length ∧
          (∀ b o, b < s.heap.objs.size → s.heap.get? b = some o → h'.get? b = some o)) E) PySem.F.called_set.init.plain PySem.F.entry_set_init (check_set_init_1 hT ?_)) fun r₂ s₂ hr₂ => ?_
      · obtain ⟨ol, hol, hcl, nl, hdl⟩ := hl
        obtain ⟨ocls, odict, odata, oslots⟩ := ol
        simp only at hcl hdl
        subst hcl; subst hdl
        have hol' : (s.heap.push { cls := .type "set", dict := none, data := .set #[] 0 (.fresh 0 0 led) }).get? l = some { cls := .type "tuple", dict := odict, data := .seq items nl, slots := oslots } := Heap.get?_push_of_some _ hol
        have hsls := PySem.F.sub_tuple_set
        have hslf := PySem.F.sub_tuple_frozenset
        have hne : (Value.type "tuple" == Value.type "dict") = false := by decide
        have hl1 : (s.heap.push { cls := .type "set", dict := none, data := .set #[] 0 (.fresh 0 0 led) }).IsTuple l items := ⟨_, hol', rfl, nl, rfl⟩
        unfold Builtin.«set.__init__» noKeywords Builtin.Frozenset.updateFrom
        generalize hPI : pyIter = PI
        wp_walk
        subst hPI
        refine wpAny_pyIter_tuple hl1 ?_
        refine wpAny_bind (wpAny_runValue ?_)
        have hlS : l < s.heap.objs.size := Heap.lt_size hol
        have hh3 : A.in1.in1.in1.handled = none := by simp [hh]
        have hneI : l ≠ (s.heap.push { cls := .type "set", dict := none, data := .set #[] 0 (.fresh 0 0 led) }).objs.size := by
          rw [Heap.size_push]; exact Nat.ne_of_lt (Nat.lt_succ_of_lt hlS)
        have hSf : s.heap.objs.size ∉ [(s.heap.push { cls := .type "set", dict := none, data := .set #[] 0 (.fresh 0 0 led) }).objs.size, l] := by
          rw [Heap.size_push]
          simp only [List.mem_cons, List.mem_singleton, List.not_mem_nil, or_false, not_or]
          exact ⟨Nat.ne_of_lt (Nat.lt_succ_self _), Nat.ne_of_gt hlS⟩
        have hsz : xs.length = items.size := by rw [← StrsAre.len_eq hi, Array.length_toList]
        rw [hsz]
        refine set_loop ((Walks.tuple hh3 _ l hneI items).toS) s.heap.objs.size hSf xs hsz (by rw [← hsz]; exact hn) (fun i v hv => strs_get hi i v (by rw [Array.getElem?_toList]; exact hv)) (items.size - 0) 0 _ (by omega) (Nat.zero_le _)
          ⟨⟨_, Heap.get?_push_size _ rfl, rfl, rfl⟩, (hl1.push _)⟩ ?hS0 ?hR
        case hS0 =>
          have hget : ((s.heap.push { cls := .type "set", dict := none, data := .set #[] 0 (.fresh 0 0 led) }).push { cls := .type "tuple_iterator", data := .fields #[.ref l, .int 0 0] }).get? s.heap.objs.size
              = some { cls := .type "set", dict := none, data := .set #[] 0 (.fresh 0 0 led) } := Heap.get?_push_of_some _ hS
          exact SetOf_congr ((setObjOf_fresh (knd := PySem.strKind prog w) led).setOf hget (by unfold scanBound; omega)) (fun _ => rfl) rfl
        case hR =>
          intro s' hm hS'
          obtain ⟨h', g', d', tk', os'⟩ := s'
          have eg : g' = s.gens := hm.gens
          have ed : d' = s.drawn := hm.drawn
          have eo : os' = s.os := hm.os
          subst eg; subst ed; subst eo
          show wpAny _ _ _ _ _ _
          refine wpAny_pure ?_
          show wpAny _ _ (ret Value.none) _ _ _
          refine wpAny_pure ⟨rfl, h', tk', rfl, hS', fun b o hb e => ?_⟩
          have hb1 : b ≠ s.heap.objs.size := Nat.ne_of_lt hb
          have hb2 : b ≠ (s.heap.push { cls := .type "set", dict := none, data := .set #[] 0 (.fresh 0 0 led) }).objs.size := by
            rw [Heap.size_push]; exact Nat.ne_of_lt (Nat.lt_succ_of_lt hb)
          exact hm.heap b o (by simp only [List.mem_cons, List.mem_singleton, List.not_mem_nil, or_false, not_or]; exact ⟨hb1, hb2⟩) (Heap.get?_push_of_some _ (Heap.get?_push_of_some _ e))
      · cases r₂ with
        | error e => exact hr₂
        | ok fl₂ =>
          cases fl₂ with
          | ret r =>
            obtain ⟨rfl, h', tk, rfl, hS', hk'⟩ := hr₂
            repeat (any_goals (first | assumption | wp_step))
            exact h _ _ hS' hk'
          | _ => exact hr₂.elim
    | _ => exact hr.elim
end
section
variable {X : Cx}
/-- len(set(xs)), xs a list or tuple of texts -/
def tLset (K : PySem.W.Frag) (ta : TE) : TE := fun σ H Q => ta σ H fun x H1 => ∃ (l : Addr) (xs : List PySem.Str), x = .ref l ∧ (SqL K H1 l (xs.map V.str) ∨ SqT K H1 l (xs.map V.str)) ∧ xs.length ≤ 4000 ∧ Q (.int ((metS [] xs).length : Nat)) H1
theorem pe_lset {a : PySem.Expr} {ta : TE} {p p2 q pos : Pos} (hc : X.calm = true) (hg : Gl X "len") (hm : X.mg "len" = none) (hg2 : Gl X "set") (hm2 : X.mg "set" = none) (ha : PE X a ta)
    (na : starEach [a] X.env = (false, eval a X.env) :: starEach [] X.env) : PE X (.Call (.Name "len" p) [.Call (.Name "set" p2) [a] [] q] [] pos) (tLset X.K ta) := by
  refine ⟨fun pins s σ H Q I h => ?_⟩
  refine Call_ (ld_blt I hg hm boot_len ?_)
  refine PyProof.Rows.callWith_builtin1 (PyProof.Rows.args_cons ?_ rfl) rfl rfl
  refine Call_ (ld_blt I hg2 hm2 boot_set ?_)
  refine PyProof.Rows.callWith_type1 (PyProof.Rows.args_cons (thn (ha.run pins s σ H _ I h) fun v s1 ⟨x, H1, I1, r1, q1⟩ => PyProof.Rows.args_nil ?_) na) na rfl
  obtain ⟨l, xs, rfl, hq, h1, q1⟩ := q1
  cases r1
  have hml := metS_len xs []
  rw [List.length_nil, Nat.zero_add] at hml
  rcases hq with hq | hq
  · obtain ⟨its, r, pl, hz⟩ := I1.list hq
    refine set_of_list (I1.ok.hd hc) pl.isList (by simpa using strsAre_of r) (by unfold scanBound; omega) fun h' tk hS hk => ?_
    refine PyProof.Rows.args_nil ?_
    unfold InSet at hS
    rw [List.take_length] at hS
    obtain ⟨o, es, ep, t, ho, hex, hd, _, _, _, hf, hn⟩ := hS
    have I2 : Inv X pins σ H1 { s1 with heap := h', toks := tk } := I1.kept fun b o e => hk b o (Heap.lt_size e) e
    exact call_len_set ho hex hd hf (by rw [hn] <;> omega) ⟨.int (metS [] xs).length, H1, I2.tok _, ⟨_, by rw [hn]⟩, q1⟩
  · obtain ⟨its, r, pl, hz⟩ := I1.tuple hq
    refine set_of_tuple (I1.ok.hd hc) (show s1.heap.IsTuple l its.toArray from pl) (by simpa using strsAre_of r) (by unfold scanBound; omega) fun h' tk hS hk => ?_
    refine PyProof.Rows.args_nil ?_
    unfold InSet at hS
    rw [List.take_length] at hS
    obtain ⟨o, es, ep, t, ho, hex, hd, _, _, _, hf, hn⟩ := hS
    have I2 : Inv X pins σ H1 { s1 with heap := h', toks := tk } := I1.kept fun b o e => hk b o (Heap.lt_size e) e
    exact call_len_set ho hex hd hf (by rw [hn] <;> omega) ⟨.int (metS [] xs).length, H1, I2.tok _, ⟨_, by rw [hn]⟩, q1⟩
end
end Sy

namespace Sy
open PySem PySem.Spec PyProof.Rows L2
/-! ### what is built in -/
def biV : Bi → Value
  | .len => .builtin "len"
  | .sorted => .builtin "sorted"
  | .tuple => .type "tuple"
  | .list => .type "list"
  | .mn => .builtin "min"
  | .mx => .builtin "max"
  | .sum => .builtin "sum"
  | .all => .builtin "all"
  | .any => .builtin "any"
  | .abs => .builtin "abs"
  | .int => .type "int"
  | .str => .type "str"
  | .dict => .type "dict"
  | .isinst => .builtin "isinstance"
theorem bi_boot (f : Bi) : bootBuiltins (biN f) = some (biV f) := by cases f <;> decide +kernel
section
variable {X : Cx}
theorem CallR.imp {f : Value} {r r' : List V → Hp → VK → Prop} (h : CallR X f r) (q : ∀ xs H Q, r' xs H Q → r xs H Q) : CallR X f r' := fun pins s σ H xs us Q I a z => h pins s σ H xs us Q I a (q _ _ _ z)
theorem cr_no {f : Value} {r : List SV → Sto → SK → Prop} (h : ∀ xs S k, ¬ r xs S k) : CallR X f (LRs X.K r) := fun pins s σ H xs us Q I a z => by
  obtain ⟨_, _, _, _, _, _, _, z, _⟩ := z
  exact (h _ _ _ z).elim
theorem cr_r1 {f : Value} {r : SV → Sto → SK → Prop} {r' : List V → Hp → VK → Prop} (h : CallR X f r') (q : ∀ v H Q, LR1 X.K r v H Q → r' [v] H Q) : CallR X f (LRs X.K (r1 r)) := CallR.imp h fun xs H Q z => by
  obtain ⟨F, M, S, ys, k, rr, s, o, kk⟩ := z
  unfold r1 at o
  split at o
  · obtain ⟨v, rfl, rv⟩ := RepL.one rr
    exact q v H Q ⟨F, M, S, _, k, rv, s, o, kk⟩
  · cases o
theorem cr_r2 {f : Value} {r : SV → SV → Sto → SK → Prop} {r' : List V → Hp → VK → Prop} (h : CallR X f r') (q : ∀ v u H Q, LR2 X.K r v u H Q → r' [v, u] H Q) : CallR X f (LRs X.K (r2 r)) := CallR.imp h fun xs H Q z => by
  obtain ⟨F, M, S, ys, k, rr, s, o, kk⟩ := z
  unfold r2 at o
  split at o
  · obtain ⟨v, u, rfl, rv, ru⟩ := RepL.two rr
    exact q v u H Q ⟨F, M, S, _, _, k, rv, ru, s, o, kk⟩
  · cases o
theorem cr_len : CallR X (.builtin "len") (LRs X.K (r1 lenS)) := cr_r1 call_len fun v H Q z => by
  obtain ⟨F, M, S, x, k, rv, q, o, kk⟩ := z
  unfold lenS at o
  split at o
  · cases (show v = .str _ from rv)
    exact ⟨_, _, rfl, ⟨o.1, rfl⟩, kk.go q (show RepV X.K F (.int _) (.int _) from rfl) o.2⟩
  · obtain ⟨l, o1, o2⟩ := o
    obtain ⟨a, vs, rfl, h1, r1⟩ := seq_lt q rv o1
    rw [r1.length] at o2
    refine ⟨_, vs.length, rfl, ?_, kk.go q (show RepV X.K F (.int _) (.int _) from rfl) o2⟩
    rcases h1 with h1 | h1
    · exact .inl ⟨vs, h1, rfl⟩
    · exact .inr ⟨vs, h1, rfl⟩
/-- tuple of a list: the new object is known -/
theorem call_tupleK : CallR X (.type "tuple") (fun xs H Q => ∃ p ys, xs = [V.ref p] ∧ ((SqL X.K H p ys ∧ ∀ (l : Addr) (o : Obj), o.dict = none → H l = none → Q (.ref l) (upd H l (.frz o (.tup ys)))) ∨ (SqT X.K H p ys ∧ Q (.ref p) H))) := by
  intro pins s σ H xs us Q I r h
  obtain ⟨p, ys, rfl, h⟩ := h
  obtain ⟨u, rfl, rx⟩ := vals1 r
  cases rx
  rcases h with ⟨hq, q⟩ | ⟨hq, q⟩
  · obtain ⟨its, r', pl, hz⟩ := I.list hq
    have hlen := r'.length
    refine call_tuple_list pl.isList (fun h' kp => ?_) (by simp only [List.size_toArray] <;> omega)
    have I1 : Inv X pins σ H { s with heap := h' } := I.kept (t' := s.toks) kp
    have new : (h'.push { cls := .type "tuple", data := .seq its.toArray }).get? h'.objs.size = some { cls := .type "tuple", data := .seq its.toArray } := Heap.get?_push_size _ rfl
    refine ⟨.ref h'.objs.size, upd H h'.objs.size (.frz { cls := .type "tuple", data := .seq its.toArray } (.tup ys)), I1.laid (t' := s.toks) (fun b o e => Heap.get?_push_of_some _ e) (Nat.le_refl _) ⟨new, hz, its, r', ⟨_, new, rfl, _, rfl⟩⟩, rfl, q _ _ rfl (I1.hok.fresh (Nat.le_refl _))⟩
  · obtain ⟨its, r', pl, hz⟩ := I.tuple hq
    exact call_tuple_same pl ⟨.ref p, H, I, rfl, q⟩
theorem newU_ok {K : PySem.W.Frag} {F M H : Hp} {S : Sto} {xs : List SV} {vs : List V} {k : SK} {Q : VK} (q : Sim K F M S H) (r : RepL K F xs vs) (h : k (.tuf xs) S) (kk : Kk K F M k Q) {p : Addr} {o : Obj} (ho : o.dict = none) (hp : H p = none) : Q (.ref p) (upd H p (.frz o (.tup vs))) := by
  have s1 : Same F (upd F p (.frz o (.tup vs))) := Same.new (q.freeF hp)
  exact kk _ _ _ (.tuf xs) _ s1 (q.newF hp) ⟨p, vs, rfl, .inl ⟨o, upd_same, ho⟩, RepL.mono s1 _ _ r⟩ h
theorem cr_tupleN : ∀ own, CallR X (.type "tuple") (LRs X.K (r1 fun x S k => (∀ w, x ≠ .str w) ∧ tupleS own x S k))
  | true => cr_r1 call_tuple_of fun v H Q z => by
    obtain ⟨F, M, S, x, k, rv, q, o, kk⟩ := z
    obtain ⟨ns, o⟩ := o
    unfold tupleS at o
    split at o
    · obtain ⟨a, vs, rfl, h1, r1⟩ := tup_t q rv
      exact ⟨a, vs, rfl, .inr ⟨h1, kk.go q rv o⟩⟩
    · obtain ⟨a, vs, rfl, h1, r1⟩ := tuf_t q rv
      exact ⟨a, vs, rfl, .inr ⟨h1, kk.go q rv o⟩⟩
    · exact absurd rfl (ns _)
    · obtain ⟨l, o1, o2⟩ := o
      obtain ⟨a, vs, rfl, h1, r1⟩ := items_l q rv o1
      refine ⟨a, vs, rfl, .inl ⟨h1, fun p hp => ?_⟩⟩
      have s1 : Same F (upd F p (.tup vs)) := Same.new (q.freeF hp)
      exact kk _ _ _ (.tup l) _ s1 (q.newF hp) ⟨p, vs, rfl, upd_same, RepL.mono s1 _ _ r1⟩ o2
  | false => cr_r1 call_tupleK fun v H Q z => by
    obtain ⟨F, M, S, x, k, rv, q, o, kk⟩ := z
    obtain ⟨ns, o⟩ := o
    unfold tupleS at o
    split at o
    · obtain ⟨a, vs, rfl, h1, r1⟩ := tup_t q rv
      exact ⟨a, vs, rfl, .inr ⟨h1, kk.go q rv o⟩⟩
    · obtain ⟨a, vs, rfl, h1, r1⟩ := tuf_t q rv
      exact ⟨a, vs, rfl, .inr ⟨h1, kk.go q rv o⟩⟩
    · exact absurd rfl (ns _)
    · obtain ⟨l, o1, o2⟩ := o
      obtain ⟨a, vs, rfl, h1, r1⟩ := items_l q rv o1
      exact ⟨a, vs, rfl, .inl ⟨h1, fun p ob hd hp => newU_ok q r1 o2 kk hd hp⟩⟩
theorem vals_chars {acc : Array Value} {w : PySem.Str} (h : acc.size = w.cps.size ∧ ∀ (j : Nat) v, acc[j]? = some v → ∃ c u, w.cps[j]? = some c ∧ v = Value.str ⟨#[c]⟩ u) : Vals (w.cps.toList.map fun c => V.str ⟨#[c]⟩) acc.toList := by
  have go : ∀ (l : List Nat) (vs : List Value), vs.length = l.length → (∀ (j : Nat) v, vs[j]? = some v → ∃ c u, l[j]? = some c ∧ v = Value.str ⟨#[c]⟩ u) → Vals (l.map fun c => V.str ⟨#[c]⟩) vs := by
    intro l
    induction l with
    | nil =>
      intro vs hl _
      cases vs with
      | nil => exact .nil
      | cons _ _ => cases hl
    | cons c l ih =>
      intro vs hl hj
      cases vs with
      | nil => cases hl
      | cons v vs =>
        obtain ⟨c', u, h1, h2⟩ := hj 0 v rfl
        cases h1
        exact .cons ⟨u, h2⟩ (ih vs (by simpa using hl) fun j v hv => by
          obtain ⟨c2, u2, g1, g2⟩ := hj (j + 1) v (by simpa using hv)
          exact ⟨c2, u2, by simpa using g1, g2⟩)
  refine go _ _ (by simpa using h.1) fun j v hv => ?_
  obtain ⟨c, u, h1, h2⟩ := h.2 j v (by simpa using hv)
  exact ⟨c, u, by simpa using h1, h2⟩
theorem rep_chars {K : PySem.W.Frag} {F : Hp} : ∀ l : List Nat, RepL K F (l.map fun c => SV.str ⟨#[c]⟩) (l.map fun c => V.str ⟨#[c]⟩)
  | [] => rfl
  | c :: l => ⟨_, _, rfl, rfl, rep_chars l⟩
theorem cr_tuple (hc : X.calm = true) (own : Bool) : CallR X (.type "tuple") (LRs X.K (r1 (tupleS own))) := by
  intro pins s σ H ws us Q I rv z
  obtain ⟨F, M, S, xs, kq, rr, q, o, kk⟩ := z
  unfold Sy.r1 at o
  split at o
  · rename_i x
    have rest : (∀ w, x ≠ .str w) → wpAny (model X.prog X.w) X.A (call (.type "tuple") us) (EP X pins σ Q) X.xe s := fun ns => cr_tupleN own pins s σ H ws us Q I rv ⟨F, M, S, [x], kq, rr, q, ⟨ns, o⟩, kk⟩
    cases x with
    | str w =>
      obtain ⟨v, rfl, r0⟩ := RepL.one rr
      cases (show v = .str w from r0)
      obtain ⟨o1, o2⟩ := o
      obtain ⟨u, rfl, t, rfl⟩ := vals1 rv
      refine call_tuple_str (I.ok.hd hc) w t (fun h' tk acc kp hacc => ?_) o1
      have hv := vals_chars hacc
      have hz : (w.cps.toList.map fun c => V.str ⟨#[c]⟩).length ≤ sizeLine := by rw [List.length_map]; exact o1
      have I1 : Inv X pins σ H { s with heap := h', toks := tk } := I.kept kp
      have new : (h'.push { cls := .type "tuple", data := .seq acc }).get? h'.objs.size = some { cls := .type "tuple", data := .seq acc } := Heap.get?_push_size _ rfl
      have hn := I1.hok.fresh (Nat.le_refl h'.objs.size)
      cases own with
      | true =>
        have s1 : Same F (upd F h'.objs.size (.tup (w.cps.toList.map fun c => V.str ⟨#[c]⟩))) := Same.new (q.freeF hn)
        exact ⟨.ref h'.objs.size, _, I1.laid (t' := tk) (fun b o e => Heap.get?_push_of_some _ e) (Nat.le_refl _) (show ObjOk X.prog X.w _ _ _ (.tup _) from ⟨hz, acc.toList, hv, ⟨_, new, rfl, _, rfl⟩⟩), rfl,
          kk _ _ _ (.tup _) _ s1 (q.newF hn) ⟨_, _, rfl, upd_same, rep_chars _⟩ (by simpa using o2)⟩
      | false =>
        exact ⟨.ref h'.objs.size, upd H h'.objs.size (.frz { cls := .type "tuple", data := .seq acc } (.tup (w.cps.toList.map fun c => V.str ⟨#[c]⟩))), I1.laid (t' := tk) (fun b o e => Heap.get?_push_of_some _ e) (Nat.le_refl _) ⟨new, hz, acc.toList, hv, ⟨_, new, rfl, _, rfl⟩⟩, rfl,
          newU_ok q (rep_chars _) (by simpa using o2) kk rfl hn⟩
    | _ => exact rest (fun w e => by cases e)
  · cases o
/-! min and max of two texts -/
section
variable {prog : Program} {w : World} {A : Around} {E : Value → Shared → Prop} {s : Shared}
def txV : Value → List Nat
  | .str x _ => x.cps.toList
  | _ => []
theorem cmp_txt (op : CmpOp) (bt : List Nat → List Nat → Bool) {x y : PySem.Str} {t u : Tok}
    (hop : ∀ {s : Shared} {Q : Value → Shared → Prop} {E : Value → Shared → Prop} {x y : PySem.Str} {t u : Tok}, Q (.bool (bt x.cps.toList y.cps.toList)) s → wpAny (model prog w) A (richCompare op (.str x t) (.str y u)) Q E s) :
    CmpOf prog w A op (fun i v => (#[Value.str x t, Value.str y u] : Array Value)[i]? = some v) (fun i j => bt (txV ((#[Value.str x t, Value.str y u] : Array Value).getD i .none)) (txV ((#[Value.str x t, Value.str y u] : Array Value).getD j .none))) := by
  intro i j vi vj s Q E hi hj h
  have e1 : (#[Value.str x t, Value.str y u] : Array Value).getD i .none = vi := by simp [Array.getD_eq_getD_getElem?, hi]
  have e2 : (#[Value.str x t, Value.str y u] : Array Value).getD j .none = vj := by simp [Array.getD_eq_getD_getElem?, hj]
  simp only [e1, e2] at h
  have m1 := Array.mem_of_getElem? hi
  have m2 := Array.mem_of_getElem? hj
  have st : ∀ v, v ∈ (#[Value.str x t, Value.str y u] : Array Value) → ∃ z k, v = Value.str z k := fun v hv => by
    simp at hv
    rcases hv with e | e
    · exact ⟨_, _, e⟩
    · exact ⟨_, _, e⟩
  obtain ⟨z1, k1, rfl⟩ := st vi m1
  obtain ⟨z2, k2, rfl⟩ := st vj m2
  exact hop h
theorem min_two_str {x y : PySem.Str} {t u : Tok} {Q : Value → Shared → Prop} (hh : A.handled = none)
    (h : ∀ h' tk, (∀ c o, s.heap.get? c = some o → h'.get? c = some o) → Q (if y.cps.toList < x.cps.toList then .str y u else .str x t) { s with heap := h', toks := tk }) :
    wpAny (model prog w) A (call (.builtin "min") [.str x t, .str y u]) Q E s := by
  have hT : (s.heap.push { cls := .type "tuple", data := .seq #[.str x t, .str y u] }).IsTuple s.heap.objs.size #[.str x t, .str y u] := ⟨_, Heap.get?_push_size _ rfl, rfl, 0, rfl⟩
  refine call_min_two (wpAny_pyIter_tuple hT ?_)
  have hsz : (s.heap.push { cls := .type "tuple", data := .seq #[.str x t, .str y u] }).objs.size = s.heap.objs.size + 1 := Heap.size_push ..
  refine ⟨_, [_, s.heap.objs.size], [_], _, _, _, _, rfl, Walks.tuple (A := A.in1) hh _ s.heap.objs.size (by rw [hsz]; exact Nat.ne_of_lt (Nat.lt_succ_self _)) #[.str x t, .str y u],
    ⟨⟨_, Heap.get?_push_size _ rfl, rfl, rfl⟩, hT.push _⟩, fun c hc => ?_, by simp, cmp_txt (A := A.in1) .Lt (fun a b => decide (a < b)) (fun hq => PyProof.Rows.lt_str hq), fun v h' tk hP hk => ?_⟩
  · show c < ((s.heap.push _).push _).objs.size
    rw [Heap.size_push, hsz]
    rcases List.mem_cons.mp hc with rfl | hc
    · rw [hsz]; exact Nat.lt_succ_self _
    · rw [List.mem_singleton.mp hc]
      exact Nat.lt_succ_of_lt (Nat.lt_succ_self _)
  · have hold : ∀ c o, s.heap.get? c = some o → h'.get? c = some o := fun c o e => by
      refine hk c o (fun hm => ?_) (Heap.get?_push_of_some _ (Heap.get?_push_of_some _ e))
      have e1 := List.mem_singleton.mp hm
      have := Heap.lt_size e
      rw [e1, hsz] at this
      exact Nat.lt_irrefl _ (Nat.lt_of_succ_lt this)
    have := h h' tk hold
    have hv : v = if y.cps.toList < x.cps.toList then Value.str y u else .str x t := by
      by_cases hc : y.cps.toList < x.cps.toList
      · rw [if_pos hc]
        simp [argBest, txV, hc] at hP
        exact hP.symm
      · rw [if_neg hc]
        simp [argBest, txV, hc] at hP
        exact hP.symm
    rw [hv]
    exact this
theorem max_two_str {x y : PySem.Str} {t u : Tok} {Q : Value → Shared → Prop} (hh : A.handled = none)
    (h : ∀ h' tk, (∀ c o, s.heap.get? c = some o → h'.get? c = some o) → Q (if x.cps.toList < y.cps.toList then .str y u else .str x t) { s with heap := h', toks := tk }) :
    wpAny (model prog w) A (call (.builtin "max") [.str x t, .str y u]) Q E s := by
  have hT : (s.heap.push { cls := .type "tuple", data := .seq #[.str x t, .str y u] }).IsTuple s.heap.objs.size #[.str x t, .str y u] := ⟨_, Heap.get?_push_size _ rfl, rfl, 0, rfl⟩
  refine call_max_two (wpAny_pyIter_tuple hT ?_)
  have hsz : (s.heap.push { cls := .type "tuple", data := .seq #[.str x t, .str y u] }).objs.size = s.heap.objs.size + 1 := Heap.size_push ..
  refine ⟨_, [_, s.heap.objs.size], [_], _, _, _, _, rfl, Walks.tuple (A := A.in1) hh _ s.heap.objs.size (by rw [hsz]; exact Nat.ne_of_lt (Nat.lt_succ_self _)) #[.str x t, .str y u],
    ⟨⟨_, Heap.get?_push_size _ rfl, rfl, rfl⟩, hT.push _⟩, fun c hc => ?_, by simp, cmp_txt (A := A.in1) .Gt (fun a b => decide (b < a)) (fun hq => PySem.P.gt_str hq), fun v h' tk hP hk => ?_⟩
  · show c < ((s.heap.push _).push _).objs.size
    rw [Heap.size_push, hsz]
    rcases List.mem_cons.mp hc with rfl | hc
    · rw [hsz]; exact Nat.lt_succ_self _
    · rw [List.mem_singleton.mp hc]
      exact Nat.lt_succ_of_lt (Nat.lt_succ_self _)
  · have hold : ∀ c o, s.heap.get? c = some o → h'.get? c = some o := fun c o e => by
      refine hk c o (fun hm => ?_) (Heap.get?_push_of_some _ (Heap.get?_push_of_some _ e))
      have e1 := List.mem_singleton.mp hm
      have := Heap.lt_size e
      rw [e1, hsz] at this
      exact Nat.lt_irrefl _ (Nat.lt_of_succ_lt this)
    have := h h' tk hold
    have hv : v = if x.cps.toList < y.cps.toList then Value.str y u else .str x t := by
      by_cases hc : x.cps.toList < y.cps.toList
      · rw [if_pos hc]
        simp [argBest, txV, hc] at hP
        exact hP.symm
      · rw [if_neg hc]
        simp [argBest, txV, hc] at hP
        exact hP.symm
    rw [hv]
    exact this
end
def rMn2 : List V → Hp → VK → Prop := fun xs H Q => (∃ i j : Int, xs = [.int i, .int j] ∧ Q (.int (if j < i then j else i)) H) ∨ ∃ a b : PySem.Str, xs = [.str a, .str b] ∧ Q (.str (if b.cps.toList < a.cps.toList then b else a)) H
def rMx2 : List V → Hp → VK → Prop := fun xs H Q => (∃ i j : Int, xs = [.int i, .int j] ∧ Q (.int (if j > i then j else i)) H) ∨ ∃ a b : PySem.Str, xs = [.str a, .str b] ∧ Q (.str (if a.cps.toList < b.cps.toList then b else a)) H
theorem call_mn2 (hc : X.calm = true) : CallR X (.builtin "min") rMn2 := by
  intro pins s σ H xs us Q I r h
  rcases h with h | ⟨a, b, rfl, q⟩
  · exact call_min2 hc pins s σ H xs us Q I r h
  · obtain ⟨u, w', rfl, ⟨t, rfl⟩, ⟨t', rfl⟩⟩ := vals2 r
    refine min_two_str (I.ok.hd hc) fun h' tk k => ⟨_, H, I.kept k, ?_, q⟩
    by_cases hj : b.cps.toList < a.cps.toList
    · rw [if_pos hj, if_pos hj]; exact ⟨_, rfl⟩
    · rw [if_neg hj, if_neg hj]; exact ⟨_, rfl⟩
theorem call_mx2 (hc : X.calm = true) : CallR X (.builtin "max") rMx2 := by
  intro pins s σ H xs us Q I r h
  rcases h with h | ⟨a, b, rfl, q⟩
  · exact call_max2 hc pins s σ H xs us Q I r h
  · obtain ⟨u, w', rfl, ⟨t, rfl⟩, ⟨t', rfl⟩⟩ := vals2 r
    refine max_two_str (I.ok.hd hc) fun h' tk k => ⟨_, H, I.kept k, ?_, q⟩
    by_cases hj : a.cps.toList < b.cps.toList
    · rw [if_pos hj, if_pos hj]; exact ⟨_, rfl⟩
    · rw [if_neg hj, if_neg hj]; exact ⟨_, rfl⟩
theorem cr_mn (hc : X.calm = true) : CallR X (.builtin "min") (LRs X.K (r2 mnS)) := cr_r2 (call_mn2 hc) fun v u H Q z => by
  obtain ⟨F, M, S, x, y, k, rv, ru, q, o, kk⟩ := z
  unfold mnS at o
  split at o
  · rw [show v = .str _ from rv, show u = .str _ from ru]
    exact .inr ⟨_, _, rfl, kk.go q (show RepV X.K F (.str _) (.str _) from rfl) o⟩
  · rw [show v = .int _ from rv, show u = .int _ from ru]
    exact .inl ⟨_, _, rfl, kk.go q (show RepV X.K F (.int _) (.int _) from rfl) o⟩
  · cases o
theorem cr_mx (hc : X.calm = true) : CallR X (.builtin "max") (LRs X.K (r2 mxS)) := cr_r2 (call_mx2 hc) fun v u H Q z => by
  obtain ⟨F, M, S, x, y, k, rv, ru, q, o, kk⟩ := z
  unfold mxS at o
  split at o
  · rw [show v = .str _ from rv, show u = .str _ from ru]
    exact .inr ⟨_, _, rfl, kk.go q (show RepV X.K F (.str _) (.str _) from rfl) o⟩
  · rw [show v = .int _ from rv, show u = .int _ from ru]
    exact .inl ⟨_, _, rfl, kk.go q (show RepV X.K F (.int _) (.int _) from rfl) o⟩
  · cases o
theorem cr_abs : CallR X (.builtin "abs") (LRs X.K (r1 absS)) := cr_r1 call_abs fun v H Q z => by
  obtain ⟨F, M, S, x, k, rv, q, o, kk⟩ := z
  unfold absS at o
  split at o
  · rw [show v = .int _ from rv]
    exact ⟨_, rfl, kk.go q (show RepV X.K F (.int _) (.int _) from rfl) o⟩
  · cases o
theorem cr_int : CallR X (.type "int") (LRs X.K (r1 intS)) := cr_r1 call_int1 fun v H Q z => by
  obtain ⟨F, M, S, x, k, rv, q, o, kk⟩ := z
  unfold intS at o
  split at o
  · rw [show v = .int _ from rv]
    exact .inl ⟨_, rfl, kk.go q (show RepV X.K F (.int _) (.int _) from rfl) o⟩
  · rw [show v = .bl _ from rv]
    exact .inr ⟨_, rfl, kk.go q (show RepV X.K F (.int _) (.int _) from rfl) o⟩
  · cases o
theorem cr_str : CallR X (.type "str") (LRs X.K (r1 strS)) := cr_r1 call_str_int fun v H Q z => by
  obtain ⟨F, M, S, x, k, rv, q, o, kk⟩ := z
  unfold strS at o
  split at o
  · rename_i i
    rw [show v = .int _ from rv]
    refine ⟨_, rfl, ?_, kk.go q (show RepV X.K F (.str _) (.str _) from rfl) o.2⟩
    have h := o.1
    by_cases h0 : i.natAbs = 0
    · rw [h0]; decide
    · have := (Nat.log2_lt h0).mpr h
      omega
  · cases o
theorem cr_sumS (hc : X.calm = true) : CallR X (.builtin "sum") (LRs X.K (r1 sumS)) := cr_r1 (cr_sum hc) fun v H Q z => by
  obtain ⟨F, M, S, x, k, rv, q, ⟨l, n, o1, o2, o3⟩, kk⟩ := z
  obtain ⟨a, vs, rfl, h1, r1⟩ := items_l q rv o1
  obtain ⟨ns, rfl, e⟩ := rep_ints r1 o2
  exact ⟨a, ns, rfl, h1, kk.go q (show RepV X.K F (.int n) (.int ns.sum) from by rw [e]; rfl) o3⟩
theorem cr_allS (hc : X.calm = true) : CallR X (.builtin "all") (LRs X.K (r1 allS)) := cr_r1 (cr_all hc) fun v H Q z => by
  obtain ⟨F, M, S, x, k, rv, q, ⟨l, bs, o1, o2, o3⟩, kk⟩ := z
  obtain ⟨a, vs, rfl, h1, r1⟩ := items_l q rv o1
  rw [rep_bls r1 o2] at h1
  exact ⟨a, bs, rfl, h1, kk.go q (show RepV X.K F (.bl _) (.bl _) from rfl) o3⟩
theorem cr_anyS (hc : X.calm = true) : CallR X (.builtin "any") (LRs X.K (r1 anyS)) := cr_r1 (cr_any hc) fun v H Q z => by
  obtain ⟨F, M, S, x, k, rv, q, ⟨l, bs, o1, o2, o3⟩, kk⟩ := z
  obtain ⟨a, vs, rfl, h1, r1⟩ := items_l q rv o1
  rw [rep_bls r1 o2] at h1
  exact ⟨a, bs, rfl, h1, kk.go q (show RepV X.K F (.bl _) (.bl _) from rfl) o3⟩
theorem minD_mem : ∀ (dr : List PyData) (d0 : PyData), PySem.W.minD d0 dr ∈ d0 :: dr
  | [], d0 => List.mem_cons_self
  | d :: dr, d0 => by
    show PySem.W.minD (if _ then d else d0) dr ∈ _
    rcases List.mem_cons.mp (minD_mem dr (if PySem.W.dataLt d d0 = true then d else d0)) with e | h
    · unfold PySem.W.minD at e ⊢
      rw [e]
      split
      · exact List.mem_cons_of_mem _ List.mem_cons_self
      · exact List.mem_cons_self
    · exact List.mem_cons_of_mem _ (List.mem_cons_of_mem _ h)
theorem toDs_at : ∀ {l : List SV} {ds : List PyData} {i : Nat} {x : SV}, toDs l = some ds → l[i]? = some x → ∃ d, ds[i]? = some d ∧ toD x = some d
  | [], _, i, x, _, h => by simp at h
  | y :: l, ds, i, x, e, h => by
    have h' : ((toD y).bind fun d => (toDs l).map fun r => d :: r) = some ds := by simpa [toDs] using e
    obtain ⟨d, e1, e2⟩ := Option.bind_eq_some_iff.mp h'
    obtain ⟨r, e3, rfl⟩ := Option.map_eq_some_iff.mp e2
    cases i with
    | zero =>
      cases (show some y = some x from h)
      exact ⟨d, rfl, e1⟩
    | succ i =>
      obtain ⟨d', g1, g2⟩ := toDs_at e3 (by simpa using h)
      exact ⟨d', by simpa using g1, g2⟩
theorem canLay_mem : ∀ {ds : List PyData} {d : PyData}, PyData.canLayAll0 ds = true → d ∈ ds → d.canLay0 = true
  | [], _, _, h => nomatch h
  | x :: ds, d, h, hm => by
    simp only [PyData.canLayAll0, Bool.and_eq_true] at h
    rcases List.mem_cons.mp hm with e | hm
    · rw [e]; exact h.1
    · exact canLay_mem h.2 hm
theorem cr_mnA (hc : X.calm = true) (hu : X.A.units + 64 < cLine) : CallR X (.builtin "min") (LRs X.K mnA) := by
  intro pins s σ H xs us Q I a z
  obtain ⟨F, M, S, ys, k, rr, q, o, kk⟩ := z
  unfold mnA at o
  split at o
  · rename_i x
    obtain ⟨v, rfl, rv⟩ := RepL.one rr
    obtain ⟨l, d0, dr, o1, o2, o3, o4, hdp, o5⟩ := o
    obtain ⟨b, vs, rfl, h1, h2⟩ := items_l q rv o1
    obtain ⟨u, rfl, ru⟩ := vals1 a
    cases ru
    obtain ⟨its, r, pl, hz⟩ := I.list h1
    obtain ⟨as, hr⟩ := Dp.readsAll I (d0 :: dr) vs its (toDs_ok q.f l vs _ h2 o2) r
    have hcl : PyData.canLayAll0 (d0 :: dr) = true := SeqAt.canLay_of_shaped o4
    refine PySem.W.min_list_data (vs := its.toArray) (I.ok.hd hc) pl.isList (by simpa using hr) o3 (by omega) fun i w h' tk bs hw rd hk => ?_
    have hw' : its[i]? = some w := by simpa using hw
    obtain ⟨y, hy, ry⟩ : ∃ y, vs[i]? = some y ∧ RelV y w := by
      have hl := Paired.length r
      obtain ⟨hi, _⟩ := List.getElem?_eq_some_iff.mp hw'
      obtain ⟨y, e⟩ : ∃ y, vs[i]? = some y := ⟨_, List.getElem?_eq_getElem (by omega)⟩
      obtain ⟨w2, e2, r2⟩ := r.get e
      rw [hw'] at e2
      cases e2
      exact ⟨y, e, r2⟩
    obtain ⟨x2, hx2, rx2⟩ : ∃ x2, l[i]? = some x2 ∧ RepV X.K F x2 y := by
      obtain ⟨hi, _⟩ := List.getElem?_eq_some_iff.mp hy
      obtain ⟨x2, e⟩ : ∃ x2, l[i]? = some x2 := ⟨_, List.getElem?_eq_getElem (by rw [h2.length]; exact hi)⟩
      obtain ⟨v2, e2, r2⟩ := RepL.get h2 e
      rw [hy] at e2
      cases e2
      exact ⟨x2, e, r2⟩
    obtain ⟨d, hd, ed⟩ := toDs_at o2 hx2
    have I1 : Inv X pins σ H { s with heap := h', toks := tk } := I.kept (t' := tk) hk
    obtain ⟨cs, rd2⟩ := Dp.reads I1 d y w (toD_ok q.f x2 y d rx2 ed) ry
    have e1 := SeqAt.readOf_eq (canLay_mem hcl (List.mem_of_getElem? hd)) rd2
    have e2 := SeqAt.readOf_eq (canLay_mem hcl (minD_mem dr d0)) rd
    rw [e1] at e2
    exact ⟨y, H, I1, ry, kk.go q rx2 (o5 i x2 hx2 (by rw [ed, e2]))⟩
  · exact cr_mn hc pins s σ H xs us Q I a ⟨F, M, S, _, k, rr, q, o, kk⟩
  · cases o
theorem maxD_mem : ∀ (dr : List PyData) (d0 : PyData), PySem.W.maxD d0 dr ∈ d0 :: dr
  | [], d0 => List.mem_cons_self
  | d :: dr, d0 => by
    show PySem.W.maxD (if _ then d else d0) dr ∈ _
    rcases List.mem_cons.mp (maxD_mem dr (if PySem.W.dataLt d0 d = true then d else d0)) with e | h
    · unfold PySem.W.maxD at e ⊢
      rw [e]
      split
      · exact List.mem_cons_of_mem _ List.mem_cons_self
      · exact List.mem_cons_self
    · exact List.mem_cons_of_mem _ (List.mem_cons_of_mem _ h)
theorem cr_mxA (hc : X.calm = true) (hu : X.A.units + 64 < cLine) : CallR X (.builtin "max") (LRs X.K mxA) := by
  intro pins s σ H xs us Q I a z
  obtain ⟨F, M, S, ys, k, rr, q, o, kk⟩ := z
  unfold mxA at o
  split at o
  · rename_i x
    obtain ⟨v, rfl, rv⟩ := RepL.one rr
    obtain ⟨l, d0, dr, o1, o2, o3, o4, hdp, o5⟩ := o
    obtain ⟨b, vs, rfl, h1, h2⟩ := items_l q rv o1
    obtain ⟨u, rfl, ru⟩ := vals1 a
    cases ru
    obtain ⟨its, r, pl, hz⟩ := I.list h1
    obtain ⟨as, hr⟩ := Dp.readsAll I (d0 :: dr) vs its (toDs_ok q.f l vs _ h2 o2) r
    have hcl : PyData.canLayAll0 (d0 :: dr) = true := SeqAt.canLay_of_shaped o4
    refine PySem.W.max_list_data (vs := its.toArray) (I.ok.hd hc) pl.isList (by simpa using hr) o3 (by omega) fun i w h' tk bs hw rd hk => ?_
    have hw' : its[i]? = some w := by simpa using hw
    obtain ⟨y, hy, ry⟩ : ∃ y, vs[i]? = some y ∧ RelV y w := by
      have hl := Paired.length r
      obtain ⟨hi, _⟩ := List.getElem?_eq_some_iff.mp hw'
      obtain ⟨y, e⟩ : ∃ y, vs[i]? = some y := ⟨_, List.getElem?_eq_getElem (by omega)⟩
      obtain ⟨w2, e2, r2⟩ := r.get e
      rw [hw'] at e2
      cases e2
      exact ⟨y, e, r2⟩
    obtain ⟨x2, hx2, rx2⟩ : ∃ x2, l[i]? = some x2 ∧ RepV X.K F x2 y := by
      obtain ⟨hi, _⟩ := List.getElem?_eq_some_iff.mp hy
      obtain ⟨x2, e⟩ : ∃ x2, l[i]? = some x2 := ⟨_, List.getElem?_eq_getElem (by rw [h2.length]; exact hi)⟩
      obtain ⟨v2, e2, r2⟩ := RepL.get h2 e
      rw [hy] at e2
      cases e2
      exact ⟨x2, e, r2⟩
    obtain ⟨d, hd, ed⟩ := toDs_at o2 hx2
    have I1 : Inv X pins σ H { s with heap := h', toks := tk } := I.kept (t' := tk) hk
    obtain ⟨cs, rd2⟩ := Dp.reads I1 d y w (toD_ok q.f x2 y d rx2 ed) ry
    have e1 := SeqAt.readOf_eq (canLay_mem hcl (List.mem_of_getElem? hd)) rd2
    have e2 := SeqAt.readOf_eq (canLay_mem hcl (maxD_mem dr d0)) rd
    rw [e1] at e2
    exact ⟨y, H, I1, ry, kk.go q rx2 (o5 i x2 hx2 (by rw [ed, e2]))⟩
  · exact cr_mx hc pins s σ H xs us Q I a ⟨F, M, S, _, k, rr, q, o, kk⟩
  · cases o
theorem cr_bi (hc : X.calm = true) (hu : X.A.units + 64 < cLine) (f : Bi) (own : Bool) : CallR X (biV f) (LRs X.K (biS f own)) := by
  cases f with
  | len => exact cr_len
  | list => exact cr_list hc
  | tuple => exact cr_tuple hc _
  | mn => exact cr_mnA hc hu
  | mx => exact cr_mxA hc hu
  | abs => exact cr_abs
  | int => exact cr_int
  | sum => exact cr_sumS hc
  | all => exact cr_allS hc
  | any => exact cr_anyS hc
  | sorted => exact cr_sortedA hc hu
  | str => exact cr_str
  | _ => exact cr_no fun _ _ _ z => z
/-! ### methods of what is built in -/
theorem mtr_r1 {id : String} {r : SV → SV → Sto → SK → Prop} {r' : V → List V → Hp → VK → Prop} (h : MtR X id r') (q : ∀ v u H Q, LR2 X.K r v u H Q → r' v [u] H Q) : MtR X id (LRm X.K fun x => Sy.r1 (r x)) := by
  intro pins s σ H v vs V Vs Q I rv rvs z
  obtain ⟨F, M, S, x, xs, k, r1, rr, s1, o, kk⟩ := z
  unfold Sy.r1 at o
  split at o
  · obtain ⟨u, rfl, ru⟩ := RepL.one rr
    exact h pins s σ H v _ V Vs Q I rv rvs (q v u H Q ⟨F, M, S, x, _, k, r1, ru, s1, o, kk⟩)
  · cases o
theorem mtr_r0 {id : String} {r : SV → Sto → SK → Prop} {r' : V → List V → Hp → VK → Prop} (h : MtR X id r') (q : ∀ v H Q, LR1 X.K r v H Q → r' v [] H Q) : MtR X id (LRm X.K fun x => Sy.r0 (r x)) := by
  intro pins s σ H v vs V Vs Q I rv rvs z
  obtain ⟨F, M, S, x, xs, k, e1, rr, s1, o, kk⟩ := z
  unfold Sy.r0 at o
  split at o
  · cases (show vs = [] from rr)
    exact h pins s σ H v _ V Vs Q I rv rvs (q v H Q ⟨F, M, S, x, k, e1, s1, o, kk⟩)
  · cases o
theorem mt_pop0S : MtR X "list.pop" (LRm X.K fun x => r0 (pop0S x)) := mtr_r0 mt_pop fun v H Q z => by
  obtain ⟨F, M, S, x, k, rv, q, o, kk⟩ := z
  unfold pop0S at o
  split at o
  · obtain ⟨l, y, o1, o2, o3⟩ := o
    obtain ⟨_, w, hw, vs, rfl, hl⟩ := q.s _ _ o1
    obtain ⟨u, u1, u2⟩ := RepL.get hl o2
    rw [hl.length] at u1
    have hd : RepL X.K F l.dropLast vs.dropLast := by
      rw [List.dropLast_eq_take, List.dropLast_eq_take, hl.length]
      exact RepL.take _ hl
    exact ⟨_, vs, u, rv, rfl, hw, u1, kk.go (q.set (o' := .lst l.dropLast) (u := .lst vs.dropLast) o1 ⟨_, rfl, hd⟩) u2 o3⟩
  · cases o
theorem mt_clearS : MtR X "list.clear" (LRm X.K fun x => r0 (clearS x)) := mtr_r0 mt_clear fun v H Q z => by
  obtain ⟨F, M, S, x, k, rv, q, o, kk⟩ := z
  unfold clearS at o
  split at o
  · obtain ⟨l, o1, o3⟩ := o
    obtain ⟨_, w, hw, vs, rfl, hl⟩ := q.s _ _ o1
    exact ⟨_, vs, rv, rfl, hw, kk.go (q.set (o' := .lst []) (u := .lst []) o1 ⟨_, rfl, rfl⟩) (show RepV X.K F .non .non from rfl) o3⟩
  · cases o
theorem mt_insertS : MtR X "list.insert" (LRm X.K fun x => r2 (insertS x)) := by
  intro pins s σ H v vs V Vs Q I rv rvs z
  obtain ⟨F, M, S, x, xs, k, e1, rr, q, o, kk⟩ := z
  unfold Sy.r2 at o
  split at o
  · rename_i a b
    obtain ⟨u1, r1, rfl, ru, t, r2, rfl, ry, rfl⟩ := rr
    unfold insertS at o
    split at o
    · obtain ⟨l, o1, o2, o3, o4, o5⟩ := o
      obtain ⟨_, w, hw, ws, rfl, hl⟩ := q.s _ _ o1
      refine mt_insert pins s σ H v _ V Vs Q I rv rvs ⟨_, ws, _, t, e1, by rw [show u1 = .int _ from ru], hw, by rw [← hl.length]; exact o2, o3, by omega, ?_⟩
      exact kk.go (q.set (o' := .lst _) (u := .lst _) o1 ⟨_, rfl, RepL.append (RepL.append (RepL.take _ hl) (RepL.single ry)) (RepL.drop _ hl)⟩) (show RepV X.K F .non .non from rfl) o5
    · cases o
  · cases o
theorem mt_appendS : MtR X "list.append" (LRm X.K fun x => r1 (appendS x)) := mtr_r1 mt_append fun v u H Q z => by
  obtain ⟨F, M, S, x, y, k, rv, ru, q, o, kk⟩ := z
  unfold appendS at o
  split at o
  · obtain ⟨l, o1, o2, o3⟩ := o
    obtain ⟨_, w, hw, vs, rfl, hl⟩ := q.s _ _ o1
    refine ⟨_, vs, u, rv, rfl, hw, by rw [← hl.length]; exact o2, ?_⟩
    exact kk.go (q.set (o' := .lst (l ++ [y])) (u := .lst (vs ++ [u])) o1 ⟨_, rfl, RepL.append hl (RepL.single ru)⟩) (show RepV X.K F .non .non from rfl) o3
  · cases o
def rExtR : V → List V → Hp → VK → Prop := fun x vs H Q => ∃ l b xs zs, x = .ref l ∧ vs = [.ref b] ∧ H l = some (.lst xs) ∧ Rd H b (.lst zs) ∧ xs.length + zs.length ≤ sizeLine ∧ Q .non (upd H l (.lst (xs ++ zs)))
theorem mt_extR : MtR X "list.extend" rExtR := by
  intro pins s σ H x vs v us Q I rx rv h
  obtain ⟨l, b, xs, zs, rfl, rfl, hH, hB, hz, q⟩ := h
  cases rx
  obtain ⟨u, rfl, ru⟩ := rv.one
  cases ru
  obtain ⟨z, its, n, r, hl, e⟩ := I.lstM hH
  obtain ⟨z2, its2, n2, r2, e2⟩ := hB.ok I.hok
  have hl1 := r.length
  have hl2 := r2.length
  have hsz : its.toArray.size + its2.toArray.size ≤ sizeLine := by rw [List.size_toArray, List.size_toArray]; omega
  have hlong : ¬ (!its.toArray.isEmpty && Builtin.List.listTooLong (its.toArray.size + its2.toArray.size)) = true := by
    rw [notLongL hsz, Bool.and_false]
    exact Bool.false_ne_true
  refine call_meets F.slot_list_extend ⟨_, e, rfl⟩ F.entry_list_extend (F.args_list_extend_2 _ _)
    (AutoSeq1.list_extend_list_list_0 l its.toArray n b its2.toArray n2 hlong (by rw [List.size_toArray]; omega) (by omega)) ⟨e, e2, ?_⟩
  refine ⟨.non, _, I.lset (its' := its ++ its2) hH e (by simp) (r.append r2) ?_, rfl, q⟩
  rw [List.length_append]
  omega
theorem mt_extendS : MtR X "list.extend" (LRm X.K fun x => r1 (extendS x)) := mtr_r1 mt_extR fun v u H Q z => by
  obtain ⟨F, M, S, x, y, k, rv, ru, q, o, kk⟩ := z
  unfold extendS at o
  split at o
  · obtain ⟨l, r, o1, o2, o3, o4⟩ := o
    obtain ⟨_, w, hw, vs, rfl, hl⟩ := q.s _ _ o1
    obtain ⟨b, ws, rfl, h2, hr⟩ := items_rd q ru o2
    refine ⟨_, b, vs, ws, rv, rfl, hw, h2, by rw [← hl.length, ← hr.length]; exact o3, ?_⟩
    exact kk.go (q.set (o' := .lst (l ++ r)) (u := .lst (vs ++ ws)) o1 ⟨_, rfl, RepL.append hl hr⟩) (show RepV X.K F .non .non from rfl) o4
  · cases o
theorem mt_joinS : MtR X "str.join" (LRm X.K fun x => r1 (joinS x)) := mtr_r1 mt_join fun v u H Q z => by
  obtain ⟨F, M, S, x, y, k, rv, ru, q, o, kk⟩ := z
  unfold joinS at o
  split at o
  · obtain ⟨l, ys, o1, o2, o3, o4⟩ := o
    obtain ⟨a, vs, rfl, h1, hr⟩ := seq_lt q ru o1
    rw [rep_strL hr o2] at h1
    exact ⟨_, a, ys, rv, rfl, h1, o3, kk.go q (show RepV X.K F (.str _) (.str _) from rfl) o4⟩
  · cases o
theorem mt_sindexS : MtR X "str.index" (LRm X.K fun x => r1 (sindexS x)) := mtr_r1 mt_sindex fun v u H Q z => by
  obtain ⟨F, M, S, x, y, k, rv, ru, q, o, kk⟩ := z
  obtain ⟨a, b, i, rest, rfl, rfl, o1, o2⟩ := o
  exact ⟨a, b, i, rest, rv, by rw [show u = V.str b from ru], o1, kk.go q (show RepV X.K F (.int _) (.int _) from rfl) o2⟩
theorem rep_of_strs {K : PySem.W.Frag} {F : Hp} : ∀ ys : List PySem.Str, RepL K F (ys.map SV.str) (ys.map V.str)
  | [] => rfl
  | y :: ys => ⟨.str y, ys.map V.str, rfl, rfl, rep_of_strs ys⟩
theorem mt_splitS {own : Bool} : MtR X "str.split" (LRm X.K fun x => r1 (splitS own x)) := mtr_r1 mt_split fun v u H Q z => by
  obtain ⟨F, M, S, x, y, k, rv, ru, q, o, kk⟩ := z
  unfold splitS at o
  split at o
  · obtain ⟨o1, o2, o3⟩ := o
    exact ⟨_, _, rv, by rw [show u = .str _ from ru], o1, o2, fun p hp => newL_ok q (rep_of_strs _) o3 kk hp⟩
  · cases o
theorem RepL.erase {K : PySem.W.Frag} {F : Hp} : ∀ {l : List SV} {vs : List V} (i : Nat), RepL K F l vs → RepL K F (l.eraseIdx i) (vs.eraseIdx i)
  | [], _, i, h => by rw [show _ = ([] : List V) from h, List.eraseIdx_nil, List.eraseIdx_nil]; exact rfl
  | x :: l, _, 0, ⟨v, r, h1, h2, h3⟩ => by rw [h1]; exact h3
  | x :: l, _, i + 1, ⟨v, r, h1, h2, h3⟩ => ⟨v, r.eraseIdx i, by rw [h1]; rfl, h2, RepL.erase i h3⟩
theorem mt_popS : MtR X "list.pop" (LRm X.K fun x => r1 (popS x)) := mtr_r1 mt_popAt fun v u H Q z => by
  obtain ⟨F, M, S, x, y, k, rv, ru, q, o, kk⟩ := z
  unfold popS at o
  split at o
  · obtain ⟨l, j, y, o1, o2, o3, o4, o5, o6⟩ := o
    obtain ⟨_, w, hw, vs, rfl, hl⟩ := q.s _ _ o1
    obtain ⟨z, z1, z2⟩ := RepL.get hl o5
    rw [hl.length] at o4
    refine ⟨_, vs, _, j, z, rv, by rw [show u = .int _ from ru], hw, by omega, by omega, (ixN_seq o4).1, z1, ?_⟩
    exact kk.go (q.set (o' := .lst (l.eraseIdx j)) (u := .lst (vs.eraseIdx j)) o1 ⟨_, rfl, RepL.erase j hl⟩) z2 o6
  · cases o
theorem rep_map_str {K : PySem.W.Frag} {F : Hp} : ∀ {ws : List PySem.Str} {vs : List V}, RepL K F (ws.map SV.str) vs → vs = ws.map V.str
  | [], _, h => h
  | w :: ws, _, ⟨v, r, h1, h2, h3⟩ => by
    rw [h1, rep_map_str h3, show v = .str w from h2]
    rfl
theorem strs_are : ∀ {ws : List PySem.Str} {us : List Value}, Vals (ws.map V.str) us → StrsAre us ws
  | [], us, h => by
    cases h
    exact .nil
  | w :: ws, us, h => by
    cases h with
    | cons a b =>
      obtain ⟨t, rfl⟩ := a
      exact .cons w t (strs_are b)
theorem mt_indexT : MtR X "tuple.index" (fun x vs H Q => ∃ (l : Addr) (ws : List PySem.Str) (a : PySem.Str), x = .ref l ∧ vs = [.str a] ∧ SqT X.K H l (ws.map V.str) ∧ a ∈ ws ∧ Q (.int (ws.idxOf a : Nat)) H) := by
  intro pins s σ H x vs v us Q I rx rv h
  obtain ⟨l, ws, a, rfl, rfl, hs, ha, q⟩ := h
  cases rx
  obtain ⟨u, rfl, t, rfl⟩ := rv.one
  obtain ⟨its, r', pl, hz⟩ := I.tuple hs
  exact PySem.SeqAt.tuple_index_strs (show s.heap.IsTuple l its.toArray from pl) (strs_are r') ha ⟨.int (ws.idxOf a : Nat), H, I.tok _, ⟨_, rfl⟩, q⟩
theorem mt_indexTS : MtR X "tuple.index" (LRm X.K fun x v S k => (∃ l, x = .tuf l) ∧ r1 (indexS x) v S k) := by
  intro pins s σ H v vs V Vs Q I rv rvs z
  obtain ⟨F, M, S, x, xs, k, r1', rr, q, o, kk⟩ := z
  obtain ⟨⟨l, rfl⟩, o⟩ := o
  unfold Sy.r1 at o
  split at o
  · obtain ⟨u, rfl, ru⟩ := RepL.one rr
    obtain ⟨ws, a, o1, rfl, o2, o3⟩ := o
    cases (show some l = some _ from o1)
    obtain ⟨b, vs, rfl, h1, r2⟩ := tuf_t q r1'
    have := rep_map_str r2
    subst this
    exact mt_indexT pins s σ H _ _ V Vs Q I rv rvs ⟨b, ws, a, rfl, by rw [show u = .str a from ru], h1, o2, kk.go q (show RepV X.K F (.int _) (.int _) from rfl) o3⟩
  · cases o
theorem mt_countD (hu : X.A.units + 65 < cLine) : MtR X "list.count" (fun x xs H Q => ∃ (a : Addr) (y : V) (d : PyData) (ds : List PyData), x = V.ref a ∧ xs = [y] ∧ Dp X.K H (V.ref a) (.list ds) ∧ Dp X.K H y d ∧
    SeqAt.shaped (.list ds) = true ∧ SeqAt.shaped d = true ∧ Q (.int (ds.countP fun z => PyData.eqv z d : Nat)) H) := by
  intro pins s σ H x xs v us Q I rx rxs h
  obtain ⟨a, y, d, ds, rfl, rfl, hl, hy, sl, sd, q⟩ := h
  cases rx
  cases rxs with
  | cons ry rt =>
    rename_i uy ut
    cases rt
    obtain ⟨bs, r1⟩ := Dp.reads I d y uy hy ry
    have hxs : PyData.canLayAll0 ds = true := SeqAt.canLay_of_shaped sl
    have hroom : X.A.units + 1 + min (PyData.depthAll ds) d.depth < cLine := room_in_shaped sd hu
    cases hl with
    | lst hs ha =>
      obtain ⟨its, rv, ⟨⟨cls, dd, data, sls⟩, n, ho, hc, hdn, hdt⟩, hlen⟩ := I.list hs
      simp only at hc hdt
      subst hc hdt
      obtain ⟨as, h4⟩ := Dp.readsAll I ds _ its ha rv
      have hmap : its.map (SeqAt.readOf s.heap) = ds := SeqAt.readsAll_map ds its as hxs h4
      refine call_meets PySem.F.slot_list_count ⟨_, ho, rfl⟩ PySem.F.entry_list_count (PySem.F.args_list_count_2 _ _)
        (SeqAt.list_countAt a its.toArray n dd sls uy (fun u => PyData.eqv (SeqAt.readOf s.heap u) d)) ⟨ho, SeqAt.items_eqAt (vs := its.toArray) (show ReadsAll s.heap its.toArray.toList ds as from h4) r1 hxs (SeqAt.canLay_of_shaped sd) hroom, ?_⟩
      have e : its.toArray.toList.countP (fun u => PyData.eqv (SeqAt.readOf s.heap u) d) = ds.countP fun z => PyData.eqv z d := by
        rw [← hmap, List.countP_map]
        rfl
      rw [e]
      exact ⟨.int _, H, I.tok _, ⟨_, rfl⟩, q⟩
theorem lst_dp {K : PySem.W.Frag} {F M H : Hp} {S : Sto} (q : Sim K F M S H) {x : SV} {v : V} {l : List SV} {ds : List PyData} (r : RepV K F x v) (h : items S x = some l) (e : toDs l = some ds) : ∃ a, v = .ref a ∧ Dp K H (.ref a) (.list ds) := by
  obtain ⟨a, vs, rfl, h1, h2⟩ := items_l q r h
  exact ⟨a, rfl, .lst h1 (toDs_ok q.f l vs ds h2 e)⟩
theorem mt_countS (hu : X.A.units + 65 < cLine) : MtR X "list.count" (LRm X.K fun x => r1 (lcountS x)) := mtr_r1 (mt_countD hu) fun v u H Q z => by
  obtain ⟨F, M, S, x, y, k, rv, ru, q, ⟨l, ds, d, o1, o2, o3, o4, o5, o6⟩, kk⟩ := z
  obtain ⟨a, rfl, hd⟩ := lst_dp q rv o1 o2
  exact ⟨a, u, d, ds, rfl, rfl, hd, toD_ok q.f _ _ d ru o3, o4, o5, kk.go q (show RepV X.K F (.int _) (.int _) from rfl) o6⟩
theorem mt_indexLS (hu : X.A.units + 65 < cLine) : MtR X "list.index" (LRm X.K fun x => r1 (lindexS x)) := mtr_r1 (mt_indexD hu) fun v u H Q z => by
  obtain ⟨F, M, S, x, y, k, rv, ru, q, ⟨l, ds, d, j, w, o1, o2, o3, o4, o5, o6, o7, o8, o9⟩, kk⟩ := z
  obtain ⟨a, rfl, hd⟩ := lst_dp q rv o1 o2
  exact ⟨a, u, d, ds, j, w, rfl, rfl, hd, toD_ok q.f _ _ d ru o3, o4, o5, o6, o7, o8, kk.go q (show RepV X.K F (.int _) (.int _) from rfl) o9⟩
theorem mt_removeD (hu : X.A.units + 65 < cLine) : MtR X "list.remove" (fun x xs H Q => ∃ (a : Addr) (y : V) (d : PyData) (ds : List PyData) (vs : List V) (j : Nat) (z : PyData), x = V.ref a ∧ xs = [y] ∧ H a = some (.lst vs) ∧ DpAll X.K H vs ds ∧ Dp X.K H y d ∧
    SeqAt.shaped (.list ds) = true ∧ SeqAt.shaped d = true ∧ ds[j]? = some z ∧ PyData.eqv z d = true ∧ (∀ m z', m < j → ds[m]? = some z' → PyData.eqv z' d = false) ∧ Q .non (upd H a (.lst (vs.eraseIdx j)))) := by
  intro pins s σ H x xs v us Q I rx rxs h
  obtain ⟨a, y, d, ds, vs, j, z, rfl, rfl, hH, hl, hy, sl, sd, hj, hz, hno, q⟩ := h
  cases rx
  cases rxs with
  | cons ry rt =>
    rename_i uy ut
    cases rt
    obtain ⟨bs, r1⟩ := Dp.reads I d y uy hy ry
    have hxs : PyData.canLayAll0 ds = true := SeqAt.canLay_of_shaped sl
    have hroom : X.A.units + 1 + min (PyData.depthAll ds) d.depth < cLine := room_in_shaped sd hu
    obtain ⟨zz, its, n, r, hln, ho⟩ := I.lstM hH
    obtain ⟨as, h4⟩ := Dp.readsAll I ds _ its hl r
    have hmap : its.map (SeqAt.readOf s.heap) = ds := SeqAt.readsAll_map ds its as hxs h4
    have hdl : ds.length = its.length := by rw [← hmap, List.length_map]
    have at_ : ∀ (m : Nat) (hm : m < its.toArray.size), ds[m]? = some (SeqAt.readOf s.heap its.toArray[m]) := fun m hm => by
      rw [← hmap, List.getElem?_map]
      have hm' : m < its.length := by simpa using hm
      rw [List.getElem?_eq_getElem hm']
      simp
    have hjl : j < its.toArray.size := by
      have := (List.getElem?_eq_some_iff.mp hj).1
      rw [List.size_toArray]
      omega
    refine call_meets PySem.F.slot_list_remove ⟨_, ho, rfl⟩ PySem.F.entry_list_remove (PySem.F.args_list_remove_2 _ _)
      (SeqAt.list_removeAt a its.toArray n none #[] uy (fun u => PyData.eqv (SeqAt.readOf s.heap u) d) j hjl ?_ ?_ (by rw [List.size_toArray]; omega)) ⟨ho, SeqAt.items_eqAt (vs := its.toArray) (show ReadsAll s.heap its.toArray.toList ds as from h4) r1 hxs (SeqAt.canLay_of_shaped sd) hroom, ?_⟩
    · have := at_ j hjl
      rw [hj] at this
      cases this
      exact hz
    · intro m hm hmj
      exact hno m _ hmj (at_ m hm)
    · refine ⟨.non, _, I.lset (its' := its.eraseIdx j) (t' := s.toks) hH ho ?_ (r.eraseIdx j) ?_, rfl, q⟩
      · show its.toArray.eraseIdxIfInBounds j = (its.eraseIdx j).toArray
        rw [List.eraseIdxIfInBounds_toArray]
      · exact Nat.le_trans (List.length_eraseIdx_le _ _) zz
theorem mt_removeS (hu : X.A.units + 65 < cLine) : MtR X "list.remove" (LRm X.K fun x => r1 (removeS x)) := mtr_r1 (mt_removeD hu) fun v u H Q z => by
  obtain ⟨F, M, S, x, y, k, rv, ru, q, o, kk⟩ := z
  unfold removeS at o
  split at o
  · obtain ⟨l, ds, d, j, w, o1, o2, o3, o4, o5, o6, o7, o8, o9⟩ := o
    obtain ⟨_, uo, hw, vs, rfl, hl⟩ := q.s _ _ o1
    refine ⟨_, u, d, ds, vs, j, w, rv, rfl, hw, toDs_ok q.f l vs ds hl o2, toD_ok q.f _ _ d ru o3, o4, o5, o6, o7, o8, ?_⟩
    exact kk.go (q.set (o' := .lst (l.eraseIdx j)) (u := .lst (vs.eraseIdx j)) o1 ⟨_, rfl, RepL.erase j hl⟩) (show RepV X.K F .non .non from rfl) o9
  · cases o
end
end Sy

namespace Sy
open PySem PySem.Spec PyProof.Rows L2

/-! ### what is plain of a tree that was looked at -/
def plE : PySem.Expr → Bool
  | .Name _ _ => true
  | .Constant _ _ _ => true
  | .List _ _ => true
  | .Tuple _ _ _ => true
  | .BinOp _ _ _ _ => true
  | .Compare _ _ _ _ => true
  | .BoolOp _ _ _ => true
  | .UnaryOp _ _ _ => true
  | .IfExp _ _ _ _ => true
  | .Subscript _ _ _ => true
  | .Call (.Name f _) _ _ _ => f != "super"
  | .Call _ _ _ _ => true
  | .ListComp _ _ _ _ => true
  | .Attribute _ _ _ => true
  | .Dict _ _ _ => true
  | _ => false
def boE : PySem.Expr → Bool
  | .BoolOp _ _ _ => true
  | .UnaryOp .Not _ _ => true
  | .IfExp _ _ _ _ => true
  | .Compare _ _ _ _ => true
  | _ => false
theorem bi_super (f : Bi) : (biN f != "super") = true := by cases f <;> decide +kernel
theorem pl_star {e : PySem.Expr} (h : plE e = true) (es : List PySem.Expr) (env : Env) : starEach (e :: es) env = (false, eval e env) :: starEach es env := by
  cases e <;> first | rfl | cases h
theorem pl_fold {e : PySem.Expr} (h : plE e = true) (env : Env) (x : Value) : foldedSetIterable e env x = pure x := by
  cases e <;> first | rfl | cases h
theorem pl_mark {e : PySem.Expr} (h : plE e = true) (op : CmpOp) : behindInMarks op e = false := by
  cases e <;> first | rfl | cases h
theorem pl_ix {e : PySem.Expr} (h : plE e = true) : PlainIx e := by
  cases e <;> first | (intro _ _; rfl) | cases h
theorem pl_swap {e : PySem.Expr} (h : plE e = true) (hl : lcE e = false) (t : Option PySem.Expr) (l : Nat) (env : Env) : swapsWith e t l env = pure false := by
  cases e <;> first | rfl | (cases hl; done) | (cases h; done)
theorem pl_tru {e : PySem.Expr} (h : plE e = true) (hb : boE e = false) (env : Env) (whole : Sem Value) : PySem.isTrue e env whole = (do let v ← whole; standAt e.pos; holding [v] (truthy v)) := by
  cases e with
  | UnaryOp op a p => cases op <;> first | rfl | (cases hb; done)
  | _ => first | rfl | (cases hb; done) | (cases h; done)
theorem pl_attr {e : PySem.Expr} (h : plE e = true) (a : PySem.Str) (env : Env) (whole : Sem Value) : attributeBase e a env whole = whole := by
  cases e with
  | Call f es ks p =>
    cases f with
    | Name x q =>
      cases es with
      | nil =>
        cases ks with
        | nil =>
          unfold attributeBase
          have hx : (x != PySem.Str.ofString "super") = true := h
          simp only [hx, Bool.true_or, if_true]
        | cons _ _ => rfl
      | cons _ _ => rfl
    | _ => rfl
  | _ => first | rfl | cases h

theorem lstRE_pl {e : PySem.Expr} {t} (h : lstRE e = some t) : plE e = true := by
  unfold lstRE at h
  split at h
  · rfl
  · cases h
theorem pl_of {N : Ck} {sc : Scope} {m : ME} {e : PySem.Expr} (h : cE N sc m e = true) (hT : ("super" : PySem.Str) ∉ N.T) : plE e = true := by
  unfold cE at h
  split at h <;> first | rfl | (cases h; done) | skip
  all_goals first
    | (simp only [Bool.and_eq_true, decide_eq_true_eq] at h
       first
         | (obtain ⟨⟨⟨rfl, _⟩, h⟩, _⟩ := h
            show (_ != _) = true
            refine bne_iff_ne.mpr fun z => hT ?_
            rw [← z]
            exact h)
         | (obtain ⟨⟨rfl, _⟩, _⟩ := h
            exact bi_super _)
         | (obtain ⟨⟨⟨⟨⟨rfl, _⟩, _⟩, _⟩, _⟩, _⟩ := h
            show (_ != _) = true
            first | decide +kernel | (split <;> decide +kernel))
         | (obtain ⟨⟨⟨⟨rfl, _⟩, _⟩, _⟩, _⟩ := h
            show (_ != _) = true
            first | decide +kernel | (split <;> decide +kernel))
         | (obtain ⟨⟨rfl, _⟩, _⟩ := h
            show (_ != _) = true
            first | decide +kernel | (split <;> decide +kernel))
         | (obtain ⟨⟨⟨⟨rfl, _⟩, h⟩, _⟩, _⟩ := h
            exact h))
    | (split at h
       · rename_i hc
         exact lstRE_pl hc
       · cases h)
end Sy

namespace Sy
open PySem PySem.Spec PyProof.Rows L2

/-! ### enumerate of a list or a tuple -/
theorem enum_new {v : Value} {o : Obj} {Hq : Heap → Prop} (B : Begins v o Hq) :
    Meets (Builtin.«enumerate.__new__» ⟨[.type "enumerate", v], []⟩) (fun _ R s => Hq s.heap ∧
      R (.ok (.ret (.ref (s.heap.push o).objs.size))) { s with heap := (s.heap.push o).push { cls := .type "enumerate", data := .fields #[.none, .bool false, .ref s.heap.objs.size, rawInt 0, .none, .none] } }) :=
  .of_wp fun prog w A R s z => by
    obtain ⟨hp, gs, dr, tk, os⟩ := s
    obtain ⟨z1, z2⟩ := z
    have hsub := sub_enumerate
    have it : ∀ {A' : Around} {E : Value → Shared → Prop} {Q : Value → Shared → Prop}, Q (.ref hp.objs.size) ⟨hp.push o, gs, dr, tk, os⟩ → wpAny (model prog w) A' (pyIter v) Q E ⟨hp, gs, dr, tk, os⟩ := fun q => B.iter prog w _ _ ⟨hp, gs, dr, tk, os⟩ _ z1 q
    wp_walk using it
    refine wpAny_stack_any fun _ => wpAny_pure ?_
    split
    · rename_i c _ _ _ _ _
      cases (c == Value.type "enumerate") <;> (wp_walk using it; exact ⟨_, rfl, z2⟩)
    · wp_walk using it
      exact ⟨_, rfl, z2⟩
theorem enum_call {prog : Program} {w : World} {A : Around} {E : Value → Shared → Prop} {s : Shared} {v : Value} {o : Obj} {Hq : Heap → Prop} {Q : Value → Shared → Prop} (B : Begins v o Hq) (h1 : Hq s.heap)
    (h : ∀ h', IsEnum h' (s.heap.objs.size + 1) s.heap.objs.size 0 .none → h'.get? s.heap.objs.size = some o → (∀ b u, s.heap.get? b = some u → h'.get? b = some u) → Q (.ref (s.heap.objs.size + 1)) { s with heap := h' }) :
    wpAny (model prog w) A (call (.type "enumerate") [v]) Q E s := by
  refine callType_new F.called_enumerate (by decide) (F.typeCall_enumerate_1 _) (F.newCall_enumerate_1 _) (fun obj => F.args_object_init_2 obj _) F.entry_enumerate_new (enum_new B) ⟨h1, ?_⟩
  have sz : (s.heap.push o).objs.size = s.heap.objs.size + 1 := Heap.size_push ..
  show _ ∧ _
  rw [sz]
  have en : IsEnum ((s.heap.push o).push { cls := .type "enumerate", data := .fields #[.none, .bool false, .ref s.heap.objs.size, rawInt 0, .none, .none] }) (s.heap.objs.size + 1) s.heap.objs.size 0 .none := by
    have e := Heap.get?_push_size (s.heap.push o) (o := { cls := .type "enumerate", data := .fields #[.none, .bool false, .ref s.heap.objs.size, rawInt 0, .none, .none] }) rfl
    rw [sz] at e
    exact e
  exact ⟨⟨_, en, rfl⟩, h _ en (Heap.get?_push_of_some _ (Heap.get?_push_size _ B.free)) fun b u x => Heap.get?_push_of_some _ (Heap.get?_push_of_some _ x)⟩
/-- (0, x), (1, y), .. of the tuple at a -/
def ItT (K : PySem.W.Frag) (a : Addr) : It :=
  ⟨fun i H => ∃ (xs : List V) (x : V), SqT K H a xs ∧ xs[i]? = some x, fun i H v H' => ∃ T x, v = .ref T ∧ H T = none ∧ H' = upd H T (.tup [.int (i : Nat), x]) ∧ ∀ xs, SqT K H a xs → xs[i]? = some x, fun i H => ∃ xs : List V, SqT K H a xs ∧ xs.length = i⟩
theorem turn_enT {P : Program} {w : World} {K : PySem.W.Frag} {es : List PySem.Expr} {kk : Nat} {tpos : Pos} (a e it : Addr) :
    Turn P w K (.Tuple es kk tpos) (ItT K a) [e, it] e (fun i h => (∃ old, IsEnum h e it ((i : Nat) : Int) old) ∧ h.IsTupleIter it a i ∧ e ≠ it ∧ a ≠ it ∧ e ≠ a) where
  mem := by simp
  obj := fun i h st b hb => by
    obtain ⟨⟨old, he⟩, ⟨o, ho, hc, hd⟩, _⟩ := st
    rcases (show b = e ∨ b = it by simpa using hb) with z | z
    · rw [z]; exact ⟨_, he, fun v q => nomatch q⟩
    · rw [z]; exact ⟨o, ho, fun v q => by rw [hd] at q; cases q⟩
  keep := fun i h h' st kp => by
    obtain ⟨⟨old, he⟩, hi, ne⟩ := st
    exact ⟨⟨old, kp e (by simp) _ he⟩, hi.at fun o q => kp it (by simp) o q, ne⟩
  item := by
    intro X hP hw hK hc i pins s σ H E I hf st hg
    subst hP hw hK
    obtain ⟨⟨old, he⟩, hit, n1, n2, n3⟩ := st
    obtain ⟨xs, x, hq, hx⟩ := hg
    obtain ⟨its, rv, p, hz⟩ := I.tuple hq
    obtain ⟨u, hu, ru⟩ := rv.get hx
    have lte : e < s.heap.objs.size := Heap.lt_size he
    have lti : it < s.heap.objs.size := by
      obtain ⟨_, q, _⟩ := hit
      exact Heap.lt_size q
    have pT : s.heap.IsTuple a its.toArray := p
    refine wpAny_pyNext_enum_itemD (Draws.tuple (A := X.A.in1) (I.ok.hd hc) it a n2 its.toArray) he ⟨hit, pT⟩ (by have := (List.getElem?_eq_some_iff.mp hu).1; simpa using this) n1 (by simp; exact ⟨n1, n3⟩) fun y h' tk hy ho hst' hT hsz kp => ?_
    have ey : y = u := by
      have hy' : its[i]? = some y := by simpa using hy
      rw [hu] at hy'
      exact (Option.some.inj hy').symm
    subst ey
    refine ⟨_, rfl, wpAny_letOwnedTupleGo_enum (s := { s with heap := h', toks := tk + 1 }) ho fun h2 he2 sb => ?_⟩
    have hT2 : h2.get? s.heap.objs.size = some { cls := .type "tuple", data := .seq #[.int i tk, y] } := (sb.2 _ (Nat.ne_of_gt lte)).trans hT
    have laid : ObjOk X.prog X.w (upd H s.heap.objs.size (.tup [.int (i : Nat), x])) h2 s.heap.objs.size (.tup [.int (i : Nat), x]) := ⟨by show 2 ≤ sizeLine; decide, [.int i tk, y], .cons ⟨_, rfl⟩ (.cons ru .nil), ⟨_, hT2, rfl, _, rfl⟩⟩
    have J : Inv X pins σ (upd H s.heap.objs.size (.tup [.int (i : Nat), x])) { s with heap := h2, toks := tk + 1 } :=
      I.turnedNew (ch := [e, it]) (fun b ob hb q => (sb.2 b (fun z => hb (by simp [z]))).trans (kp b ob (fun z => hb (by simp [z])) (fun z => hb (by simp [z])) q)) hf (Nat.le_refl _) laid
    refine ⟨.ref s.heap.objs.size, _, J, rfl, ⟨_, x, rfl, I.hok.fresh (Nat.le_refl _), rfl, fun ys hy => by rw [I.tuple_inj hy hq]; exact hx⟩, ⟨⟨y, ?_⟩, hst'.1.at fun o q => (sb.2 it (Ne.symm n1)).trans q, n1, n2, n3⟩, fun b hb => ?_⟩
    · rw [show ((i + 1 : Nat) : Int) = (i : Int) + 1 by omega]
      exact he2
    · have hb' : b < s.heap.objs.size := by
        rcases (show b = e ∨ b = it by simpa using hb) with z | z
        · rw [z]; exact lte
        · rw [z]; exact lti
      rw [upd_ne (Nat.ne_of_lt hb')]
      exact (hf b hb).1
  done := by
    intro X hP hw hK hc i pins s σ H E I hf st hg
    subst hP hw hK
    obtain ⟨⟨old, he⟩, hit, n1, n2, n3⟩ := st
    obtain ⟨xs, hq, hx⟩ := hg
    obtain ⟨its, rv, p, hz⟩ := I.tuple hq
    obtain ⟨f0, f1, f2, f3, f4, f5⟩ := hf it (by simp)
    have hl := rv.length
    have pT : s.heap.IsTuple a its.toArray := p
    have ei : i = its.toArray.size := by rw [List.size_toArray, ← hl, hx]
    subst ei
    exact wpAny_pyNext_enum_endD (Draws.tuple (A := X.A.in1) (I.ok.hd hc) it a n2 its.toArray) he ⟨hit, pT⟩ fun h' eb => ⟨rfl, I.turned (t' := s.toks) (fun b o hb q => eb b o hb q) f0 f1 f3 f4 f5⟩
  self := fun A i s Q E st h => by
    obtain ⟨⟨_, he⟩, _⟩ := st
    exact wpAny_pyIter_enum he h

/-- enumerate(e), e a list or a tuple -/
def iEnA (K : PySem.W.Frag) (ta : TA) : TI := fun σ H R => ta σ H fun vs H1 => ∃ a xs, vs = [.ref a] ∧ ((SqL K H1 a xs ∧ R (Ite K a) H1) ∨ (SqT K H1 a xs ∧ R (ItT K a) H1))
theorem pi_enA {X : Cx} {e : PySem.Expr} {ta : TA} {p pos tpos : Pos} {es : List PySem.Expr} {kk : Nat} (hg : Gl X "enumerate") (hm : X.mg "enumerate" = none) (ha : PA X [e] ta) (hs : starEach [e] X.env = [(false, eval e X.env)]) :
    PI X (.Tuple es kk tpos) (.Call (.Name "enumerate" p) [e] [] pos) (iEnA X.K ta) := by
  refine ⟨fun pins s σ H R I z => ?_⟩
  refine Call_ (ld_blt I hg hm boot_enumerate (PyProof.Rows.callWith_type1 (thn (ha.run pos pins s σ H _ I z) fun us t ⟨vs, H1, J, r1, q1⟩ => ?_) hs rfl))
  obtain ⟨a, xs, rfl, q1⟩ := q1
  obtain ⟨u, rfl, ru⟩ := vals1 r1
  obtain rfl : u = Value.ref a := ru
  have two : ∀ b : Addr, b ∈ [t.heap.objs.size + 1, t.heap.objs.size] → FpOk X pins H1 b := fun b hb => by
    have hle : t.heap.objs.size ≤ b := by
      rcases (show b = t.heap.objs.size + 1 ∨ b = t.heap.objs.size by simpa using hb) with z | z
      · rw [z]; exact Nat.le_succ _
      · rw [z]; exact Nat.le_refl _
    exact J.fpOk hle (J.hok.fresh hle)
  rcases q1 with ⟨hq, q⟩ | ⟨hq, q⟩
  · obtain ⟨its, rv, p', hz⟩ := J.list hq
    refine call_enumerate_list p'.isList fun h' he hit hsz hk => wpAny_pyIter_enum he ?_
    exact ⟨t.heap.objs.size + 1, [t.heap.objs.size + 1, t.heap.objs.size], _, _, H1, rfl, J.kept (t' := t.toks) hk, turn_enum a (t.heap.objs.size + 1) t.heap.objs.size, ⟨⟨.none, he⟩, hit, Nat.succ_ne_self _⟩, two, q⟩
  · obtain ⟨its, rv, p', hz⟩ := J.tuple hq
    have pT : t.heap.IsTuple a its.toArray := p'
    have la : a < t.heap.objs.size := p'.lt
    refine enum_call (begins_tuple a its.toArray) pT fun h' he ho hk => wpAny_pyIter_enum he ?_
    exact ⟨t.heap.objs.size + 1, [t.heap.objs.size + 1, t.heap.objs.size], _, _, H1, rfl, J.kept (t' := t.toks) hk, turn_enT a (t.heap.objs.size + 1) t.heap.objs.size, ⟨⟨.none, he⟩, ⟨_, ho, rfl, rfl⟩, Nat.succ_ne_self _, Nat.ne_of_lt la, Ne.symm (Nat.ne_of_lt (Nat.lt_succ_of_lt la))⟩, two, q⟩
/-- a list or a tuple, walked -/
def iSeq (K : PySem.W.Frag) (tl : TE) : TI := fun σ H R => tl σ H fun x H1 => (∃ w, x = .str w ∧ R (Its w) H1) ∨ ∃ a xs, x = .ref a ∧ ((SqL K H1 a xs ∧ R (Itl K a) H1) ∨ (SqT K H1 a xs ∧ R (Itt K a) H1))
theorem pi_seq {X : Cx} {tg e : PySem.Expr} {tl : TE} (he : PE X e tl) : PI X tg e (iSeq X.K tl) := by
  refine ⟨fun pins s σ H R I z => ?_⟩
  refine thn (he.run pins s σ H _ I z) fun v t ⟨x, H1, J, r1, q1⟩ => ?_
  rcases q1 with ⟨y, rfl, q⟩ | ⟨a, xs, rfl, q1⟩
  · obtain ⟨k, rfl⟩ := r1
    cases ha : y.cps.all (· < 128)
    · exact wpAny_pyIter_wide ha (pi_one (tk := t.toks) J _ (turn_str _ y k "str_iterator" (.inr rfl)) ⟨_, Heap.get?_push_size _ rfl, rfl, rfl⟩ q)
    · exact wpAny_pyIter_ascii ha (pi_one (tk := t.toks) J _ (turn_str _ y k "str_ascii_iterator" (.inl rfl)) ⟨_, Heap.get?_push_size _ rfl, rfl, rfl⟩ q)
  obtain rfl : v = Value.ref a := r1
  have fr : ∀ b : Addr, b ∈ [t.heap.objs.size] → FpOk X pins H1 b := fun b hb => by
    obtain rfl : b = t.heap.objs.size := by simpa using hb
    exact J.fpOk (Nat.le_refl _) (J.hok.fresh (Nat.le_refl _))
  rcases q1 with ⟨hq, q⟩ | ⟨hq, q⟩
  · obtain ⟨its, rv, p, hz⟩ := J.list hq
    refine wpAny_pyIter_list p.isList ?_
    exact ⟨t.heap.objs.size, [t.heap.objs.size], _, _, H1, rfl, J.kept (t' := t.toks) fun b o e => Heap.get?_push_of_some _ e, turn_list a _, ⟨_, Heap.get?_push_size _ rfl, rfl, rfl⟩, fr, q⟩
  · obtain ⟨its, rv, p, hz⟩ := J.tuple hq
    refine wpAny_pyIter_tuple (show t.heap.IsTuple a its.toArray from p) ?_
    exact ⟨t.heap.objs.size, [t.heap.objs.size], _, _, H1, rfl, J.kept (t' := t.toks) fun b o e => Heap.get?_push_of_some _ e, turn_tuple a _, ⟨_, Heap.get?_push_size _ rfl, rfl, rfl⟩, fr, q⟩
end Sy

/-! a class of refusals with its own __init__, which calls that of its base -/
namespace Sy
open PySem PySem.Spec PyProof.Rows L2
/-- what the kept text says of the base that is named -/
structure BaseC (K : PySem.W.Frag) (B : Addr) : Prop where
  sp : PySem.W.specialIn K (.ref B) "__getattribute__" = some (some (.builtin "type.__getattribute__"))
  rd : PySem.W.readsIn K B (.type "type") = true
  ini : PySem.W.findCls K (.ref B) (.type "type") "__init__" = some (.val (.builtin "ValueError.__init__"))
section
variable {X : Cx} {o e : Expr} {es : List Expr} {to te : TE} {ta : TA} {f : PySem.Str} {p p' p1 p2 pos : Pos}
end
/-- C's own __init__(self, x): the field keeps x -/
def spInit (K : PySem.W.Frag) (C : Addr) (fld : PySem.Str) (ok : V → Prop) : Sp := fun vs H Q _ => ∃ (a : Addr) (x : V), vs = [.ref a, x] ∧ ok x ∧ OexC K C ∧ PySem.W.findIn K (.ref C) fld = some none ∧ H a = some (exo a C none) ∧
  ∀ d, H d = none → d ≠ a → Q .non (upd (upd H d (exd d [(fld, x)])) a (exo a C (some d)))
def okRow : V → Prop := fun x => ∃ i : Int, x = .int i ∧ 0 ≤ i ∧ i ≤ 5000
def okWord : V → Prop := fun x => ∃ w : PySem.Str, x = .str w ∧ w.length ≤ 1000
def okV (c : PySem.Str) : V → Prop := if c = "NoName" then okWord else okRow
section
variable {P : Program} {w : World} {K : PySem.W.Frag} {mg : PySem.Str → Option Value} {base : Heap}
end
end Sy

namespace Sy
open PySem PySem.Spec PyProof.Rows L2

/-! ### what is walked, by its items -/
def ItOk (K : PySem.W.Frag) (F : Hp) (J : It) (l : List SV) : Prop := ∀ F' M S H, Same F F' → Sim K F' M S H → (∀ i, i < l.length → J.go i H) ∧ J.stop l.length H ∧
  ∀ i x, l[i]? = some x → ∀ v H', J.yld i H v H' → ∃ F2, Same F' F2 ∧ Sim K F2 M S H' ∧ RepV K F2 x v
def LI (K : PySem.W.Frag) (t : Ro → Sto → (List SV → Sto → Prop) → Prop) : TI := fun σ H R => ∃ F M S ρ k, RepR K F ρ σ ∧ Sim K F M S H ∧ t ρ S k ∧ ∀ F' S' H' l J, Same F F' → Sim K F' M S' H' → ItOk K F' J l → k l S' → R J H'
theorem PI.imp {X : Cx} {tg e : PySem.Expr} {t t' : TI} (h : PI X tg e t) (q : ∀ σ H R, t' σ H R → t σ H R) : PI X tg e t' := ⟨fun pins s σ H R I z => h.run pins s σ H R I (q σ H R z)⟩
section
variable {K : PySem.W.Frag} {F F' M H : Hp} {S : Sto}
theorem ItOk.list {a : Addr} {vs : List V} {l : List SV} (h : Rd F a (.lst vs)) (r : RepL K F l vs) : ItOk K F (Itl K a) l := fun F' M S H e q => by
  have hq : SqL K H a vs := .inl (Same.rd (e.trans q.f) h)
  have hl := r.length
  refine ⟨fun i hi => ⟨vs, vs[i]'(by omega), hq, by simp [show i < vs.length by omega]⟩, ⟨vs, hq, by omega⟩, fun i x hx v H' y => ?_⟩
  obtain ⟨rfl, y⟩ := y
  obtain ⟨w, w1, w2⟩ := RepL.get r hx
  have e2 := y vs hq
  rw [w1] at e2
  cases e2
  exact ⟨F', Same.rfl', q, RepV.mono e _ _ w2⟩
theorem ItOk.tup {a : Addr} {vs : List V} {l : List SV} (h : SqT K F a vs) (r : RepL K F l vs) : ItOk K F (Itt K a) l := fun F' M S H e q => by
  have hq : SqT K H a vs := Same.sqT (e.trans q.f) h
  have hl := r.length
  refine ⟨fun i hi => ⟨vs, vs[i]'(by omega), hq, by simp [show i < vs.length by omega]⟩, ⟨vs, hq, by omega⟩, fun i x hx v H' y => ?_⟩
  obtain ⟨rfl, y⟩ := y
  obtain ⟨w, w1, w2⟩ := RepL.get r hx
  have e2 := y vs hq
  rw [w1] at e2
  cases e2
  exact ⟨F', Same.rfl', q, RepV.mono e _ _ w2⟩
theorem rngL_get {lo : Int} {n i : Nat} {x : SV} (h : (rngL lo n)[i]? = some x) : i < n ∧ x = .int (lo + (i : Int)) := by
  unfold rngL at h
  rw [List.getElem?_map] at h
  obtain ⟨j, h1, h2⟩ := Option.map_eq_some_iff.mp h
  obtain ⟨hi, e⟩ := List.getElem?_eq_some_iff.mp h1
  rw [List.length_range] at hi
  rw [List.getElem_range] at e
  exact ⟨hi, by rw [← h2, ← e]⟩
theorem rngL_len {lo : Int} {n : Nat} : (rngL lo n).length = n := by
  unfold rngL
  rw [List.length_map, List.length_range]
theorem ItOk.str {w : PySem.Str} : ItOk K F (Its w) (w.cps.toList.map fun c => SV.str ⟨#[c]⟩) := fun F' M S H e q => by
  refine ⟨fun i hi => ?_, ?_, fun i x hx v H' y => ?_⟩
  · rw [List.length_map, Array.length_toList] at hi
    exact hi
  · show w.cps.size ≤ _
    rw [List.length_map, Array.length_toList]
    exact Nat.le_refl _
  · obtain ⟨rfl, c, hc, rfl⟩ := y
    rw [List.getElem?_map, Array.getElem?_toList, hc] at hx
    cases hx
    exact ⟨F', Same.rfl', q, rfl⟩
theorem ItOk.rng {lo : Int} {n : Nat} : ItOk K F (Itr lo n) (rngL lo n) := fun F' M S H e q => by
  refine ⟨fun i hi => by rw [rngL_len] at hi; exact hi, by rw [rngL_len]; exact Nat.le_refl _, fun i x hx v H' y => ?_⟩
  obtain ⟨rfl, rfl⟩ := y
  obtain ⟨_, rfl⟩ := rngL_get hx
  exact ⟨F', Same.rfl', q, rfl⟩
theorem enumL_len : ∀ (l : List SV) (i : Nat), (enumL l i).length = l.length
  | [], _ => rfl
  | x :: l, i => by
    show (enumL l (i + 1)).length + 1 = l.length + 1
    rw [enumL_len l (i + 1)]
theorem enumL_get : ∀ {l : List SV} {j i : Nat} {x : SV}, (enumL l j)[i]? = some x → ∃ y, l[i]? = some y ∧ x = .tup [.int ((j + i : Nat) : Int), y]
  | [], _, _, _, h => by simp [enumL] at h
  | y :: l, j, 0, x, h => by
    have e : SV.tup [.int (j : Int), y] = x := by simpa [enumL] using h
    exact ⟨y, rfl, e.symm⟩
  | y :: l, j, i + 1, x, h => by
    obtain ⟨z, h1, h2⟩ := enumL_get (l := l) (j := j + 1) (i := i) (by simpa [enumL] using h)
    exact ⟨z, by simpa using h1, by rw [h2, show j + 1 + i = j + (i + 1) by omega]⟩
/-- a new pair -/
theorem pair_ok {x y : SV} {v u : V} {T : Addr} (q : Sim K F M S H) (hT : H T = none) (rv : RepV K F x v) (ru : RepV K F y u) : ∃ F2, Same F F2 ∧ Sim K F2 M S (upd H T (.tup [v, u])) ∧ RepV K F2 (.tup [x, y]) (.ref T) := by
  have s1 : Same F (upd F T (.tup [v, u])) := Same.new (q.freeF hT)
  exact ⟨_, s1, q.newF hT, T, [v, u], rfl, upd_same, v, [u], rfl, RepV.mono s1 _ _ rv, u, [], rfl, RepV.mono s1 _ _ ru, rfl⟩
theorem ItOk.enumL {a : Addr} {vs : List V} {l : List SV} (h : Rd F a (.lst vs)) (r : RepL K F l vs) : ItOk K F (Ite K a) (Sy.enumL l 0) := fun F' M S H e q => by
  have hq : SqL K H a vs := .inl (Same.rd (e.trans q.f) h)
  have hl := r.length
  have hn := enumL_len l 0
  refine ⟨fun i hi => ⟨vs, vs[i]'(by omega), hq, by simp [show i < vs.length by omega]⟩, ⟨vs, hq, by omega⟩, fun i x hx v H' y => ?_⟩
  obtain ⟨T, z, rfl, hT, rfl, hz⟩ := y
  obtain ⟨y, y1, rfl⟩ := enumL_get hx
  obtain ⟨w, w1, w2⟩ := RepL.get r y1
  have e2 := hz vs hq
  rw [w1] at e2
  cases e2
  rw [Nat.zero_add]
  exact pair_ok q hT (show RepV K F' (.int (i : Int)) (.int (i : Int)) from rfl) (RepV.mono e _ _ w2)
theorem ItOk.enumT {a : Addr} {vs : List V} {l : List SV} (h : SqT K F a vs) (r : RepL K F l vs) : ItOk K F (ItT K a) (Sy.enumL l 0) := fun F' M S H e q => by
  have hq : SqT K H a vs := Same.sqT (e.trans q.f) h
  have hl := r.length
  have hn := enumL_len l 0
  refine ⟨fun i hi => ⟨vs, vs[i]'(by omega), hq, by simp [show i < vs.length by omega]⟩, ⟨vs, hq, by omega⟩, fun i x hx v H' y => ?_⟩
  obtain ⟨T, z, rfl, hT, rfl, hz⟩ := y
  obtain ⟨y, y1, rfl⟩ := enumL_get hx
  obtain ⟨w, w1, w2⟩ := RepL.get r y1
  have e2 := hz vs hq
  rw [w1] at e2
  cases e2
  rw [Nat.zero_add]
  exact pair_ok q hT (show RepV K F' (.int (i : Int)) (.int (i : Int)) from rfl) (RepV.mono e _ _ w2)
theorem zipL_len : ∀ (l m : List SV), (zipL l m).length = min l.length m.length
  | [], _ => by simp [zipL]
  | _ :: _, [] => by simp [zipL]
  | x :: l, y :: m => by
    have h := zipL_len l m
    simp [zipL, h] <;> omega
theorem zipL_get : ∀ {l m : List SV} {i : Nat} {x : SV}, (zipL l m)[i]? = some x → ∃ y z, l[i]? = some y ∧ m[i]? = some z ∧ x = .tup [y, z]
  | [], _, _, _, h => by simp [zipL] at h
  | _ :: _, [], _, _, h => by simp [zipL] at h
  | y :: l, z :: m, 0, x, h => ⟨y, z, rfl, rfl, (show SV.tup [y, z] = x by simpa [zipL] using h).symm⟩
  | y :: l, z :: m, i + 1, x, h => by
    obtain ⟨a, b, h1, h2, h3⟩ := zipL_get (l := l) (m := m) (i := i) (by simpa [zipL] using h)
    exact ⟨a, b, by simpa using h1, by simpa using h2, h3⟩
theorem ItOk.zipL {a b : Addr} {vs ws : List V} {l m : List SV} (h : Rd F a (.lst vs)) (r : RepL K F l vs) (h' : Rd F b (.lst ws)) (r' : RepL K F m ws) : ItOk K F (Itz K a b) (Sy.zipL l m) := fun F' M S H e q => by
  have hq : SqL K H a vs := .inl (Same.rd (e.trans q.f) h)
  have hq' : SqL K H b ws := .inl (Same.rd (e.trans q.f) h')
  have hl := r.length
  have hl' := r'.length
  have hn := zipL_len l m
  refine ⟨fun i hi => ⟨vs, ws, vs[i]'(by omega), ws[i]'(by omega), hq, hq', by simp [show i < vs.length by omega], by simp [show i < ws.length by omega]⟩, ⟨vs, ws, hq, hq', by omega⟩, fun i x hx v H' y => ?_⟩
  obtain ⟨T, z1, z2, rfl, hT, rfl, hz1, hz2⟩ := y
  obtain ⟨y1, y2, e1, e2, rfl⟩ := zipL_get hx
  obtain ⟨w1, a1, b1⟩ := RepL.get r e1
  obtain ⟨w2, a2, b2⟩ := RepL.get r' e2
  have f1 := hz1 vs hq
  have f2 := hz2 ws hq'
  rw [a1] at f1
  rw [a2] at f2
  cases f1
  cases f2
  exact pair_ok q hT (RepV.mono e _ _ b1) (RepV.mono e _ _ b2)
theorem ItOk.zipT {a b : Addr} {vs ws : List V} {l m : List SV} (h : SqT K F a vs) (r : RepL K F l vs) (h' : SqT K F b ws) (r' : RepL K F m ws) : ItOk K F (RZ.ItzT K a b) (Sy.zipL l m) := fun F' M S H e q => by
  have hq : SqT K H a vs := Same.sqT (e.trans q.f) h
  have hq' : SqT K H b ws := Same.sqT (e.trans q.f) h'
  have hl := r.length
  have hl' := r'.length
  have hn := zipL_len l m
  refine ⟨fun i hi => ⟨vs, ws, vs[i]'(by omega), ws[i]'(by omega), hq, hq', by simp [show i < vs.length by omega], by simp [show i < ws.length by omega]⟩, ⟨vs, ws, hq, hq', by omega⟩, fun i x hx v H' y => ?_⟩
  obtain ⟨T, z1, z2, rfl, hT, rfl, hz1, hz2⟩ := y
  obtain ⟨y1, y2, e1, e2, rfl⟩ := zipL_get hx
  obtain ⟨w1, a1, b1⟩ := RepL.get r e1
  obtain ⟨w2, a2, b2⟩ := RepL.get r' e2
  have f1 := hz1 vs hq
  have f2 := hz2 ws hq'
  rw [a1] at f1
  rw [a2] at f2
  cases f1
  cases f2
  exact pair_ok q hT (RepV.mono e _ _ b1) (RepV.mono e _ _ b2)
end

/-! ### the looked-at trees keep what they say -/
structure Good (C : Cal) (g : PySem.Str → Option SV) (k : Nat) (N : Ck) (sc rs : Scope) (X : Cx) : Prop where
  calm : X.calm = true
  nN : X.N = N.N
  nd : N.N.Nodup
  sc : X.env.scope = sc
  st : ∀ x, (rs.names.lookup x = some .local ∨ rs.names.lookup x = some .cell) → L2.Loc X.env.scope x ∧ (X.fn x = true ∨ X.env.scope.names.lookup x = some .local)
  room : Room k X.A
  sup : ("super" : PySem.Str) ∉ N.T
  bi : ∀ f : Bi, X.mg (biN f) = none
  ty : ∀ t : Ty, X.mg (tyN t) = none
  rng : X.mg "range" = none
  enu : X.mg "enumerate" = none
  zip : X.mg "zip" = none
  set : X.mg "set" = none
  fn : ∀ f ∈ N.T, ∃ a fd ps, X.mg f = some (.ref a) ∧ FnOk X.prog X.w X.K X.mg X.base CX0 k a fd ps (LSp X.K (C f)) ∧ PySem.W.keepIn X.K (.ref a) = true ∧ Binds X.K fd ps []
  mt : ∀ f c m, (f, c, m) ∈ N.M → ∃ Ca a fd ps, InsK X.K c Ca ∧ Meth X.K Ca m a ∧ FnOk X.prog X.w X.K X.mg X.base CX0 k a fd ps (LSp X.K (C f)) ∧ Binds X.K fd ps [] ∧ Room (k + 1) X.A ∧ (m = "__init__" → X.mg c = some (.ref Ca) ∧ Mk X.K Ca a)
  gl : ∀ x v, g x = some v → ∃ w u, X.mg x = some u ∧ RelV w u ∧ RepV X.K (fun _ => none) v w
  ve : X.mg "ValueError" = none
  exc : ∀ c ∈ N.E, c ∈ exB ∧ ∃ B, X.mg c = some (.ref B) ∧ PySem.W.nsIn X.K mainGlobals c = some (some (.ref B)) ∧ ClsK X.K c B
  fv : ∀ f ∈ N.T, ∃ a, X.mg f = some (.ref a) ∧ PySem.W.nsIn X.K mainGlobals f = some (some (.ref a))
  ex1 : ∀ c fld, c ∈ N.E → (c, fld) ∈ ex1 → ∀ B, X.mg c = some (.ref B) → OexC X.K B ∧ PySem.W.findIn X.K (.ref B) fld = some none ∧ ∃ fI fd, PySem.W.findIn X.K (.ref B) "__init__" = some (some (.ref fI)) ∧ PySem.W.typeIn X.K (.ref fI) = some (.type "function") ∧
    FnOk X.prog X.w X.K X.mg X.base CX0 1 fI fd ["self", fld] (spInit X.K B fld (okV c)) ∧ Binds X.K fd ["self", fld] []
  ex0 : ∀ c ∈ N.E, c ∈ ex0 → ∀ B, X.mg c = some (.ref B) → PySem.W.excIn X.K B [.type "ValueError", .type "Exception", .type "BaseException", .type "object"] "ValueError.__new__" = true ∧ PySem.W.keepIn X.K (.ref B) = true
  lv : (∃ f vs S Q, C f vs S Q) → 2 ≤ k
  lam : ∀ (x : SV) (S : Sto), C "<is lambda>" [x] S (fun _ _ => True) → ∃ (a c : Addr) (cs : List SV) (ws : List V) (fd : FuncData) (ps : List PySem.Str), x = .lam a c cs ws ∧ PySem.W.FnAt a X.base ∧
    FnOk X.prog X.w X.K X.mg X.base CX0 k a fd ps (fun vs H Q E => LSp X.K (C "<lambda>") (.ref a :: vs) H Q E) ∧ Binds X.K fd ps []
theorem Good.blk {C : Cal} {g : PySem.Str → Option SV} {k : Nat} {N : Ck} {sc rs : Scope} {X : Cx} (G : Good C g k N sc rs X) (scope : Scope) (s : Shared) (H : Hp) (Cc : Addr) (cl : List (PySem.Str × Addr)) (fp : List Addr) (hk : scope.kind = .function) :
    Good C g k N (relS scope sc) scope (X.blk s H scope (compEnvC scope cl Cc X.env) fp) where
  calm := G.calm
  nN := G.nN
  nd := G.nd
  sc := by
    show relS scope X.env.scope = _
    rw [G.sc]
  st := fun x hx => by
    have e : (X.blk s H scope (compEnvC scope cl Cc X.env) fp).env.scope = relS scope X.env.scope := rfl
    rw [e]
    rcases hx with hx | hx
    · have q : (relS scope X.env.scope).names.lookup x = some .local := lookup_relS_keep (by decide) hx
      exact ⟨.inl q, .inr q⟩
    · have q : (relS scope X.env.scope).names.lookup x = some .cell := lookup_relS_keep (by decide) hx
      refine ⟨.inr q, .inl ?_⟩
      show (scope.names.lookup x == some .cell) = true
      rw [hx]
      rfl
  room := G.room
  sup := G.sup
  bi := G.bi
  ty := G.ty
  rng := G.rng
  enu := G.enu
  zip := G.zip
  set := G.set
  fn := G.fn
  mt := G.mt
  gl := G.gl
  ve := G.ve
  exc := G.exc
  ex0 := G.ex0
  fv := G.fv
  ex1 := G.ex1
  lv := G.lv
  lam := G.lam
section
variable {C : Cal} {g : PySem.Str → Option SV} {k : Nat} {N : Ck} {sc rs : Scope} {X : Cx}
theorem Good.gl_ (G : Good C g k N sc rs X) {x : PySem.Str} (h : glE sc x = true) : Gl X x ∧ (x == ("__debug__" : PySem.Str)) = false ∧ x ≠ "__name__" := by
  unfold glE at h
  simp only [Bool.and_eq_true] at h
  obtain ⟨⟨h1, h2⟩, h3⟩ := h
  refine ⟨?_, ?_, ?_⟩
  · show X.env.scope.names.lookup x = some .globalImplicit
    rw [G.sc]
    split at h1
    · assumption
    · cases h1
  · simpa using h2
  · simpa using h3
theorem Good.var (G : Good C g k N sc rs X) {i : Nat} {x : PySem.Str} {pos : Pos} (h : nmE N.N sc i x = true) : PE X (.Name x pos) (tVar i) := by
  unfold nmE at h
  simp only [Bool.and_eq_true, decide_eq_true_eq] at h
  obtain ⟨⟨⟨h1, h2⟩, h3⟩, h4⟩ := h
  refine pe_var (by rw [G.nN]; exact h1) ?_ (by simpa using h2) (by simpa using h3)
  show Vis X.env.scope x
  rw [G.sc]
  unfold Vis
  split at h4
  · exact .inl (by assumption)
  · exact .inr (.inl (by assumption))
  · exact .inr (.inr (by assumption))
  · cases h4
theorem PE.no {e : PySem.Expr} {t : TE} (h : ∀ σ H Q, ¬ t σ H Q) : PE X e t := ⟨fun _ _ σ H Q _ z => (h σ H Q z).elim⟩
theorem se_var (G : Good C g k N sc rs X) {i : Nat} {x : PySem.Str} {pos : Pos} (h : nmE N.N sc i x = true) : PE X (.Name x pos) (LE X.K (wE C g (.var i x))) := PE.imp (G.var h) fun σ H Q z => by
  obtain ⟨F, M, S, ρ, k, r, q, ⟨v, e, o⟩, kk⟩ := z
  obtain ⟨w, e1, e2⟩ := r.2 i v e
  exact ⟨w, e1, kk.go q e2 o⟩
theorem se_cst {c : Const} {j : Nat} {pos : Pos} : PE X (.Constant c j pos) (LE X.K (wE C g (.cst c))) := by
  have no : cstS c = none → PE X (.Constant c j pos) (LE X.K (wE C g (.cst c))) := fun e => PE.no fun σ H Q z => by
    obtain ⟨F, M, S, ρ, k, r, q, ⟨v, e1, o⟩, kk⟩ := z
    rw [e] at e1
    cases e1
  have yes : ∀ (v : SV) (w : V), cstS c = some v → (∀ F, RepV X.K F v w) → PE X (.Constant c j pos) (tC w) → PE X (.Constant c j pos) (LE X.K (wE C g (.cst c))) := fun v w e r p => PE.imp p fun σ H Q z => by
    obtain ⟨F, M, S, ρ, k, r', q, ⟨v', e1, o⟩, kk⟩ := z
    rw [e] at e1
    cases e1
    exact kk.go q (r F) o
  cases c with
  | none => exact yes .non .non rfl (fun _ => rfl) pe_non
  | bool b => exact yes (.bl b) (.bl b) rfl (fun _ => rfl) pe_bl
  | int i => exact yes (.int i) (.int i) rfl (fun _ => rfl) pe_int
  | str s => exact yes (.str s) (.str s) rfl (fun _ => rfl) pe_str
  | _ => exact no rfl
theorem se_glob (G : Good C g k N sc rs X) {x : PySem.Str} {pos : Pos} (h : glE sc x = true) : PE X (.Name x pos) (LE X.K (wE C g (.glob x))) := by
  obtain ⟨hg, hd, hn⟩ := G.gl_ h
  cases e : g x with
  | none =>
    refine PE.no fun σ H Q z => ?_
    obtain ⟨F, M, S, ρ, k, r, q, ⟨v, e1, o⟩, kk⟩ := z
    rw [e] at e1
    cases e1
  | some v =>
    obtain ⟨w, u, hm, r1, r2⟩ := G.gl x v e
    refine PE.imp (pe_glob hg hm r1 hd) fun σ H Q z => ?_
    obtain ⟨F, M, S, ρ, k, r, q, ⟨v', e1, o⟩, kk⟩ := z
    rw [e] at e1
    cases e1
    exact kk.go q (RepV.mono (fun a o z => by cases z) _ _ r2) o
/-- what follows an expression -/
theorem LE.bind {K : PySem.W.Frag} {t : SE} {F M H : Hp} {S : Sto} {ρ : Ro} {σ : L2.St} {kq : SK} {Q : VK} (r : RepR K F ρ σ) (q : Sim K F M S H) (h : t ρ S kq)
    (n : ∀ F' S' H' x v, Same F F' → Sim K F' M S' H' → RepV K F' x v → RepR K F' ρ σ → kq x S' → Q v H') : LE K t σ H Q :=
  ⟨F, M, S, ρ, kq, r, q, h, fun F' S' H' x v e q' rx z => n F' S' H' x v e q' rx (r.mono e) z⟩
theorem se_bin {o : Operator} {own : Bool} {a b : ME} {l r : PySem.Expr} {pos : Pos} (ha : PE X l (LE X.K (wE C g a))) (hb : PE X r (LE X.K (wE C g b))) : PE X (.BinOp l o r pos) (LE X.K (wE C g (.bin o own a b))) := PE.imp (pe_op (op_binS (own := own)) ha hb) fun σ H Q z => by
  obtain ⟨F, M, S, ρ, k, r, q, h, kk⟩ := z
  exact LE.bind r q h fun F1 S1 H1 x v e1 q1 rx r1 h1 => LE.bind r1 q1 h1 fun F2 S2 H2 y u e2 q2 ry r2 h2 => ⟨F2, M, S2, x, y, k, RepV.mono e2 _ _ rx, ry, q2, h2, kk.mono (e1.trans e2)⟩
theorem le_cmp {K : PySem.W.Frag} {o : CmpOp} {a b : ME} {σ : L2.St} {H : Hp} {Q : VK} (z : LE K (wE C g (.cmp o a b)) σ H Q) : tOp (LR2 K (cmpS o)) (LE K (wE C g a)) (LE K (wE C g b)) σ H Q := by
  obtain ⟨F, M, S, ρ, k, r, q, h, kk⟩ := z
  exact LE.bind r q h fun F1 S1 H1 x v e1 q1 rx r1 h1 => LE.bind r1 q1 h1 fun F2 S2 H2 y u e2 q2 ry r2 h2 => ⟨F2, M, S2, x, y, k, RepV.mono e2 _ _ rx, ry, q2, h2, kk.mono (e1.trans e2)⟩
theorem se_cmp (G : Good C g k N sc rs X) {o : CmpOp} {a b : ME} {l r : PySem.Expr} {pos : Pos} (ha : PE X l (LE X.K (wE C g a))) (hb : PE X r (LE X.K (wE C g b))) (hp : plE r = true) : PE X (.Compare l [o] [r] pos) (LE X.K (wE C g (.cmp o a b))) :=
  PE.imp (pe_cmpR (op_cmpS G.room o) ha hb (pl_mark hp o)) fun _ _ _ z => le_cmp z
theorem le_chain {K : PySem.W.Frag} {o o2 : CmpOp} {a b c : ME} {σ : L2.St} {H : Hp} {Q : VK} (z : LE K (wE C g (.chain o o2 a b c)) σ H Q) : tChain (LR2 K (cmpS o)) (LR2 K (cmpS o2)) (LE K (wE C g a)) (LE K (wE C g b)) (LE K (wE C g c)) σ H Q := by
  obtain ⟨F, M, S, ρ, k, r, q, h, kk⟩ := z
  refine LE.bind r q h fun F1 S1 H1 x v e1 q1 rx r1 h1 => LE.bind r1 q1 h1 fun F2 S2 H2 y u e2 q2 ry r2 h2 => ⟨F2, M, S2, x, y, _, RepV.mono e2 _ _ rx, ry, q2, h2, fun F3 S3 H3 z w e3 q3 rz h3 => ?_⟩
  obtain ⟨p, rfl, h3⟩ := h3
  refine ⟨p, rz, ?_⟩
  have e13 := (e1.trans e2).trans e3
  cases p with
  | true =>
    rw [if_pos rfl] at h3 ⊢
    exact LE.bind (r2.mono e3) q3 h3 fun F4 S4 H4 y4 u4 e4 q4 r4 rr h4 => ⟨F4, M, S4, y, y4, k, RepV.mono (e3.trans e4) _ _ ry, r4, q4, h4, kk.mono (e13.trans e4)⟩
  | false =>
    rw [if_neg Bool.false_ne_true] at h3 ⊢
    exact (kk.mono e13).go q3 (show RepV K F3 (.bl false) (.bl false) from rfl) h3
theorem last_marks {o o2 : CmpOp} {b c : PySem.Expr} (h : plE c = true) : lastMarks [o, o2] [b, c] = false := pl_mark h o2
theorem se_chain (G : Good C g k N sc rs X) {o o2 : CmpOp} {a b c : ME} {l m r : PySem.Expr} {pos : Pos} (ha : PE X l (LE X.K (wE C g a))) (hb : PE X m (LE X.K (wE C g b))) (hc : PE X r (LE X.K (wE C g c))) (hp : plE r = true) :
    PE X (.Compare l [o, o2] [m, r] pos) (LE X.K (wE C g (.chain o o2 a b c))) := PE.imp (pe_chain (op_cmpS G.room o) (op_cmpS G.room o2) ha hb hc (last_marks hp)) fun _ _ _ z => le_chain z
theorem se_neg {a : ME} {e : PySem.Expr} {pos : Pos} (ha : PE X e (LE X.K (wE C g a))) : PE X (.UnaryOp .USub e pos) (LE X.K (wE C g (.neg a))) := PE.imp (pe_un un_neg ha) fun σ H Q z => by
  obtain ⟨F, M, S, ρ, k, r, q, h, kk⟩ := z
  refine LE.bind r q h fun F1 S1 H1 x v e1 q1 rx r1 h1 => ?_
  obtain ⟨i, rfl, h1⟩ := h1
  exact ⟨i, rx, (kk.mono e1).go q1 (show RepV X.K F1 (.int (-i)) (.int (-i)) from rfl) h1⟩
theorem se_not {a : ME} {e : PySem.Expr} {pos : Pos} (ha : PE X e (LE X.K (wE C g a))) : PE X (.UnaryOp .Not e pos) (LE X.K (wE C g (.not a))) := PE.imp (pe_not ha) fun σ H Q z => by
  obtain ⟨F, M, S, ρ, k, r, q, h, kk⟩ := z
  refine LE.bind r q h fun F1 S1 H1 x v e1 q1 rx r1 h1 => ?_
  obtain ⟨p, rfl, h1⟩ := h1
  exact ⟨p, rx, (kk.mono e1).go q1 (show RepV X.K F1 (.bl (!p)) (.bl (!p)) from rfl) h1⟩
theorem se_and {a b : ME} {e e2 : PySem.Expr} {rest : List PySem.Expr} {pos : Pos} (ha : PE X e (LE X.K (wE C g a))) (hb : PE X (.BoolOp .And (e2 :: rest) pos) (LE X.K (wE C g b))) : PE X (.BoolOp .And (e :: e2 :: rest) pos) (LE X.K (wE C g (.and a b))) := PE.imp (pe_and ha hb) fun σ H Q z => by
  obtain ⟨F, M, S, ρ, k, r, q, h, kk⟩ := z
  refine LE.bind r q h fun F1 S1 H1 x v e1 q1 rx r1 h1 => ?_
  obtain ⟨p, rfl, h1⟩ := h1
  refine ⟨p, rx, ?_⟩
  cases p with
  | true =>
    rw [if_pos rfl] at h1 ⊢
    exact ⟨F1, M, S1, ρ, k, r1, q1, h1, kk.mono e1⟩
  | false =>
    rw [if_neg Bool.false_ne_true] at h1 ⊢
    exact (kk.mono e1).go q1 (show RepV X.K F1 (.bl false) (.bl false) from rfl) h1
theorem se_or {a b : ME} {e e2 : PySem.Expr} {rest : List PySem.Expr} {pos : Pos} (ha : PE X e (LE X.K (wE C g a))) (hb : PE X (.BoolOp .Or (e2 :: rest) pos) (LE X.K (wE C g b))) : PE X (.BoolOp .Or (e :: e2 :: rest) pos) (LE X.K (wE C g (.or a b))) := PE.imp (pe_or ha hb) fun σ H Q z => by
  obtain ⟨F, M, S, ρ, k, r, q, h, kk⟩ := z
  refine LE.bind r q h fun F1 S1 H1 x v e1 q1 rx r1 h1 => ?_
  obtain ⟨p, rfl, h1⟩ := h1
  refine ⟨p, rx, ?_⟩
  cases p with
  | true =>
    rw [if_pos rfl] at h1 ⊢
    exact (kk.mono e1).go q1 (show RepV X.K F1 (.bl true) (.bl true) from rfl) h1
  | false =>
    rw [if_neg Bool.false_ne_true] at h1 ⊢
    exact ⟨F1, M, S1, ρ, k, r1, q1, h1, kk.mono e1⟩
end
end Sy

namespace Sy
open PySem PySem.Spec PyProof.Rows L2
section
variable {C : Cal} {g : PySem.Str → Option SV} {k : Nat} {N : Ck} {sc rs : Scope} {X : Cx}
theorem LA.bind {K : PySem.W.Frag} {t : SEs} {F M H : Hp} {S : Sto} {ρ : Ro} {σ : L2.St} {kq : SKs} {Q : List V → Hp → Prop} (r : RepR K F ρ σ) (q : Sim K F M S H) (h : t ρ S kq)
    (n : ∀ F' S' H' x v, Same F F' → Sim K F' M S' H' → RepL K F' x v → RepR K F' ρ σ → kq x S' → Q v H') : LA K t σ H Q :=
  ⟨F, M, S, ρ, kq, r, q, h, fun F' S' H' x v e q' rx z => n F' S' H' x v e q' rx (r.mono e) z⟩
theorem sa_nil : PA X [] (LA X.K (wA C g .nil)) := PA.imp pa_nil fun σ H Q z => by
  obtain ⟨F, M, S, ρ, k, r, q, h, kk⟩ := z
  exact kk F S H [] [] Same.rfl' q rfl h
theorem sa_cons {m : ME} {as : MA} {e : PySem.Expr} {es : List PySem.Expr} (he : PE X e (LE X.K (wE C g m))) (hs : PA X es (LA X.K (wA C g as))) (hp : plE e = true) : PA X (e :: es) (LA X.K (wA C g (.cons m as))) := PA.imp (pa_cons he hs (pl_star hp es X.env)) fun σ H Q z => by
  obtain ⟨F, M, S, ρ, k, r, q, h, kk⟩ := z
  exact LE.bind r q h fun F1 S1 H1 x v e1 q1 rx r1 h1 => LA.bind r1 q1 h1 fun F2 S2 H2 y u e2 q2 ry r2 h2 => kk F2 S2 H2 (x :: y) (v :: u) (e1.trans e2) q2 (show RepL X.K F2 (x :: y) (v :: u) from ⟨v, u, rfl, RepV.mono e2 _ _ rx, ry⟩) h2
theorem se_tup {as : MA} {es : List PySem.Expr} {n : Nat} {pos : Pos} (ha : PA X es (LA X.K (wA C g as))) : PE X (.Tuple es n pos) (LE X.K (wE C g (.tup as))) := PE.imp (pe_tup ha) fun σ H Q z => by
  obtain ⟨F, M, S, ρ, k, r, q, h, kk⟩ := z
  exact LA.bind r q h fun F1 S1 H1 x v e1 q1 rx r1 h1 => ⟨by rw [← rx.length]; exact h1.1, fun p hp => newT_ok q1 rx h1.2 (kk.mono e1) hp⟩
theorem se_lst {own : Bool} {as : MA} {es : List PySem.Expr} {pos : Pos} (ha : PA X es (LA X.K (wA C g as))) : PE X (.List es pos) (LE X.K (wE C g (.lst own as))) := PE.imp (pe_lst ha) fun σ H Q z => by
  obtain ⟨F, M, S, ρ, k, r, q, h, kk⟩ := z
  exact LA.bind r q h fun F1 S1 H1 x v e1 q1 rx r1 h1 => ⟨by rw [← rx.length]; exact h1.1, fun p hp => newL_ok q1 rx h1 (kk.mono e1) hp⟩
theorem se_idx (G : Good C g k N sc rs X) {a i : ME} {x y : PySem.Expr} {pos : Pos} (ha : PE X x (LE X.K (wE C g a))) (hi : PE X y (LE X.K (wE C g i))) (hp : plE y = true) : PE X (.Subscript x y pos) (LE X.K (wE C g (.idx a i))) := PE.imp (pe_ix (ix_S (by have := G.room.units; omega)) ha hi (pl_ix hp)) fun σ H Q z => by
  obtain ⟨F, M, S, ρ, k, r, q, h, kk⟩ := z
  exact LE.bind r q h fun F1 S1 H1 x v e1 q1 rx r1 h1 => LE.bind r1 q1 h1 fun F2 S2 H2 y u e2 q2 ry r2 h2 => ⟨F2, M, S2, x, y, k, RepV.mono e2 _ _ rx, ry, q2, h2, kk.mono (e1.trans e2)⟩
theorem so_none : PO X none (LO X.K (wO C g .none)) := PO.imp po_none fun σ H Q z => by
  obtain ⟨F, M, S, ρ, k, r, q, h, kk⟩ := z
  exact kk F S H none Same.rfl' q h
theorem so_some {m : ME} {e : PySem.Expr} (he : PE X e (LE X.K (wE C g m))) : PO X (some e) (LO X.K (wO C g (.some m))) := PO.imp (po_some he) fun σ H Q z => by
  obtain ⟨F, M, S, ρ, k, r, q, h, kk⟩ := z
  refine LE.bind r q h fun F1 S1 H1 x v e1 q1 rx r1 h1 => ?_
  obtain ⟨i, rfl, h1⟩ := h1
  exact ⟨i, rx, kk F1 S1 H1 _ e1 q1 h1⟩
theorem se_sl {own : Bool} {a : ME} {lo hi : MO} {x : PySem.Expr} {l h : Option PySem.Expr} {pos p2 : Pos} (ha : PE X x (LE X.K (wE C g a))) (hl : PO X l (LO X.K (wO C g lo))) (hh : PO X h (LO X.K (wO C g hi))) :
    PE X (.Subscript x (.Slice l h none p2) pos) (LE X.K (wE C g (.sl own a lo hi))) := PE.imp (pe_slice (sl_S (own := own)) ha hl hh) fun σ H Q z => by
  obtain ⟨F, M, S, ρ, k, r, q, h, kk⟩ := z
  exact LE.bind r q h fun F1 S1 H1 x v e1 q1 rx r1 h1 => ⟨F1, M, S1, ρ, _, r1, q1, h1, fun F2 S2 H2 o e2 q2 h2 => ⟨F2, M, S2, ρ, _, r1.mono e2, q2, h2, fun F3 S3 H3 o3 e3 q3 h3 => ⟨F3, M, S3, x, k, RepV.mono (e2.trans e3) _ _ rx, q3, h3, kk.mono ((e1.trans e2).trans e3)⟩⟩⟩
theorem LE.args {K : PySem.W.Frag} {as : MA} {f : List SV → Sto → SK → Prop} {σ : L2.St} {H : Hp} {Q : VK} (z : LE K (fun ρ S k => wA C g as ρ S fun vs S' => f vs S' k) σ H Q) : LA K (wA C g as) σ H fun vs H' => LRs K f vs H' Q := by
  obtain ⟨F, M, S, ρ, k, r, q, h, kk⟩ := z
  exact LA.bind r q h fun F1 S1 H1 x v e1 q1 rx r1 h1 => ⟨F1, M, S1, x, k, rx, q1, h1, kk.mono e1⟩
theorem star_none {N : Ck} {sc : Scope} (hT : ("super" : PySem.Str) ∉ N.T) {env : Env} {pos : Pos} : ∀ {as : MA} {es : List PySem.Expr}, cA N sc as es = true → (backTo pos (starEach es env)).any (fun x => x.1) = false
  | .nil, [], _ => rfl
  | .cons m as, e :: es, h => by
    have h' : (cE N sc m e && cA N sc as es) = true := h
    rw [Bool.and_eq_true] at h'
    rw [pl_star (pl_of h'.1 hT) es env]
    show (backTo pos (starEach es env)).any (fun x => x.1) = false
    exact star_none hT h'.2
  | .nil, _ :: _, h => by cases h
  | .cons _ _, [], h => by cases h
theorem se_call (G : Good C g k N sc rs X) {f : PySem.Str} {as : MA} {es : List PySem.Expr} {p pos : Pos} (hf : f ∈ N.T) (hg : glE sc f = true) (ha : PA X es (LA X.K (wA C g as))) (hc : cA N sc as es = true) :
    PE X (.Call (.Name f p) es [] pos) (LE X.K (wE C g (.call f as))) := by
  obtain ⟨h1, h2, h3⟩ := G.gl_ hg
  obtain ⟨a, fd, ps, hm, hF, hk, hb⟩ := G.fn f hf
  cases es with
  | nil =>
    refine PE.imp (pe_call0 hF G.room h1 hm hk hb .nil pass0 h2) fun σ H Q z => ?_
    cases as with
    | cons _ _ => cases hc
    | nil =>
      obtain ⟨F, M, S, ρ, k, r, q, h, kk⟩ := z
      exact ⟨F, M, S, [], k, rfl, q, h, kk⟩
  | cons e es =>
    cases as with
    | nil => cases hc
    | cons m as =>
      have hc' : (cE N sc m e && cA N sc as es) = true := hc
      rw [Bool.and_eq_true] at hc'
      refine PE.imp (pe_call hF G.room h1 hm hk hb .nil pass0 ha h2 (pl_star (pl_of hc'.1 G.sup) es X.env) (star_none G.sup hc'.2)) fun σ H Q z => ?_
      have z' := LE.args z
      show LA X.K _ σ H fun vs H1 => LSp X.K (C f) (vs ++ []) H1 Q E0
      refine (show ∀ (A B : List V → Hp → Prop), (∀ v h, A v h → B v h) → LA X.K (wA C g (.cons m as)) σ H A → LA X.K (wA C g (.cons m as)) σ H B from fun A B n z => ?_) _ _ (fun v h z => ?_) z'
      · obtain ⟨F, M, S, ρ, k, r, q, h, kk⟩ := z
        exact ⟨F, M, S, ρ, k, r, q, h, fun F' S' H' x v e q' rx z => n _ _ (kk F' S' H' x v e q' rx z)⟩
      · rw [List.append_nil]
        exact z
theorem se_bi (G : Good C g k N sc rs X) {f : Bi} {own : Bool} {as : MA} {es : List PySem.Expr} {p pos : Pos} (hg : glE sc (biN f) = true) (ha : PA X es (LA X.K (wA C g as))) (hc : cA N sc as es = true) :
    PE X (.Call (.Name (biN f) p) es [] pos) (LE X.K (wE C g (.bi f own as))) := by
  obtain ⟨h1, h2, h3⟩ := G.gl_ hg
  cases es with
  | nil =>
    cases as with
    | cons _ _ => cases hc
    | nil =>
      refine PE.no fun σ H Q z => ?_
      obtain ⟨F, M, S, ρ, k, r, q, h, kk⟩ := z
      have h' : biS f own [] S k := h
      cases f <;> exact h'
  | cons e es =>
    cases as with
    | nil => cases hc
    | cons m as =>
      have hc' : (cE N sc m e && cA N sc as es) = true := hc
      rw [Bool.and_eq_true] at hc'
      have st := pl_star (pl_of hc'.1 G.sup) es X.env
      have sn := star_none (pos := pos) (env := X.env) G.sup hc'.2
      have cr := cr_bi G.calm G.room.units f own
      have hb := bi_boot f
      refine PE.imp (t := tCB (LRs X.K (biS f own)) (LA X.K (wA C g (.cons m as)))) ?_ fun σ H Q z => LE.args z
      cases f <;> first
        | exact pe_callB cr h1 (G.bi _) hb ha h3 h2 st sn
        | exact pe_callTy cr h1 (G.bi _) hb ha h3 h2 st sn

/-! isinstance of a kept exception, its fields -/
section
variable {X : Cx}
end
/-! isinstance against a built-in class -/
def tyV' : Ty → String
  | .tuple => "tuple"
  | .list => "list"
  | .str => "str"
  | .int => "int"
  | .bool => "bool"
theorem ty_boot (t : Ty) : bootBuiltins (tyN t) = some (.type (tyV' t)) ∧ tyN t ≠ "__name__" ∧ (tyN t == ("__debug__" : PySem.Str)) = false := by cases t <;> decide +kernel
def clN : Cl → String
  | .list => "list"
  | .tuple => "tuple"
  | .int => "int"
  | .str => "str"
  | .bool => "bool"
  | .none => "NoneType"
theorem kit_all (t : Ty) (a : Cl) : kitB (clN a) (tyV' t) = some (isCl t a) := by
  cases a <;> cases t <;> decide +kernel
theorem cls_ty {K : PySem.W.Frag} {F M H : Hp} {S : Sto} (q : Sim K F M S H) {x : SV} {v : V} {a : Cl} (r : RepV K F x v) (h : clsS S x = some a) : TyX K H v (.type (clN a)) := by
  unfold clsS at h
  split at h
  · rename_i l e
    cases h
    obtain ⟨p, vs, rfl, h2, h3⟩ := items_rd q r e
    rcases h2 with h2 | ⟨o, h2⟩
    · exact .base (.lst h2)
    · exact .base (.frz h2)
  · split at h <;> cases h
    · obtain ⟨p, vs, rfl, h2, h3⟩ := tup_t q r
      rcases h2 with (h2 | ⟨o, h2⟩) | ⟨o, its, n, h4, h5, _⟩
      · exact .base (.tup h2)
      · exact .fTuple h2
      · exact .kTuple h4 h5
    · obtain ⟨p, vs, rfl, h2, h3⟩ := tuf_t q r
      rcases h2 with (h2 | ⟨o, h2⟩) | ⟨o, its, n, h4, h5, _⟩
      · exact .base (.tup h2)
      · exact .fTuple h2
      · exact .kTuple h4 h5
    · rw [show v = .int _ from r]
      exact .base (.int _)
    · rw [show v = .str _ from r]
      exact .base (.str _)
    · rw [show v = .bl _ from r]
      exact .base (.bl _)
    · rw [show v = .non from r]
      exact .base .non
theorem se_isi (G : Good C g k N sc rs X) {a : ME} {t : Ty} {e : PySem.Expr} {p p2 pos : Pos} (hg : glE sc "isinstance" = true) (hg2 : glE sc (tyN t) = true) (ha : PE X e (LE X.K (wE C g a))) (hp : plE e = true) :
    PE X (.Call (.Name "isinstance" p) [e, .Name (tyN t) p2] [] pos) (LE X.K (wE C g (.isi a t))) := by
  obtain ⟨h1, h2, h3⟩ := G.gl_ hg
  obtain ⟨h4, h5, h6⟩ := G.gl_ hg2
  obtain ⟨b1, b2, b3⟩ := ty_boot t
  have hc : PE X (.Name (tyN t) p2) (tC (.ty (tyV' t))) := pe_bltn h4 (G.ty t) b1 rfl b2 b3
  have pa : PA X [e, .Name (tyN t) p2] (tCons (LE X.K (wE C g a)) (tCons (tC (.ty (tyV' t))) tNil)) := pa_cons ha (pa_cons hc pa_nil (pl_star rfl [] X.env)) (pl_star hp _ X.env)
  refine PE.imp (pe_callB call_isi h1 (G.bi .isinst) (bi_boot .isinst) pa h3 h2 (pl_star hp _ X.env) rfl) fun σ H Q z => ?_
  obtain ⟨F, M, S, ρ, k, r, q, h, kk⟩ := z
  refine LE.bind r q h fun F1 S1 H1 x v e1 q1 rx r1 h1 => ?_
  obtain ⟨b, o1, o2⟩ := h1
  obtain ⟨n, n1, n2⟩ := Option.map_eq_some_iff.mp o1
  exact ⟨v, .ty (tyV' t), .type (clN n), .type (tyV' t), b, rfl, .ty _, cls_ty q1 rx n1, kit_ty (by rw [← n2]; exact kit_all t n), (kk.mono e1).go q1 (show RepV X.K F1 (.bl b) (.bl b) from rfl) o2⟩
theorem RepF.lookup {K : PySem.W.Frag} {F : Hp} {f : PySem.Str} : ∀ {l : List (PySem.Str × SV)} {gs : List (PySem.Str × V)} {x : SV}, RepF K F l gs → l.lookup f = some x → ∃ v, gs.lookup f = some v ∧ RepV K F x v
  | [], _, _, _, h => by cases h
  | p :: l, _, x, ⟨v, r, h1, h2, h3⟩, h => by
    subst h1
    rw [List.lookup_cons] at h ⊢
    cases e : f == p.1 with
    | true =>
      rw [e] at h
      cases h
      exact ⟨v, rfl, h2⟩
    | false =>
      rw [e] at h
      exact RepF.lookup h3 h
/-! methods -/
def mtT : Mt → String
  | .join => "str"
  | .split => "str"
  | .indexT => "tuple"
  | .indexS => "str"
  | _ => "list"
theorem rcv_ty {K : PySem.W.Frag} {F M H : Hp} {S : Sto} (q : Sim K F M S H) {m : Mt} {x : SV} {v : V} (r : RepV K F x v) (h : rcvS m S x) (hm : m ≠ .indexT) : tyV K (mtT m) v H := by
  have lst : (∃ l, items S x = some l) → tyV K "list" v H := fun ⟨l, e⟩ => by
    obtain ⟨a, vs, rfl, h2, _⟩ := items_l q r e
    exact .inl ⟨rfl, vs, h2⟩
  have str : (∃ s, x = .str s) → tyV K "str" v H := fun ⟨s, e⟩ => by
    subst e
    rw [show v = .str s from r]
    rfl
  cases m <;> first | exact lst h | exact str h | exact absurd rfl hm
theorem args_ok {N : Ck} {sc : Scope} (hT : ("super" : PySem.Str) ∉ N.T) {env : Env} {pos : Pos} : ∀ {as : MA} {es : List PySem.Expr}, cA N sc as es = true → (backTo pos (starEach es env)).all (fun x => !x.1) = true
  | .nil, [], _ => rfl
  | .cons m as, e :: es, h => by
    have h' : (cE N sc m e && cA N sc as es) = true := h
    rw [Bool.and_eq_true] at h'
    rw [pl_star (pl_of h'.1 hT) es env]
    show (backTo pos (starEach es env)).all (fun x => !x.1) = true
    exact args_ok hT h'.2
  | .nil, _ :: _, h => by cases h
  | .cons _ _, [], h => by cases h
/-- a method of a known tuple -/
theorem tuf_is {pins : List (Addr × Obj)} {σ : L2.St} {H : Hp} {s : Shared} {p : Addr} {vs : List V} (I : Inv X pins σ H s) (h : TufAt X.K H p vs) : s.TypeIs (.ref p) "tuple" ∧ ∀ a, Value.ref p = .ref a → ∃ ob, s.heap.get? a = some ob ∧ ob.dict = none := by
  rcases h with ⟨o, h, d⟩ | ⟨o, its, n, h1, h2, d, _⟩
  · obtain ⟨e, _, its, _, o2, e2, c, _⟩ := I.hok _ _ h
    rw [e] at e2
    cases e2
    exact ⟨⟨o, e, c⟩, fun a z => by cases z; exact ⟨o, e, d⟩⟩
  · have e := I.kIn _ _ h1
    exact ⟨⟨o, e, h2⟩, fun a z => by cases z; exact ⟨o, e, d⟩⟩
def tBMU (K : PySem.W.Frag) (r : V → List V → Hp → VK → Prop) (to : TE) (t : TA) : TE := fun σ H Q => to σ H fun x H1 => (∃ p vs, x = .ref p ∧ TufAt K H1 p vs) ∧ t σ H1 fun vs H2 => r x vs H2 Q
theorem pe_bmU {o e : PySem.Expr} {es : List PySem.Expr} {to : TE} {t : TA} {r : V → List V → Hp → VK → Prop} {name : PySem.Str} {id : String} {apos cpos : Pos} (pa : PlainAttrs "tuple") (slot : Slot "tuple" name id) (hty : typeOf (.builtin id) = pure (.type "method_descriptor")) (hm : MtR X id r) (ho : PE X o to) (ha : PA X (e :: es) t)
    (hbase : attributeBase o name X.env (eval o X.env) = eval o X.env)
    (hfew : ((backTo cpos (starEach (e :: es) X.env)).all (fun x => !x.1) && (backToKw cpos (keywordEach [] X.env)).all (fun x => x.1.isSome)
      && decide ((e :: es).length + ([] : List Keyword).length + (if ([] : List Keyword).isEmpty then 0 else 1) < 30)) = true)
    (hline : (apos.endLine == cpos.line) = true) (hs : starEach (e :: es) X.env = (false, eval e X.env) :: starEach es X.env) (hplain : (backTo cpos (starEach es X.env)).any (·.1) = false) :
    PE X (.Call (.Attribute o name apos) (e :: es) [] cpos) (tBMU X.K r to t) := by
  refine ⟨fun pins s σ H Q I h => ?_⟩
  refine wpAny_Call_method_late hbase hfew hline rfl (thn (ho.run pins s σ H _ I h) fun v s1 ⟨x, H1, I1, r1, ⟨p, ys, ex, ty⟩, q1⟩ => ?_)
  subst ex
  obtain rfl : v = Value.ref p := r1
  obtain ⟨h1, h2⟩ := tuf_is I1 ty
  refine ⟨"tuple", id, pa, slot, hty, h1, h2, ?_⟩
  have hA := ha.run cpos pins s1 σ H1 _ I1 q1
  rw [hs] at hA ⊢
  refine Calls.callWith_builtin (by show (false || (backTo cpos (starEach es X.env)).any (·.1)) = false; rw [hplain] <;> rfl) (Calls.evalArgs_plain ?_)
  exact thn hA fun us s2 ⟨vs, H2, I2, r2, q2⟩ => hm pins s2 σ H2 (.ref p) vs (.ref p) us Q I2 rfl r2 q2
theorem mt_endU {own : Bool} {a : ME} {as : MA} {o e : PySem.Expr} {es : List PySem.Expr} {apos pos : Pos}
    (hl : (apos.endLine == pos.line) = true) (hn : (e :: es).length < 30) (sup : ("super" : PySem.Str) ∉ N.T) (ho : PE X o (LE X.K (wE C g a))) (hpo : plE o = true) (ha : PA X (e :: es) (LA X.K (wA C g as))) (hc : cA N sc as (e :: es) = true) :
    PE X (.Call (.Attribute o "index" apos) (e :: es) [] pos) (LE X.K (wE C g (.mt .indexT own a as))) := by
  cases as with
  | nil => cases hc
  | cons b as =>
    have hc' : (cE N sc b e && cA N sc as es) = true := hc
    rw [Bool.and_eq_true] at hc'
    refine PE.imp (pe_bmU PySem.F.plainAttrs_tuple PySem.F.slot_tuple_index PySem.F.type_tuple_index mt_indexTS ho ha (pl_attr hpo _ _ _) ?_ hl (pl_star (pl_of hc'.1 sup) es X.env) (star_none sup hc'.2)) fun σ H Q z => ?_
    · rw [args_ok sup hc]
      have h2 : (backToKw pos (keywordEach [] X.env)).all (fun x => x.1.isSome) = true := rfl
      rw [h2]
      have h3 : (e :: es).length + ([] : List Keyword).length + (if ([] : List Keyword).isEmpty = true then 0 else 1) < 30 := hn
      rw [decide_eq_true h3]
      rfl
    · obtain ⟨F, M, S, ρ, k, r, q, h, kk⟩ := z
      refine LE.bind r q h fun F1 S1 H1 x v e1 q1 rx r1 h1 => ?_
      obtain ⟨⟨l, rfl⟩, h1⟩ := h1
      obtain ⟨p, vs, rfl, t1, t2⟩ := id rx
      exact ⟨⟨p, vs, rfl, TufAt.mono q1.f t1⟩, LA.bind r1 q1 h1 fun F2 S2 H2 y u e2 q2 ry r2 h2 => ⟨F2, M, S2, .tuf l, y, k, RepV.mono e2 _ _ rx, ry, q2, h2, kk.mono (e1.trans e2)⟩⟩
/-- len(set(texts)) -/
theorem se_lset (G : Good C g k N sc rs X) {a : ME} {e : PySem.Expr} {p1 p2 p3 pos : Pos} (h1 : glE sc "len" = true) (h2 : glE sc "set" = true) (ha : PE X e (LE X.K (wE C g a))) (hp : plE e = true) :
    PE X (.Call (.Name "len" p1) [.Call (.Name "set" p2) [e] [] p3] [] pos) (LE X.K (wE C g (.lset a))) := by
  refine PE.imp (pe_lset G.calm (G.gl_ h1).1 (G.bi .len) (G.gl_ h2).1 G.set ha (pl_star hp [] X.env)) fun σ H Q z => ?_
  obtain ⟨F, M, S, ρ, k, r, q, h, kk⟩ := z
  refine LE.bind r q h fun F1 S1 H1 x v e1 q1 rx r1 h1 => ?_
  obtain ⟨l, ys, o1, o2, o3, o4⟩ := h1
  rcases o1 with o1 | o1
  · obtain ⟨a, vs, rfl, t1, t2⟩ := items_l q1 rx o1
    rw [rep_strL t2 o2] at t1
    exact ⟨a, ys, rfl, .inl t1, o3, kk.mono e1 |>.go q1 (show RepV X.K F1 (.int _) (.int _) from rfl) o4⟩
  · obtain ⟨a, vs, rfl, t1, t2⟩ := tupOf_t q1 rx o1
    rw [rep_strL t2 o2] at t1
    exact ⟨a, ys, rfl, .inr t1, o3, kk.mono e1 |>.go q1 (show RepV X.K F1 (.int _) (.int _) from rfl) o4⟩
theorem mt_end {m : Mt} {own : Bool} {a : ME} {as : MA} {id : String} {o e : PySem.Expr} {es : List PySem.Expr} {apos pos : Pos} (hid : MtR X id (LRm X.K (mtS m own))) (pl : PlainAttrs (mtT m)) (sl : Slot (mtT m) (mtN m) id) (ty : typeOf (Value.builtin id) = pure (Value.type "method_descriptor"))
    (hmt : m ≠ .indexT) (hl : (apos.endLine == pos.line) = true) (hn : (e :: es).length < 30) (sup : ("super" : PySem.Str) ∉ N.T) (ho : PE X o (LE X.K (wE C g a))) (hpo : plE o = true) (ha : PA X (e :: es) (LA X.K (wA C g as))) (hc : cA N sc as (e :: es) = true) :
    PE X (.Call (.Attribute o (mtN m) apos) (e :: es) [] pos) (LE X.K (wE C g (.mt m own a as))) := by
  cases as with
  | nil => cases hc
  | cons b as =>
    have hc' : (cE N sc b e && cA N sc as es) = true := hc
    rw [Bool.and_eq_true] at hc'
    refine PE.imp (pe_bm pl sl ty hid ho ha (pl_attr hpo _ _ _) ?_ hl (pl_star (pl_of hc'.1 sup) es X.env) (star_none sup hc'.2)) fun σ H Q z => ?_
    · rw [args_ok sup hc]
      have h2 : (backToKw pos (keywordEach [] X.env)).all (fun x => x.1.isSome) = true := rfl
      rw [h2]
      have h3 : (e :: es).length + ([] : List Keyword).length + (if ([] : List Keyword).isEmpty = true then 0 else 1) < 30 := hn
      rw [decide_eq_true h3]
      rfl
    · obtain ⟨F, M, S, ρ, k, r, q, h, kk⟩ := z
      exact LE.bind r q h fun F1 S1 H1 x v e1 q1 rx r1 h1 => ⟨rcv_ty q1 rx h1.1 hmt, LA.bind r1 q1 h1.2 fun F2 S2 H2 y u e2 q2 ry r2 h2 => ⟨F2, M, S2, x, y, k, RepV.mono e2 _ _ rx, ry, q2, h2, kk.mono (e1.trans e2)⟩⟩
theorem se_mt (G : Good C g k N sc rs X) {m : Mt} {own : Bool} {a : ME} {as : MA} {o : PySem.Expr} {es : List PySem.Expr} {apos pos : Pos} (hm : mtIn m = true) (hl : (apos.endLine == pos.line) = true) (hn : es.length = mtA m)
    (ho : PE X o (LE X.K (wE C g a))) (hpo : plE o = true) (ha : PA X es (LA X.K (wA C g as))) (hc : cA N sc as es = true) :
    PE X (.Call (.Attribute o (mtN m) apos) es [] pos) (LE X.K (wE C g (.mt m own a as))) := by
  cases es with
  | nil =>
    cases as with
    | cons _ _ => cases hc
    | nil =>
      have zero : ∀ {id : String}, MtR X id (LRm X.K (mtS m own)) → PlainAttrs (mtT m) → Slot (mtT m) (mtN m) id → typeOf (Value.builtin id) = pure (Value.type "method_descriptor") → m ≠ .indexT → PE X (.Call (.Attribute o (mtN m) apos) [] [] pos) (LE X.K (wE C g (.mt m own a .nil))) := fun {id} h1 h2 h3 h4 h5 =>
        PE.imp (pe_bm0 h2 h3 h4 h1 ho (pl_attr hpo _ _ _) hl) fun σ H Q z => by
          obtain ⟨F, M, S, ρ, k, r, q, h, kk⟩ := z
          exact LE.bind r q h fun F1 S1 H1 x v e1 q1 rx r1 h1 => ⟨rcv_ty q1 rx h1.1 h5, F1, M, S1, x, [], k, rx, rfl, q1, h1.2, kk.mono e1⟩
      cases m <;> first
        | (cases hm; done)
        | exact zero mt_pop0S PySem.F.plainAttrs_list PySem.F.slot_list_pop PySem.F.type_list_pop (by decide)
        | exact zero mt_clearS PySem.F.plainAttrs_list PySem.F.slot_list_clear PySem.F.type_list_clear (by decide)
        | cases hn
  | cons e es =>
    have hn' : (e :: es).length < 30 := by
      rw [hn]
      cases m <;> decide
    cases m <;> first
      | (cases hm; done)
      | (cases hn; done)
      | exact mt_end mt_insertS PySem.F.plainAttrs_list PySem.F.slot_list_insert PySem.F.type_list_insert (by decide) hl hn' G.sup ho hpo ha hc
      | exact mt_end mt_appendS PySem.F.plainAttrs_list PySem.F.slot_list_append PySem.F.type_list_append (by decide) hl hn' G.sup ho hpo ha hc
      | exact mt_end mt_extendS PySem.F.plainAttrs_list PySem.F.slot_list_extend PySem.F.type_list_extend (by decide) hl hn' G.sup ho hpo ha hc
      | exact mt_end mt_joinS PySem.F.plainAttrs_str PySem.F.slot_str_join PySem.F.type_str_join (by decide) hl hn' G.sup ho hpo ha hc
      | exact mt_end mt_splitS PySem.F.plainAttrs_str PySem.F.slot_str_split PySem.F.type_str_split (by decide) hl hn' G.sup ho hpo ha hc
      | exact mt_end mt_popS PySem.F.plainAttrs_list PySem.F.slot_list_pop PySem.F.type_list_pop (by decide) hl hn' G.sup ho hpo ha hc
      | exact mt_end (mt_countS (by have := G.room.un; omega)) PySem.F.plainAttrs_list PySem.F.slot_list_count PySem.F.type_list_count (by decide) hl hn' G.sup ho hpo ha hc
      | exact mt_end (mt_indexLS (by have := G.room.un; omega)) PySem.F.plainAttrs_list PySem.F.slot_list_index PySem.F.type_list_index (by decide) hl hn' G.sup ho hpo ha hc
      | exact mt_end (mt_removeS (by have := G.room.un; omega)) PySem.F.plainAttrs_list PySem.F.slot_list_remove PySem.F.type_list_remove (by decide) hl hn' G.sup ho hpo ha hc
      | exact mt_end mt_sindexS PySem.F.plainAttrs_str PySem.F.slot_str_index PySem.F.type_str_index (by decide) hl hn' G.sup ho hpo ha hc
      | exact mt_endU hl hn' G.sup ho hpo ha hc
/-! {} -/
theorem se_dnew {tk : Bool} {pos : Pos} : PE X (.Dict [] [] pos) (LE X.K (wE C g (.dnew tk))) := by
  cases tk with
  | true =>
    refine PE.imp pe_dnewT fun σ H Q z p hp => ?_
    obtain ⟨F, M, S, ρ, k, r, q, h, kk⟩ := z
    have h' : k (.own p) (supd S p (.dT [] [])) := h p (q.freeS hp)
    exact kk F _ _ (.own p) _ Same.rfl' (q.newS (o := .dT [] []) hp ⟨[], rfl, rfl, rfl⟩) rfl h'
  | false =>
    refine PE.imp pe_dnewK fun σ H Q z p hp => ?_
    obtain ⟨F, M, S, ρ, k, r, q, h, kk⟩ := z
    have h' : k (.own p) (supd S p (.dK [] [])) := h p (q.freeS hp)
    exact kk F _ _ (.own p) _ Same.rfl' (q.newS (o := .dK [] []) hp ⟨[], rfl, rfl, rfl⟩) rfl h'
/-! what is walked -/
theorem si_seq {m : ME} {tg e : PySem.Expr} (he : PE X e (LE X.K (wE C g m))) : PI X tg e (LI X.K fun ρ S q => wA C g (.cons m .nil) ρ S fun vs S1 => itS .seq vs S1 fun l => q l S1) := PI.imp (pi_seq he) fun σ H R z => by
  obtain ⟨F, M, S, ρ, k, r, q, h, kk⟩ := z
  refine LE.bind r q h fun F1 S1 H1 x v e1 q1 rx r1 h1 => ?_
  have h2 : itS .seq [x] S1 fun l => k l S1 := h1
  cases x <;> first | cases h2 | skip
  · exact .inl ⟨_, rx, kk F1 S1 H1 _ _ e1 q1 ItOk.str h2⟩
  · obtain ⟨a, vs, rfl, t1, t2⟩ := rx
    exact .inr ⟨a, vs, rfl, .inr ⟨.inl (.inl (q1.f _ _ t1)), kk F1 S1 H1 _ _ e1 q1 (ItOk.tup (.inl (.inl t1)) t2) h2⟩⟩
  · obtain ⟨a, vs, rfl, t1, t2⟩ := rx
    exact .inr ⟨a, vs, rfl, .inl ⟨.inl (Same.rd q1.f t1), kk F1 S1 H1 _ _ e1 q1 (ItOk.list t1 t2) h2⟩⟩
  · obtain ⟨a, vs, rfl, t1, t2⟩ := rx
    exact .inr ⟨a, vs, rfl, .inr ⟨(TufAt.mono q1.f t1).sqT, kk F1 S1 H1 _ _ e1 q1 (ItOk.tup t1.sqT t2) h2⟩⟩
theorem si_rng1 (G : Good C g k N sc rs X) {as : MA} {tg e : PySem.Expr} {p pos : Pos} (hg : glE sc "range" = true) (ha : PA X [e] (LA X.K (wA C g as))) (hp : plE e = true) :
    PI X tg (.Call (.Name "range" p) [e] [] pos) (LI X.K fun ρ S q => wA C g as ρ S fun vs S1 => itS .rng1 vs S1 fun l => q l S1) := PI.imp (pi_range1 (G.gl_ hg).1 G.rng ha (pl_star hp [] X.env)) fun σ H R z => by
  obtain ⟨F, M, S, ρ, k, r, q, h, kk⟩ := z
  refine LA.bind r q h fun F1 S1 H1 x v e1 q1 rx r1 h1 => ?_
  unfold itS at h1
  split at h1 <;> first | (cases h1; done) | skip
  all_goals (rename_i e; first | (cases e; done) | skip)
  · obtain ⟨u, rfl, ru⟩ := RepL.one rx
    rw [show u = .int _ from ru]
    exact ⟨_, rfl, h1.1, h1.2.1, kk F1 S1 H1 _ _ e1 q1 ItOk.rng h1.2.2⟩
theorem si_rng2 (G : Good C g k N sc rs X) {as : MA} {tg e e2 : PySem.Expr} {p pos : Pos} (hg : glE sc "range" = true) (ha : PA X [e, e2] (LA X.K (wA C g as))) (hp : plE e = true) (hp2 : plE e2 = true) :
    PI X tg (.Call (.Name "range" p) [e, e2] [] pos) (LI X.K fun ρ S q => wA C g as ρ S fun vs S1 => itS .rng2 vs S1 fun l => q l S1) := PI.imp (pi_range2 (G.gl_ hg).1 G.rng ha ((pl_star hp _ X.env).trans (by rw [pl_star hp2 [] X.env]; rfl)) (pl_star hp2 [] X.env)) fun σ H R z => by
  obtain ⟨F, M, S, ρ, k, r, q, h, kk⟩ := z
  refine LA.bind r q h fun F1 S1 H1 x v e1 q1 rx r1 h1 => ?_
  unfold itS at h1
  split at h1 <;> first | (cases h1; done) | skip
  all_goals (rename_i e; first | (cases e; done) | skip)
  · obtain ⟨u, u2, rfl, ru, ru2⟩ := RepL.two rx
    rw [show u = .int _ from ru, show u2 = .int _ from ru2]
    exact ⟨_, _, rfl, h1.1, kk F1 S1 H1 _ _ e1 q1 ItOk.rng h1.2⟩
end
end Sy

namespace Sy
open PySem PySem.Spec PyProof.Rows L2
section
variable {C : Cal} {g : PySem.Str → Option SV} {k : Nat} {N : Ck} {sc rs : Scope} {X : Cx}
theorem tup_of {tg : PySem.Expr} (h : tupE tg = true) : ∃ es n p, tg = .Tuple es n p := by
  cases tg <;> first | (cases h; done) | exact ⟨_, _, _, rfl⟩
theorem si_enum (G : Good C g k N sc rs X) {as : MA} {tg e : PySem.Expr} {p pos : Pos} (hg : glE sc "enumerate" = true) (ha : PA X [e] (LA X.K (wA C g as))) (hp : plE e = true) (ht : tupE tg = true) :
    PI X tg (.Call (.Name "enumerate" p) [e] [] pos) (LI X.K fun ρ S q => wA C g as ρ S fun vs S1 => itS .enum vs S1 fun l => q l S1) := by
  obtain ⟨es, n, p3, rfl⟩ := tup_of ht
  refine PI.imp (pi_enA (G.gl_ hg).1 G.enu ha (pl_star hp [] X.env)) fun σ H R z => ?_
  obtain ⟨F, M, S, ρ, k, r, q, h, kk⟩ := z
  refine LA.bind r q h fun F1 S1 H1 x v e1 q1 rx r1 h1 => ?_
  unfold itS at h1
  split at h1 <;> first | (cases h1; done) | skip
  all_goals (rename_i e; first | (cases e; done) | skip)
  · obtain ⟨u, rfl, ru⟩ := RepL.one rx
    obtain ⟨a, vs, rfl, t1, t2⟩ := ru
    exact ⟨a, vs, rfl, .inl ⟨.inl (Same.rd q1.f t1), kk F1 S1 H1 _ _ e1 q1 (ItOk.enumL t1 t2) h1⟩⟩
  · obtain ⟨u, rfl, ru⟩ := RepL.one rx
    obtain ⟨a, vs, rfl, t1, t2⟩ := ru
    exact ⟨a, vs, rfl, .inr ⟨.inl (.inl (q1.f _ _ t1)), kk F1 S1 H1 _ _ e1 q1 (ItOk.enumT (.inl (.inl t1)) t2) h1⟩⟩
  · obtain ⟨u, rfl, ru⟩ := RepL.one rx
    obtain ⟨a, vs, rfl, t1, t2⟩ := ru
    exact ⟨a, vs, rfl, .inr ⟨(TufAt.mono q1.f t1).sqT, kk F1 S1 H1 _ _ e1 q1 (ItOk.enumT t1.sqT t2) h1⟩⟩
theorem si_zip (G : Good C g k N sc rs X) {as : MA} {tg e e2 : PySem.Expr} {p pos : Pos} (hg : glE sc "zip" = true) (ha : PA X [e, e2] (LA X.K (wA C g as))) (hp : plE e = true) (hp2 : plE e2 = true) (ht : tupE tg = true) :
    PI X tg (.Call (.Name "zip" p) [e, e2] [] pos) (LI X.K fun ρ S q => wA C g as ρ S fun vs S1 => itS .zip vs S1 fun l => q l S1) := by
  obtain ⟨es, n, p3, rfl⟩ := tup_of ht
  refine PI.imp (RZ.pi_zipA (G.gl_ hg).1 G.zip ha (pl_star hp _ X.env) (by rw [pl_star hp2 [] X.env]; rfl)) fun σ H R z => ?_
  obtain ⟨F, M, S, ρ, k, r, q, h, kk⟩ := z
  refine LA.bind r q h fun F1 S1 H1 x v e1 q1 rx r1 h1 => ?_
  unfold itS at h1
  split at h1 <;> first | (cases h1; done) | skip
  all_goals (rename_i e; first | (cases e; done) | skip)
  · obtain ⟨u, u2, rfl, ru, ru2⟩ := RepL.two rx
    obtain ⟨a, vs, rfl, t1, t2⟩ := ru
    obtain ⟨a2, vs2, rfl, t3, t4⟩ := ru2
    exact ⟨a, a2, vs, vs2, rfl, .inl ⟨.inl (Same.rd q1.f t1), .inl (Same.rd q1.f t3), kk F1 S1 H1 _ _ e1 q1 (ItOk.zipL t1 t2 t3 t4) h1⟩⟩
  · obtain ⟨u, u2, rfl, ru, ru2⟩ := RepL.two rx
    obtain ⟨a, vs, rfl, t1, t2⟩ := ru
    obtain ⟨a2, vs2, rfl, t3, t4⟩ := ru2
    exact ⟨a, a2, vs, vs2, rfl, .inr ⟨.inl (.inl (q1.f _ _ t1)), .inl (.inl (q1.f _ _ t3)), kk F1 S1 H1 _ _ e1 q1 (ItOk.zipT (.inl (.inl t1)) t2 (.inl (.inl t3)) t4) h1⟩⟩
  · obtain ⟨u, u2, rfl, ru, ru2⟩ := RepL.two rx
    obtain ⟨a, vs, rfl, t1, t2⟩ := ru
    obtain ⟨a2, vs2, rfl, t3, t4⟩ := ru2
    exact ⟨a, a2, vs, vs2, rfl, .inr ⟨(TufAt.mono q1.f t1).sqT, (TufAt.mono q1.f t3).sqT, kk F1 S1 H1 _ _ e1 q1 (ItOk.zipT t1.sqT t2 t3.sqT t4) h1⟩⟩
  · obtain ⟨u, u2, rfl, ru, ru2⟩ := RepL.two rx
    obtain ⟨a, vs, rfl, t1, t2⟩ := ru
    obtain ⟨a2, vs2, rfl, t3, t4⟩ := ru2
    exact ⟨a, a2, vs, vs2, rfl, .inr ⟨.inl (.inl (q1.f _ _ t1)), (TufAt.mono q1.f t3).sqT, kk F1 S1 H1 _ _ e1 q1 (ItOk.zipT (.inl (.inl t1)) t2 t3.sqT t4) h1⟩⟩
  · obtain ⟨u, u2, rfl, ru, ru2⟩ := RepL.two rx
    obtain ⟨a, vs, rfl, t1, t2⟩ := ru
    obtain ⟨a2, vs2, rfl, t3, t4⟩ := ru2
    exact ⟨a, a2, vs, vs2, rfl, .inr ⟨(TufAt.mono q1.f t1).sqT, .inl (.inl (q1.f _ _ t3)), kk F1 S1 H1 _ _ e1 q1 (ItOk.zipT t1.sqT t2 (.inl (.inl t3)) t4) h1⟩⟩

/-! ### targets -/
def gNms : List Nat → TGs
  | [] => gNil
  | i :: is => gCons (gName i) (gNms is)
def gTg (K : PySem.W.Frag) : MT → TG
  | .one i _ => gName i
  | .many l => fun v σ H Q => gTup K l.length (gNms (l.map Prod.fst)) v σ H Q ∨ gUnl K l.length (gNms (l.map Prod.fst)) v σ H Q
theorem Good.name (G : Good C g k N sc rs X) {i : Nat} {x : PySem.Str} {pos : Pos} (h : stE N.N rs i x = true) : PG X (.Name x pos) (gName i) := by
  unfold stE at h
  simp only [Bool.and_eq_true, decide_eq_true_eq] at h
  have hs : rs.names.lookup x = some .local ∨ rs.names.lookup x = some .cell := by
    have h2 := h.2
    split at h2
    · exact .inl (by assumption)
    · exact .inr (by assumption)
    · cases h2
  obtain ⟨q1, q2⟩ := G.st x hs
  exact pg_name (by rw [G.nN]; exact G.nd) (by rw [G.nN]; exact h.1) q1 q2
theorem gnms_ok (G : Good C g k N sc rs X) : ∀ {l : List (Nat × PySem.Str)} {es : List PySem.Expr}, l.length = es.length → ((l.zip es).all fun p => match p.2 with
    | .Name y _ => decide (p.1.2 = y) && stE N.N rs p.1.1 p.1.2
    | _ => false) = true → PGs X es (gNms (l.map Prod.fst)) ∧ (assignEach es X.env).length = l.length ∧ List.findIdx? (fun x => x.1) (assignEach es X.env) = none ∧ (∀ e ∈ es, ∃ x p, e = .Name x p)
  | [], [], _, _ => ⟨pgs_nil, rfl, rfl, fun _ h => by cases h⟩
  | [], _ :: _, h, _ => by cases h
  | _ :: _, [], h, _ => by cases h
  | (i, x) :: l, e :: es, hl, h => by
    rw [List.zip_cons_cons, List.all_cons, Bool.and_eq_true] at h
    obtain ⟨h1, h2⟩ := h
    obtain ⟨g1, g2, g3, g4⟩ := gnms_ok G (by simpa using hl) h2
    cases e <;> first | (cases h1; done) | skip
    rename_i y p
    simp only [Bool.and_eq_true, decide_eq_true_eq] at h1
    obtain ⟨rfl, h1⟩ := h1
    refine ⟨pgs_cons (G.name h1) g1 rfl, ?_, ?_, fun e he => ?_⟩
    · show (assignEach es X.env).length + 1 = l.length + 1
      rw [g2]
    · show List.findIdx? (fun x => x.1) ((false, _) :: assignEach es X.env) = none
      rw [List.findIdx?_cons]
      simp [g3]
    · rcases List.mem_cons.mp he with rfl | he
      · exact ⟨_, _, rfl⟩
      · exact g4 e he
theorem sg (G : Good C g k N sc rs X) : ∀ {t : MT} {e : PySem.Expr}, tgE N.N rs t e = true → PG X e (gTg X.K t) := by
  intro t e h
  cases t with
  | one i x =>
    cases e <;> first | (cases h; done) | skip
    rename_i y p
    have h' : (decide (x = y) && stE N.N rs i x) = true := h
    simp only [Bool.and_eq_true, decide_eq_true_eq] at h'
    obtain ⟨rfl, h'⟩ := h'
    exact G.name h'
  | many l =>
    cases e <;> first | (cases h; done) | skip
    rename_i es n p
    unfold tgE at h
    simp only [Bool.and_eq_true, decide_eq_true_eq] at h
    obtain ⟨g1, g2, g3, _⟩ := gnms_ok G h.1 h.2
    exact ⟨fun pins s σ H v u Q I r hw => hw.elim (fun hw => (pg_tup G.calm g1 g2 g3).run pins s σ H v u Q I r hw) fun hw => (pg_unl G.calm g1 g2 g3).run pins s σ H v u Q I r hw⟩
theorem setAll_ok {K : PySem.W.Frag} {F : Hp} {H : Hp} {Q : L2.St → Hp → Prop} : ∀ {is : List Nat} {xs : List SV} {vs : List V} {ρ ρ' : Ro} {σ : L2.St}, setAll is xs ρ = some ρ' → RepL K F xs vs → RepR K F ρ σ → (∀ σ', RepR K F ρ' σ' → Q σ' H) → gNms is vs σ H Q
  | [], [], vs, ρ, ρ', σ, h, r, rr, q => by
    cases (show some ρ = some ρ' from h)
    exact ⟨r, q σ rr⟩
  | i :: is, x :: xs, vs, ρ, ρ', σ, h, ⟨v, w, h1, h2, h3⟩, rr, q => by
    subst h1
    exact ⟨v, w, rfl, setAll_ok (is := is) (xs := xs) h h3 (rr.set i h2) q⟩
  | [], _ :: _, _, _, _, _, h, _, _, _ => by cases h
  | _ :: _, [], _, _, _, _, h, _, _, _ => by cases h
theorem setAll_len : ∀ {is : List Nat} {xs : List SV} {ρ ρ' : Ro}, setAll is xs ρ = some ρ' → is.length = xs.length
  | [], [], _, _, _ => rfl
  | i :: is, x :: xs, ρ, ρ', h => by
    rw [List.length_cons, List.length_cons, setAll_len (is := is) (xs := xs) h]
  | [], _ :: _, _, _, h => by cases h
  | _ :: _, [], _, _, h => by cases h
theorem tg_ok {K : PySem.W.Frag} {F M H : Hp} {S : Sto} {t : MT} {x : SV} {v : V} {ρ : Ro} {σ : L2.St} {kq : Ro → Prop} {Q : L2.St → Hp → Prop} (q : Sim K F M S H) (rv : RepV K F x v) (rr : RepR K F ρ σ) (h : tgS t S x ρ kq)
    (n : ∀ ρ' σ', RepR K F ρ' σ' → kq ρ' → Q σ' H) : gTg K t v σ H Q := by
  cases t with
  | one i y => exact n _ _ (rr.set i rv) h
  | many l =>
    obtain ⟨xs, ρ', ex, h1, h2⟩ := h
    have hl := setAll_len h1
    rw [List.length_map] at hl
    have tup : (∃ a vs, v = .ref a ∧ SqT K H a vs ∧ RepL K F xs vs) → gTg K (.many l) v σ H Q := fun ⟨a, vs, e, t1, t2⟩ => .inl ⟨a, vs, e, t1, by rw [← t2.length, ← hl], setAll_ok h1 t2 rr fun σ' r' => n ρ' σ' r' h2⟩
    rcases ex with rfl | rfl | ex
    · exact tup (tup_t q rv)
    · exact tup (tuf_t q rv)
    · obtain ⟨a, vs, rfl, t1, t2⟩ := items_l q rv ex
      exact .inr ⟨a, vs, rfl, t1, by rw [← t2.length, ← hl], setAll_ok h1 t2 rr fun σ' r' => n ρ' σ' r' h2⟩
/-- the wiped slots stay wiped -/
theorem wipe_set (σ : L2.St) (vs : List Nat) (i : Nat) (x : Option V) (hi : i ∈ vs) (σ2 : L2.St) (h : L2.wipe σ2 vs = L2.wipe σ vs) : L2.wipe (σ2.set i x) vs = L2.wipe σ vs := by
  rw [← h]
  clear h
  induction vs with
  | nil => cases hi
  | cons v vs ih =>
    show (L2.wipe (σ2.set i x) vs).set v none = (L2.wipe σ2 vs).set v none
    by_cases e : i ∈ vs
    · rw [ih e]
    · have ev : i = v := by
        rcases List.mem_cons.mp hi with e' | e'
        · exact e'
        · exact absurd e' e
      subst ev
      have comm : ∀ (us : List Nat), i ∉ us → L2.wipe (σ2.set i x) us = (L2.wipe σ2 us).set i x := by
        intro us
        induction us with
        | nil => intro _; rfl
        | cons u us ih2 =>
          intro hu
          show (L2.wipe (σ2.set i x) us).set u none = ((L2.wipe σ2 us).set u none).set i x
          rw [ih2 (fun z => hu (List.mem_cons_of_mem _ z)), List.set_comm _ _ (fun z : i = u => hu (by rw [z]; exact List.mem_cons_self))]
      rw [comm vs e, List.set_set]
theorem wipe_wipe (σ : L2.St) : ∀ vs : List Nat, L2.wipe (L2.wipe σ vs) vs = L2.wipe σ vs := fun vs => by
  have : ∀ us : List Nat, (∀ u ∈ us, u ∈ vs) → L2.wipe (L2.wipe σ us) vs = L2.wipe σ vs := by
    intro us
    induction us with
    | nil => intro _; rfl
    | cons u us ih =>
      intro hu
      exact wipe_set σ vs u none (hu u List.mem_cons_self) _ (ih fun z hz => hu z (List.mem_cons_of_mem _ hz))
  exact this vs fun _ h => h
theorem gnms_mono {H : Hp} {Q Q' : L2.St → Hp → Prop} {P : L2.St → Prop} : ∀ {is : List Nat} {vs : List V} {σ : L2.St}, P σ → (∀ σ i v, i ∈ is → P σ → P (σ.set i (some v))) → (∀ σ', P σ' → Q σ' H → Q' σ' H) → gNms is vs σ H Q → gNms is vs σ H Q'
  | [], vs, σ, p, _, n, h => ⟨h.1, n σ p h.2⟩
  | i :: is, vs, σ, p, s, n, ⟨v, w, h1, h2⟩ => ⟨v, w, h1, gnms_mono (is := is) (s σ i v List.mem_cons_self p) (fun σ j v hj => s σ j v (List.mem_cons_of_mem _ hj)) n h2⟩
theorem gtg_mono {K : PySem.W.Frag} {t : MT} {v : V} {σ : L2.St} {H : Hp} {Q Q' : L2.St → Hp → Prop} {P : L2.St → Prop} (p : P σ) (s : ∀ σ i v, i ∈ tgI t → P σ → P (σ.set i (some v))) (n : ∀ σ', P σ' → Q σ' H → Q' σ' H) (h : gTg K t v σ H Q) : gTg K t v σ H Q' := by
  cases t with
  | one i y => exact n _ (s σ i v (by simp [tgI]) p) h
  | many l =>
    rcases h with ⟨a, vs, h1, h2, h3, h4⟩ | ⟨a, vs, h1, h2, h3, h4⟩
    · exact .inl ⟨a, vs, h1, h2, h3, gnms_mono p s n h4⟩
    · exact .inr ⟨a, vs, h1, h2, h3, gnms_mono p s n h4⟩
/-! ### comprehensions -/
theorem se_lc (G : Good C g k N sc rs X) {own : Bool} {ow : List (PySem.Str × Nat)} {elt : ME} {t : MT} {ik : ItK} {ia : MA} {c : MO} {e tg iter : PySem.Expr} {ifs : List PySem.Expr} {scope : Scope}
    (hb : BlkOk N.N sc scope ow) (hw : ∀ i ∈ tgI t, i ∈ ow.map Prod.snd) (hi : PI X tg iter (LI X.K fun ρ S q => wA C g ia ρ S fun vs S1 => itS ik vs S1 fun l => q l S1)) (hf : ∀ x, foldedSetIterable iter X.env x = pure x)
    (hg : ∀ (s : Shared) (H : Hp) (Cc : Addr) (cl : List (PySem.Str × Addr)) (fp : List Addr), PG (X.blk s H scope (compEnvC scope cl Cc X.env) fp) tg (gTg X.K t))
    (hc : ∀ (s : Shared) (H : Hp) (Cc : Addr) (cl : List (PySem.Str × Addr)) (fp : List Addr), PTs (X.blk s H scope (compEnvC scope cl Cc X.env) fp) ifs (LT X.K (wC C g c)))
    (he : ∀ (s : Shared) (H : Hp) (Cc : Addr) (cl : List (PySem.Str × Addr)) (fp : List Addr), PE (X.blk s H scope (compEnvC scope cl Cc X.env) fp) e (LE X.K (wE C g elt))) :
    ∀ σ H Q, LE X.K (wE C g (.lc own ow elt t ik ia c)) σ H Q → tLc (LI X.K fun ρ S q => wA C g ia ρ S fun vs S1 => itS ik vs S1 fun l => q l S1) (gTg X.K t) (LT X.K (wC C g c)) (LE X.K (wE C g elt)) (ow.map Prod.snd) σ H Q := by
  intro σ H Q z
  obtain ⟨F, M, S, ρ, k, r, q, h, kk⟩ := z
  refine ⟨F, M, S, ρ, _, r, q, h, fun F1 S1 H1 l J e1 q1 hJ h1 => ?_⟩
  intro D hD
  have hMD : M D = none := q1.freeM hD
  have rw1 := (r.mono e1).wipe (ow.map Prod.snd)
  -- the turns left, the list so far, the data state
  refine ⟨fun i m H' => i + m = l.length ∧ ∃ (F' : Hp) (S' : Sto) (acc : List SV) (vs : List V), Same F1 F' ∧ Sim X.K F' (upd M D (.lst vs)) S' H' ∧ RepL X.K F' acc vs ∧
      lcRun t (wipeR ρ (ow.map Prod.snd)) (wC C g c) (wE C g elt) (l.drop i) acc S' (fun acc S2 => newL own acc S2 k),
    ⟨l.length, by omega, F1, S1, [], [], Same.rfl', q1.newM hD (fun vs e => by cases e), rfl, h1⟩, fun i m H' hW => ?_⟩
  obtain ⟨em, F', S', acc, vs, s1, q2, ra, h2⟩ := hW
  obtain ⟨j1, j2, j3⟩ := hJ F' _ S' H' s1 q2
  by_cases hlt : i < l.length
  · rw [List.drop_eq_getElem_cons hlt] at h2
    refine .inr ⟨j1 i hlt, fun H'' => ∃ (F' : Hp) (S' : Sto) (acc : List SV) (vs : List V), Same F1 F' ∧ Sim X.K F' (upd M D (.lst vs)) S' H'' ∧ RepL X.K F' acc vs ∧
      lcRun t (wipeR ρ (ow.map Prod.snd)) (wC C g c) (wE C g elt) (l.drop (i + 1)) acc S' (fun acc S2 => newL own acc S2 k), fun H'' hN => ⟨m - 1, by omega, by omega, hN⟩, fun x H'' hy => ?_⟩
    obtain ⟨F2, s2, q3, rx⟩ := j3 i _ (List.getElem?_eq_getElem hlt) x H'' hy
    have tgt := tg_ok q3 rx (rw1.mono (s1.trans s2)) h2 (Q := fun σ2 H2 => LT X.K (wC C g c) σ2 H2 fun b H3 => if b = true then LE X.K (wE C g elt) σ2 H3 fun y H4 => ∃ ac, H4 D = some (.lst ac) ∧ ac.length < sizeLine ∧ ∃ (F' : Hp) (S' : Sto) (acc : List SV) (vs : List V), Same F1 F' ∧ Sim X.K F' (upd M D (.lst vs)) S' (upd H4 D (.lst (ac ++ [y]))) ∧ RepL X.K F' acc vs ∧
      lcRun t (wipeR ρ (ow.map Prod.snd)) (wC C g c) (wE C g elt) (l.drop (i + 1)) acc S' (fun acc S2 => newL own acc S2 k) else ∃ (F' : Hp) (S' : Sto) (acc : List SV) (vs : List V), Same F1 F' ∧ Sim X.K F' (upd M D (.lst vs)) S' H3 ∧ RepL X.K F' acc vs ∧
      lcRun t (wipeR ρ (ow.map Prod.snd)) (wC C g c) (wE C g elt) (l.drop (i + 1)) acc S' (fun acc S2 => newL own acc S2 k)) (fun ρ' σ' rr hk => ?_)
    · refine gtg_mono (P := fun σ2 => L2.wipe σ2 (ow.map Prod.snd) = L2.wipe σ (ow.map Prod.snd)) ?_ ?_ (fun σ2 p2 hq => ⟨?_, hq⟩) tgt
      · exact wipe_wipe σ _
      · intro σ2 j v hj p2
        exact wipe_set σ _ j _ (hw j hj) σ2 p2
      · rw [p2]
    · refine ⟨F2, _, S', ρ', _, rr, q3, hk, fun F3 S3 H3 b s3 q4 hk3 => ?_⟩
      have s13 := (s1.trans s2).trans s3
      cases b with
      | false =>
        dsimp only at hk3 ⊢
        rw [if_neg Bool.false_ne_true] at hk3 ⊢
        exact ⟨F3, S3, acc, vs, s13, q4, RepL.mono (s2.trans s3) _ _ ra, hk3⟩
      | true =>
        dsimp only at hk3 ⊢
        rw [if_pos rfl] at hk3 ⊢
        refine ⟨F3, _, S3, ρ', _, rr.mono s3, q4, hk3, fun F4 S4 H4 y v s4 q5 ry hk4 => ?_⟩
        have s24 := (s2.trans s3).trans s4
        refine ⟨vs, (q5.m D _ upd_same).1, by rw [← ra.length]; exact hk4.1, F4, S4, acc ++ [y], vs ++ [v], s13.trans s4, q5.setM (fun vs e => by cases e), RepL.append (RepL.mono s24 _ _ ra) (RepL.single ry), hk4.2⟩
  · have hi' : i = l.length := by omega
    subst hi'
    rw [List.drop_length] at h2
    refine .inl ⟨j2, ?_⟩
    have h3 : newL own acc S' k := h2
    obtain ⟨h4, h5⟩ := h3
    cases own with
    | true =>
      have h6 : ∀ p, S' p = none → k (.own p) (supd S' p (.lst acc)) := by simpa using h5
      exact kk F' _ H' (.own D) _ (e1.trans s1) (q2.ownM (x := .lst acc) hMD ⟨vs, rfl, ra⟩) rfl (h6 D (q2.m D _ upd_same).2.2.1)
    | false =>
      have h6 : k (.lst acc) S' := by simpa using h5
      obtain ⟨t1, t2⟩ := q2.freezeM hMD
      exact kk _ S' H' (.lst acc) _ ((e1.trans s1).trans t1) t2 ⟨D, vs, rfl, .inl upd_same, RepL.mono t1 _ _ ra⟩ h6

/-! ### conditions and tests -/
theorem LT.ofB {K : PySem.W.Frag} {m : ME} {σ : L2.St} {H : Hp} {Q : Bool → Hp → Prop} (z : LT K (wT C g m) σ H Q) : LE K (wE C g m) σ H fun x H1 => ∃ c, x = V.bl c ∧ Q c H1 := by
  obtain ⟨F, M, S, ρ, k, r, q, h, kk⟩ := z
  refine LE.bind r q h fun F1 S1 H1 x v e1 q1 rx r1 h1 => ?_
  obtain ⟨b, rfl, h1⟩ := h1
  exact ⟨b, rx, kk F1 S1 H1 b e1 q1 h1⟩
theorem st_val {m : ME} {e : PySem.Expr} (he : PE X e (LE X.K (wE C g m))) (hp : plE e = true) (hb : boE e = false) : PT X e (LT X.K (wT C g m)) := PT.imp (pt_val he (pl_tru hp hb X.env)) fun _ _ _ z => LT.ofB z
theorem st_cmp (G : Good C g k N sc rs X) {o : CmpOp} {a b : ME} {l r : PySem.Expr} {pos : Pos} (ha : PE X l (LE X.K (wE C g a))) (hb : PE X r (LE X.K (wE C g b))) (hp : plE r = true) : PT X (.Compare l [o] [r] pos) (LT X.K (wT C g (.cmp o a b))) :=
  PT.imp (pt_cmpR (op_cmpS G.room o) ha hb (pl_mark hp o)) fun σ H Q z => le_cmp (LT.ofB z)
theorem st_chain (G : Good C g k N sc rs X) {o o2 : CmpOp} {a b c : ME} {l m r : PySem.Expr} {pos : Pos} (ha : PE X l (LE X.K (wE C g a))) (hb : PE X m (LE X.K (wE C g b))) (hc : PE X r (LE X.K (wE C g c))) (hp : plE r = true) :
    PT X (.Compare l [o, o2] [m, r] pos) (LT X.K (wT C g (.chain o o2 a b c))) := PT.imp (pt_chain (op_cmpS G.room o) (op_cmpS G.room o2) ha hb hc (last_marks hp)) fun σ H Q z => le_chain (LT.ofB z)
theorem LT.bind {K : PySem.W.Frag} {t : Ro → Sto → (Bool → Sto → Prop) → Prop} {F M H : Hp} {S : Sto} {ρ : Ro} {σ : L2.St} {kq : Bool → Sto → Prop} {Q : Bool → Hp → Prop} (r : RepR K F ρ σ) (q : Sim K F M S H) (h : t ρ S kq)
    (n : ∀ F' S' H' b, Same F F' → Sim K F' M S' H' → RepR K F' ρ σ → kq b S' → Q b H') : LT K t σ H Q :=
  ⟨F, M, S, ρ, kq, r, q, h, fun F' S' H' b e q' z => n F' S' H' b e q' (r.mono e) z⟩
theorem st_not {a : ME} {e : PySem.Expr} {pos : Pos} (ha : PT X e (LT X.K (wT C g a))) : PT X (.UnaryOp .Not e pos) (LT X.K (wT C g (.not a))) := PT.imp (pt_not ha) fun σ H Q z => by
  obtain ⟨F, M, S, ρ, k, r, q, h, kk⟩ := z
  refine ⟨F, M, S, ρ, fun b S1 => k (!b) S1, r, q, ?_, fun F1 S1 H1 b e1 q1 h1 => kk F1 S1 H1 _ e1 q1 h1⟩
  have h' : wE C g a ρ S fun x S1 => ∃ q, x = .bl q ∧ ∃ b, SV.bl (!q) = .bl b ∧ k b S1 := h
  have e : (fun (x : SV) (S1 : Sto) => ∃ q, x = .bl q ∧ ∃ b, SV.bl (!q) = .bl b ∧ k b S1) = fun v S1 => ∃ b, v = .bl b ∧ k (!b) S1 := by
    funext x S1
    refine propext ⟨fun ⟨q, e1, b, e2, z⟩ => ⟨q, e1, by cases e2; exact z⟩, fun ⟨q, e1, z⟩ => ⟨q, e1, _, rfl, z⟩⟩
  rw [e] at h'
  exact h'
theorem w_and {a b : ME} {ρ : Ro} {S : Sto} {kq : Bool → Sto → Prop} (h : wT C g (.and a b) ρ S kq) : wT C g a ρ S fun p S1 => if p = true then wT C g b ρ S1 kq else kq false S1 := by
  have h' : wE C g a ρ S fun x S1 => ∃ q, x = .bl q ∧ if q = true then wE C g b ρ S1 (fun v S2 => ∃ c, v = .bl c ∧ kq c S2) else ∃ c, SV.bl false = .bl c ∧ kq c S1 := h
  have e : (fun (x : SV) (S1 : Sto) => ∃ q, x = .bl q ∧ if q = true then wE C g b ρ S1 (fun v S2 => ∃ c, v = .bl c ∧ kq c S2) else ∃ c, SV.bl false = .bl c ∧ kq c S1) = fun v S1 => ∃ p, v = .bl p ∧ if p = true then wT C g b ρ S1 kq else kq false S1 := by
    funext x S1
    refine propext ⟨fun ⟨q, e1, z⟩ => ⟨q, e1, ?_⟩, fun ⟨q, e1, z⟩ => ⟨q, e1, ?_⟩⟩
    · cases q with
      | true => exact z
      | false =>
        rw [if_neg Bool.false_ne_true] at z ⊢
        obtain ⟨c, e2, z⟩ := z
        cases e2
        exact z
    · cases q with
      | true => exact z
      | false =>
        rw [if_neg Bool.false_ne_true] at z ⊢
        exact ⟨_, rfl, z⟩
  rw [e] at h'
  exact h'
theorem w_or {a b : ME} {ρ : Ro} {S : Sto} {kq : Bool → Sto → Prop} (h : wT C g (.or a b) ρ S kq) : wT C g a ρ S fun p S1 => if p = true then kq true S1 else wT C g b ρ S1 kq := by
  have h' : wE C g a ρ S fun x S1 => ∃ q, x = .bl q ∧ if q = true then ∃ c, SV.bl true = .bl c ∧ kq c S1 else wE C g b ρ S1 (fun v S2 => ∃ c, v = .bl c ∧ kq c S2) := h
  have e : (fun (x : SV) (S1 : Sto) => ∃ q, x = .bl q ∧ if q = true then ∃ c, SV.bl true = .bl c ∧ kq c S1 else wE C g b ρ S1 (fun v S2 => ∃ c, v = .bl c ∧ kq c S2)) = fun v S1 => ∃ p, v = .bl p ∧ if p = true then kq true S1 else wT C g b ρ S1 kq := by
    funext x S1
    refine propext ⟨fun ⟨q, e1, z⟩ => ⟨q, e1, ?_⟩, fun ⟨q, e1, z⟩ => ⟨q, e1, ?_⟩⟩
    · cases q with
      | false => exact z
      | true =>
        rw [if_pos rfl] at z ⊢
        obtain ⟨c, e2, z⟩ := z
        cases e2
        exact z
    · cases q with
      | false => exact z
      | true =>
        rw [if_pos rfl] at z ⊢
        exact ⟨_, rfl, z⟩
  rw [e] at h'
  exact h'
theorem sw_one {a : ME} {e : PySem.Expr} {pos : Pos} {op : BoolOp} (ha : PT X e (LT X.K (wT C g a))) : PW X (.BoolOp op [e] pos) (LT X.K (wT C g a)) := by
  cases op with
  | And => exact pw_and1 ha
  | Or => exact pw_or1 ha
theorem sw_and {a b : ME} {e e2 : PySem.Expr} {rest : List PySem.Expr} {pos : Pos} (ha : PT X e (LT X.K (wT C g a))) (hb : PW X (.BoolOp .And (e2 :: rest) pos) (LT X.K (wT C g b))) : PW X (.BoolOp .And (e :: e2 :: rest) pos) (LT X.K (wT C g (.and a b))) := PW.imp (pw_and ha hb) fun σ H Q z => by
  obtain ⟨F, M, S, ρ, k, r, q, h, kk⟩ := z
  refine LT.bind r q (w_and h) fun F1 S1 H1 p e1 q1 r1 h1 => ?_
  cases p with
  | true => exact ⟨F1, M, S1, ρ, k, r1, q1, h1, fun F' S' H' b e q' z => kk F' S' H' b (e1.trans e) q' z⟩
  | false => exact kk F1 S1 H1 false e1 q1 h1
theorem sw_or {a b : ME} {e e2 : PySem.Expr} {rest : List PySem.Expr} {pos : Pos} (ha : PT X e (LT X.K (wT C g a))) (hb : PW X (.BoolOp .Or (e2 :: rest) pos) (LT X.K (wT C g b))) : PW X (.BoolOp .Or (e :: e2 :: rest) pos) (LT X.K (wT C g (.or a b))) := PW.imp (pw_or ha hb) fun σ H Q z => by
  obtain ⟨F, M, S, ρ, k, r, q, h, kk⟩ := z
  refine LT.bind r q (w_or h) fun F1 S1 H1 p e1 q1 r1 h1 => ?_
  cases p with
  | false => exact ⟨F1, M, S1, ρ, k, r1, q1, h1, fun F' S' H' b e q' z => kk F' S' H' b (e1.trans e) q' z⟩
  | true => exact kk F1 S1 H1 true e1 q1 h1
theorem sc_none : PTs X [] (LT X.K (wC C g .none)) := by
  refine ⟨fun pins s σ H Q I z => pts_nil.run pins s σ H Q I ?_⟩
  obtain ⟨F, M, S, ρ, k, r, q, h, kk⟩ := z
  exact kk F S H true Same.rfl' q h
theorem sc_some {m : ME} {e : PySem.Expr} (he : PT X e (LT X.K (wT C g m))) : PTs X [e] (LT X.K (wC C g (.some m))) := pts_one he
end
end Sy

/-! instances: fields, methods, new ones; dicts whose keys are tuples: pop, len, one written -/
namespace Sy
open PySem PySem.Spec PyProof.Rows L2
section
variable {K : PySem.W.Frag} {F M H : Hp} {S : Sto}
theorem RepF.none {m : PySem.Str} : ∀ {l : List (PySem.Str × SV)} {gs : List (PySem.Str × V)}, RepF K F l gs → l.lookup m = Option.none → gs.lookup m = Option.none
  | [], _, h, _ => by rw [show _ = ([] : List (PySem.Str × V)) from h]; rfl
  | p :: l, _, ⟨v, r, h1, h2, h3⟩, h => by
    subst h1
    rw [List.lookup_cons] at h ⊢
    cases e : m == p.1 with
    | true => rw [e] at h; cases h
    | false =>
      rw [e] at h
      exact RepF.none h3 h
theorem RepF.put {f : PySem.Str} {x : SV} {v : V} (rv : RepV K F x v) : ∀ {l : List (PySem.Str × SV)} {gs : List (PySem.Str × V)}, RepF K F l gs → RepF K F (putFS f x l) (putF f v gs)
  | [], _, h => by
    rw [show _ = ([] : List (PySem.Str × V)) from h]
    exact ⟨v, [], rfl, rv, rfl⟩
  | p :: l, _, ⟨w, r, h1, h2, h3⟩ => by
    subst h1
    obtain ⟨g, y⟩ := p
    show RepF K F (if g = f then (g, x) :: l else (g, y) :: putFS f x l) (if g = f then (g, v) :: r else (g, w) :: putF f v r)
    by_cases e : g = f
    · rw [if_pos e, if_pos e]
      exact ⟨v, r, rfl, rv, h3⟩
    · rw [if_neg e, if_neg e]
      exact ⟨w, _, rfl, h2, RepF.put rv h3⟩
theorem RepF.len : ∀ {l : List (PySem.Str × SV)} {gs : List (PySem.Str × V)}, RepF K F l gs → l.length = gs.length
  | [], _, h => by rw [show _ = ([] : List (PySem.Str × V)) from h]; rfl
  | p :: l, _, ⟨w, r, h1, h2, h3⟩ => by
    rw [h1, List.length_cons, List.length_cons, RepF.len h3]
end
section
variable {C : Cal} {g : PySem.Str → Option SV} {k : Nat} {N : Ck} {sc rs : Scope} {X : Cx}
/-! dicts whose keys are tuples -/
end
end Sy

/-! tables of sets whose masks are any power of two less one -/
namespace Sy
open PySem PySem.Spec PyProof.Rows L2
/-! ### i -> 5 i + 1 goes round modulo each power of two -/
def fv (i : Nat) : Nat → Nat
  | 0 => i
  | n + 1 => fv i n * 5 + 1
theorem fv_at (i : Nat) : ∀ n, fv i n = i + (4 * i + 1) * fv 0 n
  | 0 => by show i = i + (4 * i + 1) * 0; omega
  | n + 1 => by
    have ih := fv_at i n
    show fv i n * 5 + 1 = i + (4 * i + 1) * (fv 0 n * 5 + 1)
    rw [Nat.mul_add, Nat.mul_one, ← Nat.mul_assoc]
    omega
theorem fv_add (a : Nat) : ∀ d, fv 0 (a + d) = fv 0 a + (4 * fv 0 a + 1) * fv 0 d
  | 0 => by show fv 0 a = fv 0 a + (4 * fv 0 a + 1) * 0; omega
  | d + 1 => by
    have ih := fv_add a d
    show fv 0 (a + d) * 5 + 1 = fv 0 a + (4 * fv 0 a + 1) * (fv 0 d * 5 + 1)
    rw [Nat.mul_add, Nat.mul_one, ← Nat.mul_assoc]
    omega
theorem fv_odd : ∀ n, fv 0 n % 2 = n % 2
  | 0 => rfl
  | n + 1 => by
    have ih := fv_odd n
    show (fv 0 n * 5 + 1) % 2 = (n + 1) % 2
    omega
theorem odd_dvd (c : Nat) : ∀ k a : Nat, 2 ^ k ∣ a * (2 * c + 1) → 2 ^ k ∣ a
  | 0, a, _ => ⟨a, by simp⟩
  | k + 1, a, h => by
    obtain ⟨q, hq⟩ := h
    have e1 : a * (2 * c + 1) = 2 * (a * c) + a := by rw [Nat.mul_add, Nat.mul_one, Nat.mul_left_comm]
    have e2 : 2 ^ (k + 1) * q = 2 * (2 ^ k * q) := by rw [Nat.pow_succ, Nat.mul_comm (2 ^ k) 2, Nat.mul_assoc]
    have ha : a % 2 = 0 := by omega
    obtain ⟨b, hb⟩ : ∃ b, a = 2 * b := ⟨a / 2, by omega⟩
    have e3 : a * (2 * c + 1) = 2 * (b * (2 * c + 1)) := by rw [hb, Nat.mul_assoc]
    obtain ⟨r, hr⟩ := odd_dvd c k b ⟨q, by omega⟩
    exact ⟨r, by rw [hb, hr, Nat.pow_succ, Nat.mul_comm (2 ^ k) 2, Nat.mul_assoc]⟩
theorem fv_dvd : ∀ k n : Nat, 2 ^ k ∣ fv 0 n → 2 ^ k ∣ n
  | 0, n, _ => ⟨n, by simp⟩
  | k + 1, n, h => by
    obtain ⟨q, hq⟩ := h
    have e2 : 2 ^ (k + 1) * q = 2 * (2 ^ k * q) := by rw [Nat.pow_succ, Nat.mul_comm (2 ^ k) 2, Nat.mul_assoc]
    have ho := fv_odd n
    obtain ⟨b, hb⟩ : ∃ b, n = b + b := ⟨n / 2, by omega⟩
    have e3 : fv 0 n = 2 * (fv 0 b * (2 * fv 0 b + 1)) := by
      have z := fv_add b b
      have y : (4 * fv 0 b + 1) * fv 0 b = 4 * (fv 0 b * fv 0 b) + fv 0 b := by rw [Nat.add_mul, Nat.one_mul, Nat.mul_assoc]
      have x : fv 0 b * (2 * fv 0 b + 1) = 2 * (fv 0 b * fv 0 b) + fv 0 b := by rw [Nat.mul_add, Nat.mul_one, Nat.mul_left_comm]
      rw [← hb] at z
      omega
    obtain ⟨r, hr⟩ := fv_dvd k b (odd_dvd (fv 0 b) k (fv 0 b) ⟨q, by omega⟩)
    exact ⟨r, by rw [hb, Nat.pow_succ, Nat.mul_comm (2 ^ k) 2, Nat.mul_assoc, ← hr]; omega⟩
theorem fv_inj {k i a d : Nat} (h : fv i (a + d) % 2 ^ k = fv i a % 2 ^ k) (hd : d < 2 ^ k) : d = 0 := by
  have e : fv i (a + d) = fv i a + fv 0 d * (2 * (2 * fv 0 a) + 1) * (2 * (2 * i) + 1) := by
    rw [fv_at i (a + d), fv_at i a, fv_add, Nat.mul_add, Nat.add_assoc, show 2 * (2 * fv 0 a) + 1 = 4 * fv 0 a + 1 by omega, show 2 * (2 * i) + 1 = 4 * i + 1 by omega, Nat.mul_comm (fv 0 d) (4 * fv 0 a + 1), Nat.mul_comm ((4 * fv 0 a + 1) * fv 0 d) (4 * i + 1)]
  have h2 : 2 ^ k ∣ fv 0 d * (2 * (2 * fv 0 a) + 1) * (2 * (2 * i) + 1) := by
    rw [e] at h
    have h3 := Nat.sub_mod_eq_zero_of_mod_eq h
    rw [Nat.add_sub_cancel_left] at h3
    exact Nat.dvd_of_mod_eq_zero h3
  obtain ⟨q, hq⟩ := fv_dvd k d (odd_dvd _ k _ (odd_dvd _ k _ h2))
  cases q with
  | zero => rw [hq, Nat.mul_zero]
  | succ q =>
    rw [hq, Nat.mul_succ] at hd
    omega
theorem lcg_fv (m i : Nat) (hi : i ≤ m) : ∀ n, lcgI m i n = fv i n % (m + 1)
  | 0 => (Nat.mod_eq_of_lt (Nat.lt_succ_of_le hi)).symm
  | n + 1 => by
    show (lcgI m i n * 5 + 1) % (m + 1) = (fv i n * 5 + 1) % (m + 1)
    rw [lcg_fv m i hi n, Nat.add_mod, Nat.mul_mod, Nat.mod_mod, ← Nat.mul_mod, ← Nat.add_mod]
/-- a mask: a power of two less one -/
def Msk (m : Nat) : Prop := ∃ k, m + 1 = 2 ^ (k + 1)
theorem Msk.odd {m : Nat} : Msk m → m % 2 = 1
  | ⟨k, e⟩ => by rw [Nat.pow_succ] at e; omega
theorem Msk.round {m : Nat} (hm : Msk m) {i j : Nat} (hi : i ≤ m) (hj : j ≤ m) : ∃ n, n ≤ m ∧ lcgI m i n = j := by
  obtain ⟨k, hk⟩ := hm
  rcases Classical.em (j ∈ (List.range (m + 1)).map fun n => fv i n % (m + 1)) with c | c
  · obtain ⟨n, hn, e⟩ := List.mem_map.mp c
    exact ⟨n, Nat.le_of_lt_succ (List.mem_range.mp hn), (lcg_fv m i hi n).trans e⟩
  · exfalso
    have nd : ((List.range (m + 1)).map fun n => fv i n % (m + 1)).Nodup := by
      refine List.pairwise_map.mpr (List.Pairwise.imp_of_mem (fun {a b} ha hb (lt : a < b) e => ?_) List.pairwise_lt_range)
      have hb' := List.mem_range.mp hb
      have e' : fv i (a + (b - a)) % 2 ^ (k + 1) = fv i a % 2 ^ (k + 1) := by
        rw [show a + (b - a) = b by omega, ← hk]
        exact e.symm
      have := fv_inj e' (by rw [← hk]; omega)
      omega
    have z := nat_nodup_len (j :: (List.range (m + 1)).map fun n => fv i n % (m + 1)) (List.range (m + 1)) (List.nodup_cons.mpr ⟨c, nd⟩) fun x hx => by
      rcases List.mem_cons.mp hx with e | hx
      · rw [e]; exact List.mem_range.mpr (Nat.lt_succ_of_le hj)
      · obtain ⟨n, _, e⟩ := List.mem_map.mp hx
        rw [← e]
        exact List.mem_range.mpr (Nat.mod_lt _ (Nat.succ_pos _))
    rw [List.length_cons, List.length_map, List.length_range] at z
    omega
theorem Msk.meets {m : Nat} (hm : Msk m) (h : Int) {j : Nat} (hj : j ≤ m) : ∃ n, n ≤ m + 12 ∧ runI m (SetTable.bits h) n = j := by
  obtain ⟨k, hk, e⟩ := hm.round (runI_le m (SetTable.bits h) 12) hj
  refine ⟨12 + k, by omega, ?_⟩
  rw [runI_tail (bits_lt h), e]
theorem Msk.nth {m : Nat} (hm : Msk m) (h : Int) {j : Nat} (hj : j ≤ m) : ∃ k, k < 10 * SetTable.turns m ∧ way m h k = j := by
  obtain ⟨n, hn, e⟩ := hm.meets h hj
  obtain ⟨k, hk, e2⟩ := run_nth m (SetTable.bits h) n
  have ht : SetTable.turns m = m + 15 := rfl
  exact ⟨k, by omega, (congrArg SetTable.Probe.j e2).trans e⟩
theorem way_in (m : Nat) (h : Int) (k : Nat) : way m h k ≤ m := by
  have hi : SetTable.bits h % (m + 1) < m + 1 := Nat.mod_lt _ (Nat.succ_pos _)
  have r := runEnd_bd (Nat.le_of_lt_succ hi)
  have q : (runAt m (SetTable.bits h % (m + 1)) (SetTable.bits h)).j + (runAt m (SetTable.bits h % (m + 1)) (SetTable.bits h)).more ≤ m := by
    simp only [runAt]
    omega
  exact Nat.le_trans (Nat.le_add_right _ _) (nth_in k _ q)
/-! ### the table -/
structure Tb (t : SetTable) (hs : List Int) : Prop where
  ris : Ris t.place.toList
  none : t.dummies = #[]
  many : t.place.size = hs.length
  msk : Msk t.mask
  found : ∀ (i : Nat) (h : Int) (j : Nat), hs[i]? = some h → t.place.toList[i]? = some j → ∃ k, way t.mask h k = j ∧ ∀ q, q < k → way t.mask h q ∈ t.place.toList
theorem Tb.first {t : SetTable} {hs : List Int} (T : Tb t hs) (hl : hs.length ≤ t.mask) (h : Int) : ∃ K, K < 10 * SetTable.turns t.mask ∧ way t.mask h K ∉ t.place.toList ∧ ∀ k, k < K → way t.mask h k ∈ t.place.toList := by
  have few : t.place.toList.length < t.mask + 1 := by have := T.many; rw [Array.length_toList]; omega
  obtain ⟨j, hj, no⟩ := st_missing _ _ few
  obtain ⟨k, hk, e⟩ := T.msk.nth h (Nat.le_of_lt_succ hj)
  obtain ⟨K, h1, h2, h3⟩ := st_least (p := fun k => ¬ way t.mask h k ∈ t.place.toList) k (show ¬ way t.mask h k ∈ t.place.toList by rw [e]; exact no)
  exact ⟨K, by omega, h2, fun q hq => Classical.byContradiction fun c => h3 q hq c⟩
theorem Tb.ahead {t : SetTable} {hs : List Int} (T : Tb t hs) {h : Int} {K i j : Nat} (hK : way t.mask h K ∉ t.place.toList) (hi : hs[i]? = some h) (hj : t.place.toList[i]? = some j) : ∃ k, k < K ∧ way t.mask h k = j := by
  obtain ⟨k, e, b⟩ := T.found i h j hi hj
  refine ⟨k, Classical.byContradiction fun c => ?_, e⟩
  rcases Nat.lt_or_ge K k with c2 | c2
  · exact hK (b K c2)
  · have : k = K := by omega
    subst this
    exact hK (by rw [e]; exact List.mem_of_getElem? hj)
theorem Tb.put {t : SetTable} {hs : List Int} (T : Tb t hs) {h : Int} {K : Nat} (hK : way t.mask h K ∉ t.place.toList) (hb : ∀ k, k < K → way t.mask h k ∈ t.place.toList) :
    SetTable.below t.place (way t.mask h K) ≤ hs.length ∧ Tb (t.put (way t.mask h K)).1 (hs.take (SetTable.below t.place (way t.mask h K)) ++ h :: hs.drop (SetTable.below t.place (way t.mask h K))) ∧ (t.put (way t.mask h K)).1.fill = hs.length + 1 := by
  generalize ej : way t.mask h K = j at hK
  obtain ⟨c1, _, _⟩ := below_cut T.ris j
  have hm := T.many
  have lp : SetTable.below t.place j ≤ hs.length := by rw [← hm]; exact c1
  have lq : SetTable.below t.place j ≤ t.place.toList.length := c1
  have nj : t.place[SetTable.below t.place j]? ≠ some j := fun e => hK (List.mem_of_getElem? (i := SetTable.below t.place j) (by rw [Array.getElem?_toList, e]))
  have pl := put_place t j
  have sz : (t.put j).1.place.size = hs.length + 1 := by
    have := congrArg List.length pl
    rw [len_ins _ lq, Array.length_toList, Array.length_toList, hm] at this
    exact this
  have sub : ∀ x, x ∈ t.place.toList → x ∈ (t.put j).1.place.toList := fun x hx => by rw [pl]; exact mem_ins.2 (.inr hx)
  have dm := put_dm T.none j
  refine ⟨lp, ⟨ris_insert T.ris nj, dm, by rw [sz, len_ins hs lp], T.msk, fun i h' j' a1 a2 => ?_⟩, by
    show (t.put j).1.place.size + (t.put j).1.dummies.size = _
    rw [sz, dm]
    rfl⟩
  rw [pl, tins_get _ lq] at a2
  rw [tins_get hs lp] at a1
  have from_ : ∀ q : Nat, hs[q]? = some h' → t.place.toList[q]? = some j' → ∃ k, way (t.put j).1.mask h' k = j' ∧ ∀ q, q < k → way (t.put j).1.mask h' q ∈ (t.put j).1.place.toList := fun q b1 b2 => by
    obtain ⟨k, e, z⟩ := T.found q h' j' b1 b2
    exact ⟨k, e, fun q hq => sub _ (z q hq)⟩
  rcases Nat.lt_trichotomy i (SetTable.below t.place j) with c | c | c
  · simp only [if_pos c] at a1 a2
    exact from_ i a1 a2
  · have c' : ¬ i < SetTable.below t.place j := by omega
    simp only [if_neg c', if_pos c] at a1 a2
    cases a1
    cases a2
    exact ⟨K, ej, fun q hq => sub _ (hb q hq)⟩
  · have c' : ¬ i < SetTable.below t.place j := by omega
    have c2 : ¬ i = SetTable.below t.place j := by omega
    simp only [if_neg c', if_neg c2] at a1 a2
    exact from_ (i - 1) a1 a2
theorem seat_free {m : Nat} (hm : Msk m) (o : Array (Option Nat)) (h : Int) {j : Nat} (hj : j ≤ m) (hf : oAt o j = none) :
    ∃ K, SetTable.layClean.free m o (SetTable.turns m) (SetTable.bits h % (m + 1)) (SetTable.bits h) = some (way m h K) ∧ oAt o (way m h K) = none ∧ ∀ k, k < K → oAt o (way m h k) ≠ none := by
  obtain ⟨n, hn, e⟩ := hm.meets h hj
  have at_ : way m h (off m (SetTable.bits h % (m + 1)) (SetTable.bits h) n) = j := (congrArg SetTable.Probe.j (nth_off m n _ _)).trans (by rw [itL_run]; exact e)
  obtain ⟨K, k1, k2, k3⟩ := st_least (p := fun k => oAt o (way m h k) = none) _ (show oAt o (way m h (off m (SetTable.bits h % (m + 1)) (SetTable.bits h) n)) = none by rw [at_, hf])
  have ht : SetTable.turns m = m + 15 := rfl
  refine ⟨K, free_spec m o (SetTable.turns m) n _ _ K (by omega) k1 (fun k hk => Option.isNone_eq_false_iff.mpr (Option.isSome_iff_ne_none.mpr (k3 k hk))) ?_, k2, k3⟩
  rw [show oAt o (way m h K) = none from k2]
  rfl
theorem seat_next {m : Nat} (hm : Msk m) {d : List Int} {o : Array (Option Nat)} (W : Own m d o) (hl : d.length ≤ m) (h : Int) :
    ∃ j, SetTable.layClean.free m o (SetTable.turns m) (SetTable.bits h % (m + 1)) (SetTable.bits h) = some j ∧ Own m (d ++ [h]) (o.setIfInBounds j (some d.length)) := by
  obtain ⟨w1, w2, w3, ps, w4, w5⟩ := W
  obtain ⟨x, hx, nx⟩ := st_missing ps (m + 1) (by omega)
  have fx : oAt o x = none := Classical.byContradiction fun c => nx (w5 x (by omega) c)
  obtain ⟨K, e1, e2, e3⟩ := seat_free hm o h (Nat.le_of_lt_succ hx) fx
  have le := way_in m h K
  generalize ej : way m h K = j at e1 e2 le
  have new := oAt_set_self (some d.length) (show j < o.size by omega)
  have old : ∀ i, i ≠ j → oAt (o.setIfInBounds j (some d.length)) i = oAt o i := fun i c => oAt_set_ne _ c
  have up : ∀ i, oAt o i ≠ none → oAt (o.setIfInBounds j (some d.length)) i ≠ none := fun i c => by
    rw [old i (fun z => c (by rw [z]; exact e2))]
    exact c
  refine ⟨j, e1, ⟨by simp [w1], fun i k hi e => ?_, fun k hk => ?_, j :: ps, by simp [w4], fun i hi e => ?_⟩⟩
  · by_cases c : i = j
    · rw [c, new] at e
      cases e
      exact ⟨h, K, by simp, ej.trans c.symm, fun q hq => up _ (e3 q hq)⟩
    · rw [old i c] at e
      obtain ⟨h', K', a1, a2, a3⟩ := w2 i k hi e
      have lt := (List.getElem?_eq_some_iff.mp a1).1
      exact ⟨h', K', by rw [List.getElem?_append_left lt, a1], a2, fun q hq => up _ (a3 q hq)⟩
  · rcases Nat.lt_or_ge k d.length with c | c
    · obtain ⟨i, hi, e⟩ := w3 k c
      exact ⟨i, hi, by rw [old i (fun z => by rw [z, e2] at e; cases e), e]⟩
    · have : k = d.length := by simp at hk; omega
      subst this
      exact ⟨j, le, new⟩
  · by_cases c : i = j
    · simp [c]
    · rw [old i c] at e
      exact List.mem_cons_of_mem _ (w5 i hi e)
theorem seats {m : Nat} (hm : Msk m) : ∀ (r d : List Int) (o : Array (Option Nat)), Own m d o → d.length + r.length ≤ m →
    ∃ o', r.foldl (stepF m) (some (o, d.length)) = some (o', (d ++ r).length) ∧ Own m (d ++ r) o'
  | [], d, o, W, _ => ⟨o, by simp, by simpa using W⟩
  | h :: r, d, o, W, hl => by
    have hl' : d.length + (r.length + 1) ≤ m := hl
    obtain ⟨j, e, W'⟩ := seat_next hm W (by omega) h
    obtain ⟨o', f, W2⟩ := seats hm r (d ++ [h]) _ W' (by simp; omega)
    refine ⟨o', ?_, by simpa using W2⟩
    have f' : r.foldl (stepF m) (some (o.setIfInBounds j (some d.length), d.length + 1)) = some (o', (d ++ h :: r).length) := by simpa using f
    rw [List.foldl_cons, stepF_some e, f']
theorem clean {m : Nat} (hm : Msk m) {hs : Array Int} (hn : hs.size ≤ m) : ∃ o, SetTable.layClean m hs = some o ∧ Own m hs.toList o := by
  obtain ⟨o, f, W⟩ := seats hm hs.toList [] _ (Own.init m) (by simp; omega)
  refine ⟨o, ?_, W⟩
  rw [layClean_eq]
  exact congrArg (Option.map Prod.fst) f
/-- the table laid anew -/
theorem laid {M : Nat} (t : SetTable) {hs : Array Int} {wanted : Nat} (hw : SetTable.sizeAbove wanted - 1 = M) (hM : Msk M) (hn : hs.size ≤ M) :
    ∃ t' order, t.relaid hs wanted = some (t', order) ∧ order.toList.Perm (List.range hs.size) ∧ Tb t' (order.toList.map fun i => hs.getD i 0) ∧ t'.mask = M ∧ t'.led = t.led ∧ t'.plain = t.plain := by
  obtain ⟨o, e, W⟩ := clean hM hn
  obtain ⟨w1, w2, w3, ps, w4, w5⟩ := W
  have hr : t.relaid hs wanted = some (tabOf t M o, ((liveOf M o).map (·.2)).toArray) := by
    rw [relaid_eq, hw, e]
    rfl
  obtain ⟨r1, r2⟩ := ris_live (fun j => o.getD j none) (List.range (M + 1)) (by unfold Ris; exact List.pairwise_lt_range)
  have r1 : Ris ((liveOf M o).map (·.1)) := r1
  have occ : ∀ {j k}, (j, k) ∈ liveOf M o ↔ j ≤ M ∧ oAt o j = some k := mem_live w1
  have hsl : hs.toList.length = hs.size := rfl
  have len : (liveOf M o).length = hs.size := by
    refine Nat.le_antisymm ?_ ?_
    · have nd : ((liveOf M o).map (·.1)).Nodup := List.Pairwise.imp (fun h => Nat.ne_of_lt h) r1
      have a := nat_nodup_len _ ps nd fun x hx => by
        obtain ⟨⟨y, k⟩, hq, rfl⟩ := List.mem_map.mp hx
        obtain ⟨b1, b2⟩ := occ.1 hq
        exact w5 y b1 (by simp [b2])
      simp only [List.length_map] at a
      omega
    · have b := nat_nodup_len (List.range hs.size) ((liveOf M o).map (·.2)) List.nodup_range fun k hk => by
        obtain ⟨j, b1, b2⟩ := w3 k (List.mem_range.mp hk)
        exact List.mem_map.mpr ⟨(j, k), occ.2 ⟨b1, b2⟩, rfl⟩
      simpa using b
  refine ⟨_, _, hr, ?_, ⟨r1, rfl, by simp [tabOf], hM, fun i h j h1 h2 => ?_⟩, rfl, rfl, rfl⟩
  · refine perm_range hs.size _ (by simpa using len) fun k hk => ?_
    obtain ⟨j, b1, b2⟩ := w3 k hk
    exact List.mem_map.mpr ⟨(j, k), occ.2 ⟨b1, b2⟩, rfl⟩
  · have h1' : (((liveOf M o).map (·.2)).map fun i => hs.getD i 0)[i]? = some h := h1
    have h2' : ((liveOf M o).map (·.1))[i]? = some j := h2
    obtain ⟨⟨j', k⟩, hq, rfl⟩ := Option.map_eq_some_iff.mp (List.getElem?_map ▸ h2')
    simp only [List.getElem?_map, hq, Option.map_some, Option.some.injEq] at h1'
    obtain ⟨b1, b2⟩ := occ.1 (List.mem_of_getElem? hq)
    obtain ⟨h0, K, a1, a2, a3⟩ := w2 j' k b1 b2
    have e0 : h0 = h := by
      rw [← h1', Array.getD_eq_getD_getElem?, ← Array.getElem?_toList, a1]
      rfl
    subst e0
    refine ⟨K, a2, fun q hq => ?_⟩
    obtain ⟨k2, z⟩ := Option.ne_none_iff_exists'.mp (a3 q hq)
    exact List.mem_map.mpr ⟨(way M h0 q, k2), occ.2 ⟨way_in M h0 q, z⟩, rfl⟩
end Sy

/-! sets of tuples of texts (or whole numbers), up to 1000 -/
namespace Sy
open PySem PySem.Spec PyProof.Rows L2
/-- the tuple at a has these keys -/
abbrev IsK (P : Program) (w : World) (h : Heap) (k : List Key) (a : Addr) : Prop := IsTupleKey (mixKind P w) h k a
abbrev hK (P : Program) (w : World) (k : List Key) : Int := tupleKeyHash (mixKind P w) k
section
variable {P : Program} {w : World} {A : Around} {E : Value → Shared → Prop} {s : Shared}
def Plainly (v : Value) : Prop := (∀ n, ofAClassStatement n v = pure false) ∧ ∀ n, ∃ b, hashByValue n v = pure b
theorem plainly_key {k : Key} {v : Value} (h : keyIs k v = true) : Plainly v := by
  rcases keyIs_shape h with ⟨i, t, rfl, rfl⟩ | ⟨x, t, rfl, rfl⟩
  · exact ⟨fun n => by cases n <;> rfl, fun n => ⟨true, by cases n <;> rfl⟩⟩
  · exact ⟨fun n => by cases n <;> rfl, fun n => ⟨false, by cases n <;> rfl⟩⟩
theorem plainly_items {k : List Key} {vs : List Value} (h : ItemsAre (mixKind P w) k vs) : ∀ v ∈ vs, Plainly v := by
  induction h with
  | nil => simp
  | cons e _ ih =>
    intro u hu
    rcases List.mem_cons.mp hu with rfl | hu
    · exact plainly_key e
    · exact ih u hu
theorem noClass {k : List Key} {b : Addr} {Q : Bool → Shared → Prop} (hk : IsK P w s.heap k b) (h : Q false s) : wpAny (model P w) A (ofAClassStatement 8 (.ref b)) Q E s := by
  have ty := hk.typeIs
  obtain ⟨o, its, n, ho, _, hd, hi⟩ := hk
  have all := plainly_items hi
  unfold ofAClassStatement
  refine wpAny_bind (wpAny_typeOf ty ?_)
  dsimp only
  simp only [show (("tuple" : String) == "tuple") = true by decide, if_true, Bool.not_true, Bool.false_eq_true, if_false]
  try refine wpAny_bind (wpAny_pure ?_)
  try simp only [Bool.not_true, Bool.false_eq_true, if_false]
  show wpAny _ _ (seqItems? (.ref b) >>= _) _ _ s
  refine wpAny_bind (wpAny_seqItems ho hd ?_)
  dsimp only
  refine wpAny_bind ?_
  show wpAny _ _ (forIn its _ _) _ _ s
  rw [← Array.forIn_toList]
  refine wpAny_forIn_list _ (fun r z s' => z.1 = none ∧ s' = s ∧ ∀ v ∈ r, Plainly v) _ (fun v r z s' hz => ?_) (fun z s' hz => ?_) _ _ ⟨rfl, rfl, all⟩
  · obtain ⟨_, rfl, al⟩ := hz
    rw [(al v (by simp)).1]
    refine wpAny_bind (wpAny_pure ?_)
    simp only [Bool.false_eq_true, if_false]
    exact wpAny_pure ⟨rfl, rfl, fun u hu => al u (by simp [hu])⟩
  · obtain ⟨z1, z2⟩ := z
    obtain ⟨e, rfl, _⟩ := hz
    cases e
    exact wpAny_pure h
/-- such a search shows nothing -/
theorem unseen {k : List Key} {b : Addr} {Q : Bool → Shared → Prop} (hk : IsK P w s.heap k b) {ys : List Value} (hy : ∀ y ∈ ys, ∃ k' c, y = Value.ref c ∧ IsK P w s.heap k' c) (h : Q false s) : wpAny (model P w) A (searchCouldBeSeen (.ref b) ys) Q E s := by
  unfold searchCouldBeSeen
  refine wpAny_bind (wpAny_forIn_list _ (fun r z s' => z.1 = none ∧ s' = s ∧ ∀ y ∈ r, ∃ k' c, y = Value.ref c ∧ IsK P w s.heap k' c) _ (fun v r z s' hz => ?_) (fun z s' hz => ?_) _ _ ⟨rfl, rfl, hy⟩)
  · obtain ⟨_, rfl, al⟩ := hz
    obtain ⟨k', c, rfl, hc⟩ := al v (by simp)
    have al' : ∀ y ∈ r, ∃ k' c, y = Value.ref c ∧ IsK P w s'.heap k' c := fun u hu => al u (by simp [hu])
    dsimp only
    by_cases same : (b == c || (carriedByValue (.ref b) && carriedByValue (.ref c))) = true
    · exact wp_if_pos same (wpAny_pure ⟨rfl, rfl, al'⟩)
    · refine wp_if_neg same (wpAny_bind (wpAny_eqIsQuiet_tuple hk ?_))
      simp only [Bool.not_true, Bool.false_eq_true, if_false]
      refine wpAny_bind (wpAny_eqIsQuiet_tuple hc ?_)
      simp only [Bool.not_true, Bool.false_eq_true, if_false]
      refine wpAny_bind (noClass hk ?_)
      simp only [Bool.false_eq_true, if_false]
      refine wpAny_bind (noClass hc ?_)
      simp only [Bool.false_eq_true, if_false]
      exact wpAny_pure ⟨rfl, rfl, al'⟩
  · obtain ⟨z1, z2⟩ := z
    obtain ⟨e, rfl, _⟩ := hz
    cases e
    exact wpAny_pure h
def rowK (P : Program) (w : World) (p : Addr × List Key) : Int × Value := (hK P w p.2, .ref p.1)
abbrev hsK (P : Program) (w : World) (L : List (Addr × List Key)) : List Int := L.map fun p => hK P w p.2
/-- the set at a holds these tuples, in its table's order -/
structure Kp (P : Program) (w : World) (h : Heap) (a : Addr) (L : List (Addr × List Key)) (es : Array (Int × Value)) (ep : Nat) (t : SetTable) : Prop where
  ob : ∃ o, h.get? a = some o ∧ o.ExactSet ∧ o.data = .set es ep t
  rows : es.toList = L.map (rowK P w)
  tab : Tb t (hsK P w L)
  nd : (L.map Prod.snd).Nodup
  tup : ∀ p ∈ L, IsK P w h p.2 p.1
  led : w.params.followText "set-order" = true ∨ t.led = true
  room : L.length * 5 < t.mask * 3
  few : L.length ≤ 1000
  mask : t.mask ≤ 8191
variable {a : Addr} {L : List (Addr × List Key)} {es : Array (Int × Value)} {ep : Nat} {t : SetTable}
theorem rows_size (hr : es.toList = L.map (rowK P w)) : es.size = L.length := by
  have := congrArg List.length hr
  simpa using this
theorem Tb.fits {n : Nat} {hs : List Int} (T : Tb t hs) (hn : hs.length = n) (hm : n ≤ t.mask) : t.fits n = true := by
  have h1 := T.many
  unfold SetTable.fits SetTable.fill
  rw [T.none]
  simp
  omega
theorem Kp.fits (R : Kp P w s.heap a L es ep t) : t.fits es.size = true := by
  have := R.room
  exact R.tab.fits (by rw [List.length_map, rows_size R.rows]) (by rw [rows_size R.rows]; omega)
theorem rowK_at (hr : es.toList = L.map (rowK P w)) {i : Nat} {p : Addr × List Key} (h : L[i]? = some p) : es[i]? = some (rowK P w p) := by
  rw [← Array.getElem?_toList, hr, List.getElem?_map, h]
  rfl
theorem nth_dummy (m : Nat) : ∀ (n : Nat) (p : SetTable.Probe), p.dummy = none → (nth m p n).dummy = none
  | 0, _, h => h
  | n + 1, p, h => nth_dummy m n _ (by unfold adv; split <;> exact h)
abbrev st0 (m : Nat) (h : Int) : SetTable.Probe := runAt m (SetTable.bits h % (m + 1)) (SetTable.bits h)
/-- the search, from the c-th step of the way on -/
theorem look (R : Kp P w s.heap a L es ep t) {x : Addr} {k : List Key} (hx : IsK P w s.heap k x) (hu : A.units < cLine) {K : Nat} (hf : K < 10 * SetTable.turns t.mask)
    (free : way t.mask (hK P w k) K ∉ t.place.toList) (taken : ∀ c, c < K → way t.mask (hK P w k) c ∈ t.place.toList) {Q : SetFound → Shared → Prop}
    (hin : k ∈ L.map Prod.snd → Q (.there none) s) (hout : k ∉ L.map Prod.snd → Q (.free (way t.mask (hK P w k) K) false) s) :
    ∀ (f c : Nat) (stand : Option SetTable.Probe), stand.getD (t.probeStart (hK P w k)) = nth t.mask (st0 t.mask (hK P w k)) c → c ≤ K → K - c < f →
      (∀ (i : Nat) p, L[i]? = some p → p.2 = k → ∃ q, c ≤ q ∧ q < K ∧ t.place.toList[i]? = some (way t.mask (hK P w k) q)) →
      wpAny (model P w) A (setSearchFrom a (.ref x) (hK P w k) true f stand) Q E s := by
  intro f
  induction f with
  | zero => intro c _ _ _ z; exact absurd z (Nat.not_lt_zero _)
  | succ f ih =>
    intro c stand hst hc hl here
    obtain ⟨o, ho, hex, hd⟩ := R.ob
    have fit := R.fits
    have rat : ∀ {i : Nat} {p : Addr × List Key}, L[i]? = some p → es[i]? = some (rowK P w p) := fun h => rowK_at R.rows h
    have gw : ¬ t.gaveWay = true := by unfold SetTable.gaveWay; rw [R.tab.msk.odd]; decide
    rw [setSearchFrom_succ]
    refine wpAny_bind (wpAny_setState_of ho hd fit ?_)
    dsimp only
    refine wp_if_neg gw ?_
    try refine wpAny_bind (wpAny_pure ?_)
    have shift : ∀ q, nth t.mask (nth t.mask (st0 t.mask (hK P w k)) c) q = nth t.mask (st0 t.mask (hK P w k)) (c + q) := fun q => (nth_add ..).symm
    have shj : ∀ q, (nth t.mask (nth t.mask (st0 t.mask (hK P w k)) c) q).j = way t.mask (hK P w k) (c + q) := fun q => congrArg SetTable.Probe.j (shift q)
    have hcK : c + (K - c) = K := by omega
    have spec := go_spec t R.tab.ris R.tab.none (fun i => (es[i]?.map (·.1)).getD 0) (hK P w k) (10 * SetTable.turns t.mask) (K - c) (nth t.mask (st0 t.mask (hK P w k)) c) (nth_dummy _ _ _ rfl) (by omega)
      (fun q hq => by rw [shj]; exact taken _ (by omega)) (by rw [shj, hcK]; exact free)
    have hash_ : ∀ {i : Nat} {p : Addr × List Key}, L[i]? = some p → (es[i]?.map (·.1)).getD 0 = hK P w p.2 := fun h => by rw [rat h]; rfl
    rcases spec with ⟨q, i, hq, hi, hh, no, go⟩ | ⟨no, go⟩
    · rw [shj] at hi
      have len : t.place.toList.length = L.length := by have := R.tab.many; rw [Array.length_toList, this, List.length_map]
      obtain ⟨p, hp⟩ : ∃ p, L[i]? = some p := ⟨L[i]'(by have := (List.getElem?_eq_some_iff.mp hi).1; omega), List.getElem?_eq_getElem _⟩
      have pin : p ∈ L := List.mem_of_getElem? hp
      have ptup := R.tup p pin
      have met : t.probe (fun i => (es[i]?.map (·.1)).getD 0) (hK P w k) (stand.getD (t.probeStart (hK P w k))) = some (.candidate (way t.mask (hK P w k) (c + q)) i (nth t.mask (st0 t.mask (hK P w k)) (c + (q + 1)))) := by
        rw [hst, ← shj, ← shift]
        exact go
      rw [met]
      dsimp only
      have on : wpAny (model P w) A (searchRest a (.ref x) (hK P w k) true f es t (way t.mask (hK P w k) (c + q)) i (nth t.mask (st0 t.mask (hK P w k)) (c + (q + 1)))) Q E s := by
        unfold searchRest
        rw [rat hp]
        unfold rowK
        dsimp only
        refine wpAny_bind (wpAny_holding (wpAny_eqBool_tuple hu ptup hx ?_))
        refine wpAny_bind (wpAny_setState_of ho hd fit ?_)
        dsimp only
        by_cases e : p.2 = k
        · exact wp_if_pos (by simp [e]) (wpAny_pure (hin (List.mem_map.mpr ⟨p, pin, e⟩)))
        · refine wp_if_neg (by simp [e]) ?_
          try refine wpAny_bind (wpAny_pure ?_)
          rw [sameMem]
          dsimp only
          have live := slot_live R.tab.ris hi
          simp only [if_true, live, rat hp, rowK]
          refine wpAny_bind (wpAny_isSame_ref_self (wpAny_bind (wpAny_pure ?_)))
          simp only [if_true]
          refine wp_if_neg (by simp [e]) ?_
          refine ih (c + (q + 1)) _ rfl (by omega) (by omega) fun i0 p0 h0 e0 => ?_
          obtain ⟨z, z1, z2, z3⟩ := here i0 p0 h0 e0
          refine ⟨z, Classical.byContradiction fun lt => ?_, z2, z3⟩
          rcases Nat.lt_or_ge z (c + q) with y | y
          · exact no (z - c) i0 (by omega) (by rw [shj, show c + (z - c) = z by omega]; exact z3) ((hash_ h0).trans (by rw [e0]))
          · obtain rfl : z = c + q := by omega
            have e2 := (slot_live R.tab.ris z3).symm.trans live
            injection e2 with e2
            subst e2
            rw [hp] at h0
            exact e (by rw [← e0, Option.some.inj h0])
      by_cases hl : t.led = true
      · refine wp_if_neg (by simp [hl]) ?_
        try refine wpAny_bind (wpAny_pure ?_)
        exact on
      · refine wp_if_pos (by simp [hl]) (wpAny_bind (unseen hx (fun y hy => ?_) ?_))
        · obtain ⟨e, he, rfl⟩ := List.mem_map.mp hy
          have he2 : e ∈ es.toList := by
            have : e ∈ es ∧ e.1 = hK P w k := by simpa using he
            simpa using this.1
          rw [R.rows] at he2
          obtain ⟨p2, hp2, rfl⟩ := List.mem_map.mp he2
          exact ⟨p2.2, p2.1, rfl, R.tup p2 hp2⟩
        · refine wp_if_neg (by decide) ?_
          try refine wpAny_bind (wpAny_pure ?_)
          exact on
    · have met : t.probe (fun i => (es[i]?.map (·.1)).getD 0) (hK P w k) (stand.getD (t.probeStart (hK P w k))) = some (.empty (way t.mask (hK P w k) K) none) := by
        have e : way t.mask (hK P w k) K = (nth t.mask (nth t.mask (st0 t.mask (hK P w k)) c) (K - c)).j := by rw [shj, hcK]
        rw [hst, e]
        exact go
      rw [met]
      dsimp only
      refine wpAny_pure (hout fun hm => ?_)
      obtain ⟨p0, h0, e0⟩ := List.mem_map.mp hm
      obtain ⟨i0, hi0⟩ := List.getElem?_of_mem h0
      obtain ⟨z, z1, z2, z3⟩ := here i0 p0 hi0 e0
      exact no (z - c) i0 (by omega) (by rw [shj, show c + (z - c) = z by omega]; exact z3) ((hash_ hi0).trans (by rw [e0]))
end
end Sy

/-! sorted(set(x)), x a list or tuple of whole numbers or texts -/
namespace Sy
open PySem PySem.Spec PyProof.Rows L2
section
variable {prog : Program} {w : World} {A : Around} {E : Value → Shared → Prop} {s : Shared} {κ : Type} [DecidableEq κ] {knd : PySem.KeyKind prog w κ}
/-- a set whose table can be walked: m tells its members, n their number -/
def WSet (knd : PySem.KeyKind prog w κ) (h : Heap) (a : Addr) (m : κ → Bool) (n : Nat) : Prop := ∃ (ob : Obj) (en : Array (Int × Value)) (ep : Nat) (tb : SetTable), h.get? a = some ob ∧ ob.ExactSet ∧ ob.data = .set en ep tb ∧ ElemsOf knd en.toList ∧
  (∀ x, m x = true ↔ ∃ e ∈ en.toList, knd.is x e.2 = true) ∧ en.size < scanBound ∧ tb.fits en.size = true ∧ en.size = n ∧ Ris tb.place.toList ∧ (w.params.followText "set-order" = true ∨ tb.led = true)
theorem WSet.at {h h' : Heap} {a : Addr} {m : κ → Bool} {n : Nat} (R : WSet knd h a m n) (k : ∀ o, h.get? a = some o → h'.get? a = some o) : WSet knd h' a m n := by
  obtain ⟨ob, en, ep, tb, ho, r⟩ := R
  exact ⟨ob, en, ep, tb, k ob ho, r⟩
theorem WSet.congr {h : Heap} {a : Addr} {m m' : κ → Bool} {n n' : Nat} (R : WSet knd h a m n) (e : ∀ x, m' x = m x) (e2 : n' = n) : WSet knd h a m' n' := by
  rw [show m' = m from funext e, e2]
  exact R
end
section
variable {κ : Type} [DecidableEq κ]
theorem metX_app : ∀ (l acc : List κ) (x : κ), metX acc (l ++ [x]) = (if x ∈ metX acc l then metX acc l else metX acc l ++ [x])
  | [], acc, x => rfl
  | y :: l, acc, x => metX_app l _ x
theorem metX_len : ∀ (l acc : List κ), (metX acc l).length ≤ acc.length + l.length
  | [], acc => Nat.le_refl _
  | y :: l, acc => by
    refine Nat.le_trans (metX_len l _) ?_
    split
    · rw [List.length_cons]; omega
    · simp only [List.length_append, List.length_cons, List.length_nil]; omega
end
section
variable {prog : Program} {w : World} {A : Around} {R : Result → Shared → Prop} {I : Addr} {fp wr : List Addr} {G : Array GenState → Array GenState → Prop} {n : Nat} {P : Nat → Value → Prop} {St : Nat → Shared → Prop} {κ : Type} [DecidableEq κ] {knd : PySem.KeyKind prog w κ}
/-- the members while the first i keys were put in -/
def InX (knd : PySem.KeyKind prog w κ) (h : Heap) (S : Addr) (xs : List κ) (i : Nat) : Prop := WSet knd h S (fun k => decide (k ∈ metX [] (xs.take i))) (metX [] (xs.take i)).length
theorem InX.next {h : Heap} {S : Addr} {xs : List κ} {i : Nat} {x : κ} (hx : xs[i]? = some x)
    (q : WSet knd h S (fun j => decide (j ∈ metX [] (xs.take i)) || decide (j = x)) (if decide (x ∈ metX [] (xs.take i)) = true then (metX [] (xs.take i)).length else (metX [] (xs.take i)).length + 1)) : InX knd h S xs (i + 1) := by
  have e : xs.take (i + 1) = xs.take i ++ [x] := by rw [List.take_add_one, hx]; rfl
  unfold InX
  rw [e, metX_app]
  refine q.congr (fun k => ?_) ?_
  · by_cases hm : x ∈ metX [] (xs.take i)
    · rw [if_pos hm]
      by_cases hk : k = x
      · subst hk; simp [hm]
      · simp [hk]
    · rw [if_neg hm]
      simp
  · by_cases hm : x ∈ metX [] (xs.take i)
    · simp [hm]
    · simp [hm]
end
end Sy

namespace Sy
open PySem PySem.Spec PyProof.Rows L2
/-- what the set has of the first i -/
def Gk (ks : List (Addr × List Key)) (i : Nat) (L : List (Addr × List Key)) : Prop := (∀ p ∈ L, p ∈ ks) ∧ (L.map Prod.snd).Perm (metX [] ((ks.take i).map Prod.snd))
theorem Gk.len {ks L : List (Addr × List Key)} {i : Nat} (g : Gk ks i L) : L.length ≤ i := by
  have h1 := g.2.length_eq
  have h2 := metX_len ((ks.take i).map Prod.snd) []
  simp only [List.length_map, List.length_nil, Nat.zero_add] at h1 h2
  have h3 := List.length_take_le i ks
  omega
theorem Gk.step {ks L L' : List (Addr × List Key)} {i : Nat} {p : Addr × List Key} (g : Gk ks i L) (hp : ks[i]? = some p) (c1 : p.2 ∈ L.map Prod.snd → L' = L) (c2 : p.2 ∉ L.map Prod.snd → L'.Perm (p :: L)) : Gk ks (i + 1) L' := by
  have e : (ks.take (i + 1)).map Prod.snd = (ks.take i).map Prod.snd ++ [p.2] := by rw [List.take_add_one, hp, List.map_append]; rfl
  unfold Gk
  rw [e, metX_app]
  by_cases c : p.2 ∈ L.map Prod.snd
  · obtain rfl := c1 c
    exact ⟨g.1, by rw [if_pos (g.2.mem_iff.mp c)]; exact g.2⟩
  · refine ⟨fun q hq => ?_, ?_⟩
    · rcases List.mem_cons.mp ((c2 c).mem_iff.mp hq) with rfl | hq
      · exact List.mem_of_getElem? hp
      · exact g.1 q hq
    · rw [if_neg fun z => c (g.2.mem_iff.mpr z)]
      exact ((c2 c).map _).trans (((g.2.cons p.2)).trans (List.perm_append_singleton _ _).symm)
section
variable {P : Program} {w : World} {A : Around} {E : Value → Shared → Prop} {s : Shared}
end
end Sy

namespace Sy
open PySem PySem.Spec PyProof.Rows L2
section
variable {C : Cal} {g : PySem.Str → Option SV} {k : Nat} {N : Ck}
/-! what a look that was passed says of the tree -/
section
variable {sc : Scope} {e : PySem.Expr}
theorem i_var {i : Nat} {x : PySem.Str} (h : cE N sc (.var i x) e = true) : ∃ p, e = .Name x p ∧ nmE N.N sc i x = true := by
  cases e <;> first | (cases h; done) | skip
  rename_i y p
  have h' : (decide (x = y) && nmE N.N sc i x) = true := h
  simp only [Bool.and_eq_true, decide_eq_true_eq] at h'
  obtain ⟨rfl, h'⟩ := h'
  exact ⟨p, rfl, h'⟩
theorem i_cst {c : Const} (h : cE N sc (.cst c) e = true) : ∃ j p, e = .Constant c j p := by
  cases e <;> first | (cases h; done) | skip
  rename_i c' j p
  have h' : (decide (c = c') && (cstS c).isSome) = true := h
  simp only [Bool.and_eq_true, decide_eq_true_eq] at h'
  obtain ⟨rfl, h'⟩ := h'
  exact ⟨j, p, rfl⟩
theorem i_glob {x : PySem.Str} (h : cE N sc (.glob x) e = true) : ∃ p, e = .Name x p ∧ glE sc x = true := by
  cases e <;> first | (cases h; done) | skip
  rename_i y p
  have h' : (decide (x = y) && glE sc x) = true := h
  simp only [Bool.and_eq_true, decide_eq_true_eq] at h'
  obtain ⟨rfl, h'⟩ := h'
  exact ⟨p, rfl, h'⟩
theorem i_tup {as : MA} (h : cE N sc (.tup as) e = true) : ∃ es n p, e = .Tuple es n p ∧ cA N sc as es = true := by
  cases e <;> first | (cases h; done) | exact ⟨_, _, _, rfl, h⟩
theorem i_lst {own : Bool} {as : MA} (h : cE N sc (.lst own as) e = true) : ∃ es p, e = .List es p ∧ cA N sc as es = true := by
  cases e <;> first | (cases h; done) | exact ⟨_, _, rfl, h⟩
theorem i_bin {o : Operator} {own : Bool} {a b : ME} (h : cE N sc (.bin o own a b) e = true) : ∃ l r p, e = .BinOp l o r p ∧ cE N sc a l = true ∧ cE N sc b r = true := by
  cases e <;> first | (cases h; done) | skip
  rename_i l o' r p
  have h' : (decide (o = o') && cE N sc a l && cE N sc b r) = true := h
  simp only [Bool.and_eq_true, decide_eq_true_eq] at h'
  obtain ⟨⟨rfl, h1⟩, h2⟩ := h'
  exact ⟨l, r, p, rfl, h1, h2⟩
theorem i_cmp {o : CmpOp} {a b : ME} (h : cE N sc (.cmp o a b) e = true) : ∃ l r p, e = .Compare l [o] [r] p ∧ cE N sc a l = true ∧ cE N sc b r = true := by
  cases e <;> first | (cases h; done) | skip
  rename_i l os rs p
  match os, rs, h with
  | [o'], [r], h =>
    have h' : (decide (o = o') && cE N sc a l && cE N sc b r) = true := h
    simp only [Bool.and_eq_true, decide_eq_true_eq] at h'
    obtain ⟨⟨rfl, h1⟩, h2⟩ := h'
    exact ⟨l, r, p, rfl, h1, h2⟩
  | [], _, h => cases h
  | [_], [], h => cases h
  | [_], _ :: _ :: _, h => cases h
  | _ :: _ :: _, _, h => cases h
theorem i_chain {o o2 : CmpOp} {a b c : ME} (h : cE N sc (.chain o o2 a b c) e = true) : ∃ l m r p, e = .Compare l [o, o2] [m, r] p ∧ cE N sc a l = true ∧ cE N sc b m = true ∧ cE N sc c r = true := by
  cases e <;> first | (cases h; done) | skip
  rename_i l os rs p
  match os, rs, h with
  | [o', o2'], [m, r], h =>
    have h' : (decide (o = o') && decide (o2 = o2') && cE N sc a l && cE N sc b m && cE N sc c r) = true := h
    simp only [Bool.and_eq_true, decide_eq_true_eq] at h'
    obtain ⟨⟨⟨⟨rfl, rfl⟩, h1⟩, h2⟩, h3⟩ := h'
    exact ⟨l, m, r, p, rfl, h1, h2, h3⟩
  | [], _, h => cases h
  | [_], _, h => cases h
  | [_, _], [], h => cases h
  | [_, _], [_], h => cases h
  | [_, _], _ :: _ :: _ :: _, h => cases h
  | _ :: _ :: _ :: _, _, h => cases h
theorem i_neg {a : ME} (h : cE N sc (.neg a) e = true) : ∃ x p, e = .UnaryOp .USub x p ∧ cE N sc a x = true := by
  cases e <;> first | (cases h; done) | skip
  rename_i o x p
  cases o <;> first | (cases h; done) | exact ⟨_, _, rfl, h⟩
theorem i_not {a : ME} (h : cE N sc (.not a) e = true) : ∃ x p, e = .UnaryOp .Not x p ∧ cE N sc a x = true := by
  cases e <;> first | (cases h; done) | skip
  rename_i o x p
  cases o <;> first | (cases h; done) | exact ⟨_, _, rfl, h⟩
theorem i_and {a b : ME} (h : cE N sc (.and a b) e = true) : ∃ x y r p, e = .BoolOp .And (x :: y :: r) p ∧ cE N sc a x = true ∧ ((r = [] ∧ cE N sc b y = true) ∨ (∃ z t, r = z :: t ∧ cE N sc b (.BoolOp .And (y :: r) p) = true)) := by
  cases e <;> first | (cases h; done) | skip
  rename_i o es p
  cases o <;> first | (cases h; done) | skip
  match es, h with
  | [], h => cases h
  | [_], h => cases h
  | [x, y], h =>
    have h' : (cE N sc a x && cE N sc b y) = true := h
    rw [Bool.and_eq_true] at h'
    exact ⟨x, y, [], p, rfl, h'.1, .inl ⟨rfl, h'.2⟩⟩
  | x :: y :: z :: r, h =>
    have h' : (cE N sc a x && cE N sc b (.BoolOp .And (y :: z :: r) p)) = true := h
    rw [Bool.and_eq_true] at h'
    exact ⟨x, y, z :: r, p, rfl, h'.1, .inr ⟨z, r, rfl, h'.2⟩⟩
theorem i_or {a b : ME} (h : cE N sc (.or a b) e = true) : ∃ x y r p, e = .BoolOp .Or (x :: y :: r) p ∧ cE N sc a x = true ∧ ((r = [] ∧ cE N sc b y = true) ∨ (∃ z t, r = z :: t ∧ cE N sc b (.BoolOp .Or (y :: r) p) = true)) := by
  cases e <;> first | (cases h; done) | skip
  rename_i o es p
  cases o <;> first | (cases h; done) | skip
  match es, h with
  | [], h => cases h
  | [_], h => cases h
  | [x, y], h =>
    have h' : (cE N sc a x && cE N sc b y) = true := h
    rw [Bool.and_eq_true] at h'
    exact ⟨x, y, [], p, rfl, h'.1, .inl ⟨rfl, h'.2⟩⟩
  | x :: y :: z :: r, h =>
    have h' : (cE N sc a x && cE N sc b (.BoolOp .Or (y :: z :: r) p)) = true := h
    rw [Bool.and_eq_true] at h'
    exact ⟨x, y, z :: r, p, rfl, h'.1, .inr ⟨z, r, rfl, h'.2⟩⟩
theorem i_call {f : PySem.Str} {as : MA} (h : cE N sc (.call f as) e = true) : ∃ es p q, e = .Call (.Name f p) es [] q ∧ glE sc f = true ∧ f ∈ N.T ∧ cA N sc as es = true := by
  cases e <;> first | (cases h; done) | skip
  rename_i fn es ks q
  cases fn <;> first | (cases h; done) | skip
  cases ks <;> first | (cases h; done) | skip
  rename_i y p
  have h' : (decide (f = y) && glE sc f && decide (f ∈ N.T) && cA N sc as es) = true := h
  simp only [Bool.and_eq_true, decide_eq_true_eq] at h'
  obtain ⟨⟨⟨rfl, h1⟩, h2⟩, h3⟩ := h'
  exact ⟨es, p, q, rfl, h1, h2, h3⟩
theorem i_bi {f : Bi} {own : Bool} {as : MA} (h : cE N sc (.bi f own as) e = true) : ∃ es p q, e = .Call (.Name (biN f) p) es [] q ∧ glE sc (biN f) = true ∧ cA N sc as es = true := by
  cases e <;> first | (cases h; done) | skip
  rename_i fn es ks q
  cases fn <;> first | (cases h; done) | skip
  cases ks <;> first | (cases h; done) | skip
  rename_i y p
  have h' : (decide (biN f = y) && glE sc y && cA N sc as es) = true := h
  simp only [Bool.and_eq_true, decide_eq_true_eq] at h'
  obtain ⟨⟨h0, h1⟩, h3⟩ := h'
  subst h0
  exact ⟨es, p, q, rfl, h1, h3⟩
theorem i_isi {a : ME} {t : Ty} (h : cE N sc (.isi a t) e = true) : ∃ x p p2 q, e = .Call (.Name "isinstance" p) [x, .Name (tyN t) p2] [] q ∧ glE sc "isinstance" = true ∧ glE sc (tyN t) = true ∧ cE N sc a x = true := by
  cases e <;> first | (cases h; done) | skip
  rename_i fn es ks q
  cases fn <;> first | (cases h; done) | skip
  cases ks <;> first | (cases h; done) | skip
  · rename_i y p
    match es, h with
    | [], h => cases h
    | [_], h => cases h
    | _ :: _ :: _ :: _, h => exact absurd h (by unfold cE; simp)
    | [x, z], h =>
      cases z <;> first | (cases h; done) | skip
      rename_i zn p2
      have h' : (decide (y = "isinstance") && glE sc y && decide (tyN t = zn) && glE sc zn && cE N sc a x) = true := h
      simp only [Bool.and_eq_true, decide_eq_true_eq] at h'
      obtain ⟨⟨⟨⟨rfl, h1⟩, h2⟩, h3⟩, h4⟩ := h'
      subst h2
      exact ⟨x, p, p2, q, rfl, h1, h3, h4⟩
  · exact absurd h (by unfold cE; simp)
theorem i_mt {m : Mt} {own : Bool} {a : ME} {as : MA} (h : cE N sc (.mt m own a as) e = true) : ∃ o es ap q, e = .Call (.Attribute o (mtN m) ap) es [] q ∧ mtIn m = true ∧ (ap.endLine == q.line) = true ∧ es.length = mtA m ∧ cE N sc a o = true ∧ cA N sc as es = true := by
  cases e <;> first | (cases h; done) | skip
  rename_i fn es ks q
  cases fn <;> first | (cases h; done) | skip
  cases ks <;> first | (cases h; done) | skip
  rename_i o y ap
  have h' : (mtIn m && decide (mtN m = y) && (ap.endLine == q.line) && decide (es.length = mtA m) && cE N sc a o && cA N sc as es) = true := h
  simp only [Bool.and_eq_true, decide_eq_true_eq] at h'
  obtain ⟨⟨⟨⟨⟨h1, h2⟩, h3⟩, h4⟩, h5⟩, h6⟩ := h'
  subst h2
  exact ⟨o, es, ap, q, rfl, h1, h3, h4, h5, h6⟩
theorem i_lc {own : Bool} {ow : List (PySem.Str × Nat)} {elt : ME} {t : MT} {ik : ItK} {ia : MA} {c : MO} (h : cE N sc (.lc own ow elt t ik ia c) e = true) :
    ∃ x tg iter ifs scope p, e = .ListComp x [⟨tg, iter, ifs, 0⟩] scope p ∧ blkC N.N sc scope ow = true ∧ (∀ i ∈ tgI t, i ∈ ow.map Prod.snd) ∧ tgE N.N scope t tg = true ∧ cI N sc ik ia iter (tupE tg) = true ∧ cC N (relS scope sc) c ifs = true ∧ cE N (relS scope sc) elt x = true := by
  cases e <;> first | (cases h; done) | skip
  rename_i x gs scope p
  match gs, h with
  | [], h => cases h
  | _ :: _ :: _, h => exact absurd h (by unfold cE; simp)
  | [⟨tg, iter, ifs, n⟩], h =>
    by_cases hn : n = 0
    · subst hn
      have h' : (blkC N.N sc scope ow && (tgI t).all (fun i => decide (i ∈ ow.map Prod.snd)) && tgE N.N scope t tg && cI N sc ik ia iter (tupE tg) && cC N (relS scope sc) c ifs && cE N (relS scope sc) elt x) = true := h
      simp only [Bool.and_eq_true, List.all_eq_true, decide_eq_true_eq] at h'
      obtain ⟨⟨⟨⟨⟨h1, h2⟩, h3⟩, h4⟩, h5⟩, h6⟩ := h'
      exact ⟨x, tg, iter, ifs, scope, p, rfl, h1, h2, h3, h4, h5, h6⟩
    · exact absurd h (by unfold cE; simp [hn])
theorem i_idx {a i : ME} (h : cE N sc (.idx a i) e = true) : ∃ x y p, e = .Subscript x y p ∧ cE N sc a x = true ∧ cE N sc i y = true := by
  cases e <;> first | (cases h; done) | skip
  rename_i x y p
  have h' : (cE N sc a x && cE N sc i y) = true := h
  rw [Bool.and_eq_true] at h'
  exact ⟨x, y, p, rfl, h'.1, h'.2⟩
theorem i_sl {own : Bool} {a : ME} {lo hi : MO} (h : cE N sc (.sl own a lo hi) e = true) : ∃ x l r p2 p, e = .Subscript x (.Slice l r none p2) p ∧ cE N sc a x = true ∧ cO N sc lo l = true ∧ cO N sc hi r = true := by
  cases e <;> first | (cases h; done) | skip
  rename_i x y p
  cases y <;> first | (cases h; done) | skip
  rename_i l r st p2
  cases st <;> first | (cases h; done) | skip
  have h' : (cE N sc a x && cO N sc lo l && cO N sc hi r) = true := h
  simp only [Bool.and_eq_true] at h'
  exact ⟨x, l, r, p2, p, rfl, h'.1.1, h'.1.2, h'.2⟩
theorem i_dnew {tk : Bool} (h : cE N sc (.dnew tk) e = true) : ∃ p, e = .Dict [] [] p := by
  cases e <;> first | (cases h; done) | skip
  rename_i ks vs p
  cases ks <;> cases vs <;> first | (cases h; done) | exact ⟨_, rfl⟩
theorem i_lset {a : ME} (h : cE N sc (.lset a) e = true) : ∃ x p1 p2 p3 p, e = .Call (.Name "len" p1) [.Call (.Name "set" p2) [x] [] p3] [] p ∧ glE sc "len" = true ∧ glE sc "set" = true ∧ cE N sc a x = true := by
  unfold cE at h
  split at h <;> first | (cases h; done) | skip
  all_goals (rename_i hq; first | (cases hq; done) | skip)
  cases hq
  simp only [Bool.and_eq_true, decide_eq_true_eq] at h
  obtain ⟨⟨⟨⟨rfl, h1⟩, rfl⟩, h2⟩, h3⟩ := h
  exact ⟨_, _, _, _, _, rfl, h1, h2, h3⟩
theorem i_cons {m : ME} {as : MA} {es : List PySem.Expr} (h : cA N sc (.cons m as) es = true) : ∃ x r, es = x :: r ∧ cE N sc m x = true ∧ cA N sc as r = true := by
  cases es with
  | nil => cases h
  | cons x r =>
    have h' : (cE N sc m x && cA N sc as r) = true := h
    rw [Bool.and_eq_true] at h'
    exact ⟨x, r, rfl, h'.1, h'.2⟩
theorem i_nil {es : List PySem.Expr} (h : cA N sc .nil es = true) : es = [] := by
  cases es with
  | nil => rfl
  | cons x r => cases h
/-- what is walked -/
theorem i_it {ik : ItK} {as : MA} {e : PySem.Expr} {tu : Bool} (h : cI N sc ik as e tu = true) : (ik = .seq ∧ ∃ m, as = .cons m .nil ∧ cE N sc m e = true) ∨
    (ik = .rng1 ∧ ∃ a p q, e = .Call (.Name "range" p) [a] [] q ∧ glE sc "range" = true ∧ cA N sc as [a] = true) ∨
    (ik = .rng2 ∧ ∃ a b p q, e = .Call (.Name "range" p) [a, b] [] q ∧ glE sc "range" = true ∧ cA N sc as [a, b] = true) ∨
    (ik = .enum ∧ tu = true ∧ ∃ a p q, e = .Call (.Name "enumerate" p) [a] [] q ∧ glE sc "enumerate" = true ∧ cA N sc as [a] = true) ∨
    (ik = .zip ∧ tu = true ∧ ∃ a b p q, e = .Call (.Name "zip" p) [a, b] [] q ∧ glE sc "zip" = true ∧ cA N sc as [a, b] = true) := by
  unfold cI at h
  split at h
  · exact .inl ⟨rfl, _, rfl, h⟩
  · simp only [Bool.and_eq_true, decide_eq_true_eq] at h
    obtain ⟨⟨rfl, h1⟩, h2⟩ := h
    exact .inr (.inl ⟨rfl, _, _, _, rfl, h1, by show (cE N sc _ _ && true) = true; rw [h2]; rfl⟩)
  · simp only [Bool.and_eq_true, decide_eq_true_eq] at h
    obtain ⟨⟨⟨rfl, h1⟩, h2⟩, h3⟩ := h
    exact .inr (.inr (.inl ⟨rfl, _, _, _, _, rfl, h1, by show (cE N sc _ _ && (cE N sc _ _ && true)) = true; rw [h2, h3]; rfl⟩))
  · simp only [Bool.and_eq_true, decide_eq_true_eq] at h
    obtain ⟨⟨⟨h0, rfl⟩, h1⟩, h2⟩ := h
    exact .inr (.inr (.inr (.inl ⟨rfl, h0, _, _, _, rfl, h1, by show (cE N sc _ _ && true) = true; rw [h2]; rfl⟩)))
  · simp only [Bool.and_eq_true, decide_eq_true_eq] at h
    obtain ⟨⟨⟨⟨h0, rfl⟩, h1⟩, h2⟩, h3⟩ := h
    exact .inr (.inr (.inr (.inr ⟨rfl, h0, _, _, _, _, rfl, h1, by show (cE N sc _ _ && (cE N sc _ _ && true)) = true; rw [h2, h3]; rfl⟩)))
  · cases h
end
/-! ### the mutual theorem -/
mutual
theorem sE : ∀ (m : ME) {sc rs : Scope} {X : Cx} {e : PySem.Expr}, cE N sc m e = true → Good C g k N sc rs X → PE X e (LE X.K (wE C g m))
  | .var i x, sc, rs, X, e, h, G => by
    obtain ⟨p, rfl, h1⟩ := i_var h
    exact se_var G h1
  | .cst c, sc, rs, X, e, h, G => by
    obtain ⟨j, p, rfl⟩ := i_cst h
    exact se_cst
  | .glob x, sc, rs, X, e, h, G => by
    obtain ⟨p, rfl, h1⟩ := i_glob h
    exact se_glob G h1
  | .tup as, sc, rs, X, e, h, G => by
    obtain ⟨es, n, p, rfl, h1⟩ := i_tup h
    exact se_tup (sA as h1 G)
  | .lst own as, sc, rs, X, e, h, G => by
    obtain ⟨es, p, rfl, h1⟩ := i_lst h
    exact se_lst (sA as h1 G)
  | .bin o own a b, sc, rs, X, e, h, G => by
    obtain ⟨l, r, p, rfl, h1, h2⟩ := i_bin h
    exact se_bin (sE a h1 G) (sE b h2 G)
  | .cmp o a b, sc, rs, X, e, h, G => by
    obtain ⟨l, r, p, rfl, h1, h2⟩ := i_cmp h
    exact se_cmp G (sE a h1 G) (sE b h2 G) (pl_of h2 G.sup)
  | .chain o o2 a b c, sc, rs, X, e, h, G => by
    obtain ⟨l, m, r, p, rfl, h1, h2, h3⟩ := i_chain h
    exact se_chain G (sE a h1 G) (sE b h2 G) (sE c h3 G) (pl_of h3 G.sup)
  | .neg a, sc, rs, X, e, h, G => by
    obtain ⟨x, p, rfl, h1⟩ := i_neg h
    exact se_neg (sE a h1 G)
  | .and a b, sc, rs, X, e, h, G => by
    obtain ⟨x, y, r, p, rfl, h1, ⟨rfl, h2⟩ | ⟨z, t, rfl, h2⟩⟩ := i_and h
    · exact se_and (sE a h1 G) (pe_one (sE b h2 G))
    · exact se_and (sE a h1 G) (sE b h2 G)
  | .or a b, sc, rs, X, e, h, G => by
    obtain ⟨x, y, r, p, rfl, h1, ⟨rfl, h2⟩ | ⟨z, t, rfl, h2⟩⟩ := i_or h
    · exact se_or (sE a h1 G) (pe_one (sE b h2 G))
    · exact se_or (sE a h1 G) (sE b h2 G)
  | .not a, sc, rs, X, e, h, G => by
    obtain ⟨x, p, rfl, h1⟩ := i_not h
    exact se_not (sE a h1 G)
  | .idx a i, sc, rs, X, e, h, G => by
    obtain ⟨x, y, p, rfl, h1, h2⟩ := i_idx h
    exact se_idx G (sE a h1 G) (sE i h2 G) (pl_of h2 G.sup)
  | .sl own a lo hi, sc, rs, X, e, h, G => by
    obtain ⟨x, l, r, p2, p, rfl, h1, h2, h3⟩ := i_sl h
    exact se_sl (sE a h1 G) (sO lo h2 G) (sO hi h3 G)
  | .call f as, sc, rs, X, e, h, G => by
    obtain ⟨es, p, q, rfl, h1, h2, h3⟩ := i_call h
    exact se_call G h2 h1 (sA as h3 G) h3
  | .bi f own as, sc, rs, X, e, h, G => by
    obtain ⟨es, p, q, rfl, h1, h2⟩ := i_bi h
    exact se_bi G h1 (sA as h2 G) h2
  | .isi a t, sc, rs, X, e, h, G => by
    obtain ⟨x, p, p2, q, rfl, h1, h2, h3⟩ := i_isi h
    exact se_isi G h1 h2 (sE a h3 G) (pl_of h3 G.sup)
  | .mt m own a as, sc, rs, X, e, h, G => by
    obtain ⟨o, es, ap, q, rfl, h1, h2, h3, h4, h5⟩ := i_mt h
    exact se_mt G h1 h2 h3 (sE a h4 G) (pl_of h4 G.sup) (sA as h5 G) h5
  | .lc own ow elt t ik ia c, sc, rs, X, e, h, G => by
    obtain ⟨x, tg, iter, ifs, scope, p, rfl, h1, h2, h3, h4, h5, h6⟩ := i_lc h
    have hb := blkOk_by h1
    obtain ⟨hi, hf⟩ := sI ia h4 G
    have Gb := fun s H Cc cl fp => G.blk scope s H Cc cl fp hb.kind
    exact PE.imp (pe_lc G.calm (by rw [G.nN]; exact G.nd) hi (by rw [G.nN, G.sc]; exact hb) (fun s H Cc cl fp => sg (Gb s H Cc cl fp) h3) (fun s H Cc cl fp => sC c h5 (Gb s H Cc cl fp)) (fun s H Cc cl fp => sE elt h6 (Gb s H Cc cl fp)) hf)
      (se_lc G hb h2 hi hf (fun s H Cc cl fp => sg (Gb s H Cc cl fp) h3) (fun s H Cc cl fp => sC c h5 (Gb s H Cc cl fp)) (fun s H Cc cl fp => sE elt h6 (Gb s H Cc cl fp)))
  | .dnew tk, sc, rs, X, e, h, G => by
    obtain ⟨p, rfl⟩ := i_dnew h
    exact se_dnew
  | .lset a, sc, rs, X, e, h, G => by
    obtain ⟨x, p1, p2, p3, p, rfl, h1, h2, h3⟩ := i_lset h
    exact se_lset G h1 h2 (sE a h3 G) (pl_of h3 G.sup)
theorem sT : ∀ (m : ME) {sc rs : Scope} {X : Cx} {e : PySem.Expr}, cE N sc m e = true → tM m = true → Good C g k N sc rs X → PT X e (LT X.K (wT C g m))
  | .not a, sc, rs, X, e, h, ht, G => by
    obtain ⟨x, p, rfl, h1⟩ := i_not h
    exact st_not (sT a h1 ht G)
  | .and a b, sc, rs, X, e, h, ht, G => by
    have ht' : tM a = true ∧ tM b = true := by
      rw [← Bool.and_eq_true]
      exact ht
    obtain ⟨x, y, r, p, rfl, h1, ⟨rfl, h2⟩ | ⟨z, t, rfl, h2⟩⟩ := i_and h
    · exact PW.pt (sw_and (sT a h1 ht'.1 G) (sw_one (sT b h2 ht'.2 G)))
    · exact PW.pt (sw_and (sT a h1 ht'.1 G) (sW b h2 ht'.2 G))
  | .or a b, sc, rs, X, e, h, ht, G => by
    have ht' : tM a = true ∧ tM b = true := by
      rw [← Bool.and_eq_true]
      exact ht
    obtain ⟨x, y, r, p, rfl, h1, ⟨rfl, h2⟩ | ⟨z, t, rfl, h2⟩⟩ := i_or h
    · exact PW.pt (sw_or (sT a h1 ht'.1 G) (sw_one (sT b h2 ht'.2 G)))
    · exact PW.pt (sw_or (sT a h1 ht'.1 G) (sW b h2 ht'.2 G))
  | .cmp o a b, sc, rs, X, e, h, _, G => by
    obtain ⟨l, r, p, rfl, h1, h2⟩ := i_cmp h
    exact st_cmp G (sE a h1 G) (sE b h2 G) (pl_of h2 G.sup)
  | .chain o o2 a b c, sc, rs, X, e, h, _, G => by
    obtain ⟨l, m, r, p, rfl, h1, h2, h3⟩ := i_chain h
    exact st_chain G (sE a h1 G) (sE b h2 G) (sE c h3 G) (pl_of h3 G.sup)
  | .call f as, sc, rs, X, e, h, _, G => by
    obtain ⟨es, p, q, rfl, h1, h2, h3⟩ := i_call h
    exact st_val (se_call G h2 h1 (sA as h3 G) h3) (pl_of h G.sup) rfl
  | .bi f own as, sc, rs, X, e, h, _, G => by
    obtain ⟨es, p, q, rfl, h1, h2⟩ := i_bi h
    exact st_val (se_bi G h1 (sA as h2 G) h2) (pl_of h G.sup) rfl
  | .isi a t, sc, rs, X, e, h, _, G => by
    obtain ⟨x, p, p2, q, rfl, h1, h2, h3⟩ := i_isi h
    exact st_val (se_isi G h1 h2 (sE a h3 G) (pl_of h3 G.sup)) (pl_of h G.sup) rfl
  | .var i x, sc, rs, X, e, h, _, G => by
    obtain ⟨p, rfl, h1⟩ := i_var h
    exact st_val (se_var G h1) rfl rfl
  | .cst c, sc, rs, X, e, h, _, G => by
    obtain ⟨j, p, rfl⟩ := i_cst h
    exact st_val se_cst rfl rfl
  | .idx a i, sc, rs, X, e, h, _, G => by
    obtain ⟨x, y, p, rfl, h1, h2⟩ := i_idx h
    exact st_val (se_idx G (sE a h1 G) (sE i h2 G) (pl_of h2 G.sup)) rfl rfl
  | .mt m own a as, sc, rs, X, e, h, _, G => by
    obtain ⟨o, es, ap, q, rfl, h1, h2, h3, h4, h5⟩ := i_mt h
    exact st_val (se_mt G h1 h2 h3 (sE a h4 G) (pl_of h4 G.sup) (sA as h5 G) h5) (pl_of h G.sup) rfl
  | .glob x, sc, rs, X, e, h, _, G => by
    obtain ⟨p, rfl, h1⟩ := i_glob h
    exact st_val (se_glob G h1) rfl rfl
  | .tup as, sc, rs, X, e, h, _, G => by
    obtain ⟨es, n, p, rfl, h1⟩ := i_tup h
    exact st_val (se_tup (sA as h1 G)) rfl rfl
  | .lst own as, sc, rs, X, e, h, _, G => by
    obtain ⟨es, p, rfl, h1⟩ := i_lst h
    exact st_val (se_lst (sA as h1 G)) rfl rfl
  | .bin o own a b, sc, rs, X, e, h, _, G => by
    obtain ⟨l, r, p, rfl, h1, h2⟩ := i_bin h
    exact st_val (se_bin (sE a h1 G) (sE b h2 G)) rfl rfl
  | .neg a, sc, rs, X, e, h, _, G => by
    obtain ⟨x, p, rfl, h1⟩ := i_neg h
    exact st_val (se_neg (sE a h1 G)) rfl rfl
  | .sl own a lo hi, sc, rs, X, e, h, _, G => by
    obtain ⟨x, l, r, p2, p, rfl, h1, h2, h3⟩ := i_sl h
    exact st_val (se_sl (sE a h1 G) (sO lo h2 G) (sO hi h3 G)) rfl rfl
  | .dnew tk, sc, rs, X, e, h, _, G => by
    obtain ⟨p, rfl⟩ := i_dnew h
    exact st_val se_dnew rfl rfl
  | .lset a, sc, rs, X, e, h, _, G => by
    obtain ⟨x, p1, p2, p3, p, rfl, h1, h2, h3⟩ := i_lset h
    exact st_val (se_lset G h1 h2 (sE a h3 G) (pl_of h3 G.sup)) (show (("len" : PySem.Str) != "super") = true by decide +kernel) rfl
  | .lc own ow elt t ik ia c, sc, rs, X, e, h, _, G => by
    obtain ⟨x, tg, iter, ifs, scope, p, rfl, h1, h2, h3, h4, h5, h6⟩ := i_lc h
    have hb := blkOk_by h1
    obtain ⟨hi, hf⟩ := sI ia h4 G
    have Gb := fun s H Cc cl fp => G.blk scope s H Cc cl fp hb.kind
    exact st_val (PE.imp (pe_lc G.calm (by rw [G.nN]; exact G.nd) hi (by rw [G.nN, G.sc]; exact hb) (fun s H Cc cl fp => sg (Gb s H Cc cl fp) h3) (fun s H Cc cl fp => sC c h5 (Gb s H Cc cl fp)) (fun s H Cc cl fp => sE elt h6 (Gb s H Cc cl fp)) hf)
      (se_lc G hb h2 hi hf (fun s H Cc cl fp => sg (Gb s H Cc cl fp) h3) (fun s H Cc cl fp => sC c h5 (Gb s H Cc cl fp)) (fun s H Cc cl fp => sE elt h6 (Gb s H Cc cl fp)))) rfl rfl
theorem sW : ∀ (m : ME) {sc rs : Scope} {X : Cx} {o : BoolOp} {es : List PySem.Expr} {pos : Pos}, cE N sc m (.BoolOp o es pos) = true → tM m = true → Good C g k N sc rs X → PW X (.BoolOp o es pos) (LT X.K (wT C g m))
  | .and a b, sc, rs, X, o, es, pos, h, ht, G => by
    have ht' : tM a = true ∧ tM b = true := by
      rw [← Bool.and_eq_true]
      exact ht
    obtain ⟨x, y, r, p, e, h1, ⟨rfl, h2⟩ | ⟨z, t, rfl, h2⟩⟩ := i_and h
    · cases e
      exact sw_and (sT a h1 ht'.1 G) (sw_one (sT b h2 ht'.2 G))
    · cases e
      exact sw_and (sT a h1 ht'.1 G) (sW b h2 ht'.2 G)
  | .or a b, sc, rs, X, o, es, pos, h, ht, G => by
    have ht' : tM a = true ∧ tM b = true := by
      rw [← Bool.and_eq_true]
      exact ht
    obtain ⟨x, y, r, p, e, h1, ⟨rfl, h2⟩ | ⟨z, t, rfl, h2⟩⟩ := i_or h
    · cases e
      exact sw_or (sT a h1 ht'.1 G) (sw_one (sT b h2 ht'.2 G))
    · cases e
      exact sw_or (sT a h1 ht'.1 G) (sW b h2 ht'.2 G)
  | .var _ _, _, _, _, _, _, _, h, _, _ => by cases h
  | .cst _, _, _, _, _, _, _, h, _, _ => by cases h
  | .glob _, _, _, _, _, _, _, h, _, _ => by cases h
  | .tup _, _, _, _, _, _, _, h, _, _ => by cases h
  | .lst _ _, _, _, _, _, _, _, h, _, _ => by cases h
  | .bin _ _ _ _, _, _, _, _, _, _, h, _, _ => by cases h
  | .cmp _ _ _, _, _, _, _, _, _, h, _, _ => by cases h
  | .chain _ _ _ _ _, _, _, _, _, _, _, h, _, _ => by cases h
  | .neg _, _, _, _, _, _, _, h, _, _ => by cases h
  | .not _, _, _, _, _, _, _, h, _, _ => by cases h
  | .idx _ _, _, _, _, _, _, _, h, _, _ => by cases h
  | .sl _ _ _ _, _, _, _, _, _, _, h, _, _ => by cases h
  | .call _ _, _, _, _, _, _, _, h, _, _ => by cases h
  | .bi _ _ _, _, _, _, _, _, _, h, _, _ => by cases h
  | .isi _ _, _, _, _, _, _, _, h, _, _ => by cases h
  | .mt _ _ _ _, _, _, _, _, _, _, h, _, _ => by cases h
  | .lc _ _ _ _ _ _ _, _, _, _, _, _, _, h, _, _ => by cases h
  | .dnew _, _, _, _, _, _, _, h, _, _ => by cases h
  | .lset _, _, _, _, _, _, _, h, _, _ => by cases h
theorem sA : ∀ (as : MA) {sc rs : Scope} {X : Cx} {es : List PySem.Expr}, cA N sc as es = true → Good C g k N sc rs X → PA X es (LA X.K (wA C g as))
  | .nil, sc, rs, X, es, h, G => by
    rw [i_nil h]
    exact sa_nil
  | .cons m as, sc, rs, X, es, h, G => by
    obtain ⟨x, r, rfl, h1, h2⟩ := i_cons h
    exact sa_cons (sE m h1 G) (sA as h2 G) (pl_of h1 G.sup)
theorem sO : ∀ (o : MO) {sc rs : Scope} {X : Cx} {e : Option PySem.Expr}, cO N sc o e = true → Good C g k N sc rs X → PO X e (LO X.K (wO C g o))
  | .none, sc, rs, X, e, h, G => by
    cases e with
    | none => exact so_none
    | some x => cases h
  | .some m, sc, rs, X, e, h, G => by
    cases e with
    | none => cases h
    | some x => exact so_some (sE m h G)
theorem sC : ∀ (o : MO) {sc rs : Scope} {X : Cx} {es : List PySem.Expr}, cC N sc o es = true → Good C g k N sc rs X → PTs X es (LT X.K (wC C g o))
  | .none, sc, rs, X, es, h, G => by
    match es, h with
    | [], _ => exact sc_none
    | _ :: _, h => cases h
  | .some m, sc, rs, X, es, h, G => by
    match es, h with
    | [], h => cases h
    | [x], h =>
      have h' : (tM m && cE N sc m x) = true := h
      rw [Bool.and_eq_true] at h'
      exact sc_some (sT m h'.2 h'.1 G)
    | _ :: _ :: _, h => cases h
theorem sI : ∀ (as : MA) {ik : ItK} {sc rs : Scope} {X : Cx} {e tg : PySem.Expr}, cI N sc ik as e (tupE tg) = true → Good C g k N sc rs X → PI X tg e (LI X.K fun ρ S q => wA C g as ρ S fun vs S1 => itS ik vs S1 fun l => q l S1) ∧ ∀ x, foldedSetIterable e X.env x = pure x
  | .nil, ik, sc, rs, X, e, tg, h, G => by
    rcases i_it h with ⟨rfl, m, h0, _⟩ | ⟨rfl, a, p, q, rfl, h1, h2⟩ | ⟨rfl, a, b, p, q, rfl, h1, h2⟩ | ⟨rfl, ht, a, p, q, rfl, h1, h2⟩ | ⟨rfl, ht, a, b, p, q, rfl, h1, h2⟩
    · cases h0
    · cases h2
    · cases h2
    · cases h2
    · cases h2
  | .cons m as, ik, sc, rs, X, e, tg, h, G => by
    rcases i_it h with ⟨rfl, m', h0, h1⟩ | ⟨rfl, a, p, q, rfl, h1, h2⟩ | ⟨rfl, a, b, p, q, rfl, h1, h2⟩ | ⟨rfl, ht, a, p, q, rfl, h1, h2⟩ | ⟨rfl, ht, a, b, p, q, rfl, h1, h2⟩
    · cases h0
      exact ⟨si_seq (sE m h1 G), pl_fold (pl_of h1 G.sup) X.env⟩
    · obtain ⟨x, r, e1, h3, h4⟩ := i_cons h2
      cases e1
      exact ⟨si_rng1 G h1 (sa_cons (sE m h3 G) (sA as h4 G) (pl_of h3 G.sup)) (pl_of h3 G.sup), fun _ => rfl⟩
    · obtain ⟨x, r, e1, h3, h4⟩ := i_cons h2
      cases e1
      have hb : plE b = true := by
        match as, h4 with
        | .cons m2 as2, h4 =>
          obtain ⟨x, r, e1, h5, h6⟩ := i_cons h4
          cases e1
          exact pl_of h5 G.sup
        | .nil, h4 => cases h4
      exact ⟨si_rng2 G h1 (sa_cons (sE m h3 G) (sA as h4 G) (pl_of h3 G.sup)) (pl_of h3 G.sup) hb, fun _ => rfl⟩
    · obtain ⟨x, r, e1, h3, h4⟩ := i_cons h2
      cases e1
      exact ⟨si_enum G h1 (sa_cons (sE m h3 G) (sA as h4 G) (pl_of h3 G.sup)) (pl_of h3 G.sup) ht, fun _ => rfl⟩
    · obtain ⟨x, r, e1, h3, h4⟩ := i_cons h2
      cases e1
      have hb : plE b = true := by
        match as, h4 with
        | .cons m2 as2, h4 =>
          obtain ⟨x, r, e1, h5, h6⟩ := i_cons h4
          cases e1
          exact pl_of h5 G.sup
        | .nil, h4 => cases h4
      exact ⟨si_zip G h1 (sa_cons (sE m h3 G) (sA as h4 G) (pl_of h3 G.sup)) (pl_of h3 G.sup) hb ht, fun _ => rfl⟩
end
end
end Sy

namespace Sy
open PySem PySem.Spec PyProof.Rows L2
/-! ### a lambda is made -/
section
variable {X : Cx} {pins : List (Addr × Obj)} {σ : L2.St} {H : Hp} {s : Shared}
end
section
variable {K : PySem.W.Frag} {F M H : Hp} {S : Sto} {c P c' : Addr} {ps more : Array Value}
end
/-! ### the base that a callee sees: all that no one but the running frames may change -/
open Classical in
noncomputable def hidH (H : Hp) (l : List Addr) : Hp := fun b => if b ∈ l then some (.tbl #[]) else H b
noncomputable def hidF (h : Heap) (H : Hp) (l : List Addr) : Heap := hidT h (hidH H l)
section
variable {X : Cx} {pins : List (Addr × Obj)} {σ : L2.St} {H : Hp} {s : Shared}
theorem Mod.keep {K : PySem.W.Frag} {mg : PySem.Str → Option Value} {base base' : Heap} (m : L2.Mod K mg base) (h : ∀ b o, base.get? b = some o → base'.get? b = some o) : L2.Mod K mg base' :=
  ⟨m.kin.keeps h, m.glob.keeps h, let ⟨mb, h1, h2⟩ := m.blt; ⟨mb, h1.keeps h, h2⟩, m.nolimit.keeps h⟩
end
/-! ### the lambda's promise -/
theorem CellsAt.up {cl : List (PySem.Str × Addr)} {fr : List PySem.Str} {ws : List (Option V)} {base h : Heap} {H0 H : Hp} (C : NdefX.CellsAt cl fr ws base H0) (e : ∀ b o, base.get? b = some o → h.get? b = some o ∧ H b = none) : NdefX.CellsAt cl fr ws h H := by
  have up : ∀ {c v}, base.IsCell c v → h.IsCell c v := fun {c v} ⟨o, ho, hd⟩ => ⟨o, (e _ _ ho).1, hd⟩
  refine ⟨C.len, fun y c hy => ?_, C.inj, fun i y hi => ?_⟩
  · obtain ⟨_, v, o, ho, hd⟩ := C.all y c hy
    exact ⟨(e _ _ ho).2, v, o, (e _ _ ho).1, hd⟩
  · obtain ⟨c, hc, hv⟩ := C.has i y hi
    refine ⟨c, hc, fun v ev => ?_⟩
    obtain ⟨u, ru, z⟩ := hv v ev
    exact ⟨u, ru, up z⟩
end Sy

namespace Sy
open PySem PySem.Spec PyProof.Rows L2
/-! ### a call with a lambda -/
/-- what the def that makes lambdas needs -/
structure LamC (C : Cls) (k : Nat) (N : Ck) (X : Cx) : Prop where
  qn : X.env.qual ++ "<lambda>" = lamQ
  fn : ∀ x, X.fn x = true
  tab : ∃ c P, X.env.code = .ref c ∧ LamAt X.K c P ∧ LamX.TabB X.base X.mg c P
  low : ∀ k2, C.lv = k2 + 2 → ∃ C2 : Cal, ((∀ x S, ¬ C2 "<is lambda>" [x] S fun _ _ => True) ∧ ((∃ f vs S Q, C2 f vs S Q) → 1 ≤ k2)) ∧ ∀ base', (∀ b o, X.base.get? b = some o → base'.get? b = some o) →
    (∀ f ∈ N.T, ∃ a fd ps, X.mg f = some (.ref a) ∧ FnOk X.prog X.w X.K X.mg base' CX0 (2 * k2) a fd ps (LSp X.K (C2 f)) ∧ PySem.W.keepIn X.K (.ref a) = true ∧ Binds X.K fd ps []) ∧
    ∀ f ∈ N.T, ∃ a fd ps, X.mg f = some (.ref a) ∧ PySem.W.keepIn X.K (.ref a) = true ∧ Binds X.K fd ps [] ∧ ∀ (p c' : Addr) (cs : List SV) (ws : List V) (R : Cal → List SV → Sto → SK → Prop), PySem.W.FnAt p base' →
      (∃ fdL psL, FnOk X.prog X.w X.K X.mg base' CX0 (2 * (k2 + 1)) p fdL psL (fun vs H Q E => LSp X.K (fun xs S Q => ∃ us, xs = .lam p c' cs ws :: us ∧ R C2 us S Q) (.ref p :: vs) H Q E) ∧ Binds X.K fdL psL []) →
      FnOk X.prog X.w X.K X.mg base' CX0 k a fd ps (LSp X.K (C.l f (.lam p c' cs ws) R))
section
variable {C : Cls} {g : PySem.Str → Option SV} {k : Nat} {N : Ck} {sc : Scope} {X : Cx}
end
end Sy

namespace Sy
open PySem PySem.Spec PyProof.Rows L2
/-! ### statements -/
/-- an exception's object and its class -/
def RepX (K : PySem.W.Frag) (F : Hp) (e : Ex) (cls : Value) (dx : Option Addr) : Prop := ∃ C, cls = .ref C ∧ ClsK K e.c C ∧ ExF K F dx e.w
theorem RepX.mono {K : PySem.W.Frag} {F F' : Hp} {e : Ex} {cls : Value} {dx : Option Addr} (s : Same F F') (h : RepX K F e cls dx) : RepX K F' e cls dx := by
  obtain ⟨C, h1, h2, h3⟩ := h
  exact ⟨C, h1, h2, h3.mono s⟩
def Kx (K : PySem.W.Frag) (F M : Hp) (ex : XS) (E : XK) : Prop := ∀ F' S' H' e cls dx, Same F F' → Sim K F' M S' H' → RepX K F' e cls dx → ex e S' → E cls dx H'
theorem Kx.mono {K : PySem.W.Frag} {F F' M : Hp} {ex : XS} {E : XK} (e : Same F F') (h : Kx K F M ex E) : Kx K F' M ex E := fun F2 S' H' x c d s q r z => h F2 S' H' x c d (e.trans s) q r z
def LSpX (K : PySem.W.Frag) (c : List SV → Sto → SK → XS → Prop) : Sp := fun vs H Q E => ∃ F M S xs k ex, RepL K F xs vs ∧ Sim K F M S H ∧ c xs S k ex ∧ Kk K F M k Q ∧ Kx K F M ex E
structure EndsOk (K : PySem.W.Frag) (F M : Hp) (W : WX) (ex : XS) (d : SD) (D : Ends) : Prop where
  nx : ∀ F' S' H' ρ σ, Same F F' → Sim K F' M S' H' → RepR K F' ρ σ → d.nx ρ S' → D.nx σ H'
  rt : Kk K F M d.rt D.rt
  bk : ∀ F' S' H' ρ σ, Same F F' → Sim K F' M S' H' → RepR K F' ρ σ → d.bk ρ S' → D.bk σ H'
  ct : ∀ F' S' H' ρ σ, Same F F' → Sim K F' M S' H' → RepR K F' ρ σ → d.ct ρ S' → D.ct σ H'
  x : ∀ σ, Kx K F M ex fun cls dx H' => W cls dx σ H'
theorem EndsOk.mono {K : PySem.W.Frag} {F F' M : Hp} {W : WX} {ex : XS} {d : SD} {D : Ends} (e : Same F F') (h : EndsOk K F M W ex d D) : EndsOk K F' M W ex d D :=
  ⟨fun F2 S' H' ρ σ s q r z => h.nx F2 S' H' ρ σ (e.trans s) q r z, h.rt.mono e, fun F2 S' H' ρ σ s q r z => h.bk F2 S' H' ρ σ (e.trans s) q r z, fun F2 S' H' ρ σ s q r z => h.ct F2 S' H' ρ σ (e.trans s) q r z, fun σ => (h.x σ).mono e⟩
def LS (K : PySem.W.Frag) (W : WX) (ex : XS) (t : SS) : TS := fun D σ H => ∃ F M S ρ d, RepR K F ρ σ ∧ Sim K F M S H ∧ t d ρ S ∧ EndsOk K F M W ex d D
/-- the calls that may raise -/
def FnX (C : Cls) (k : Nat) (N : Ck) (X : Cx) : Prop := 2 * C.lv = k ∧ (∀ f, C.fs f → f ∈ N.T) ∧ (∀ f ∈ N.T, ∃ a fd ps, X.mg f = some (.ref a) ∧ FnOk X.prog X.w X.K X.mg X.base (L2.CX X.prog X.w) k a fd ps (LSpX X.K (C.x f)) ∧ PySem.W.keepIn X.K (.ref a) = true ∧ Binds X.K fd ps []) ∧ (N.L = true → LamC C k N X) ∧
  ∀ f c m, (f, c, m) ∈ N.M → ∃ Ca a fd ps, InsK X.K c Ca ∧ Meth X.K Ca m a ∧ FnOk X.prog X.w X.K X.mg X.base (L2.CX X.prog X.w) k a fd ps (LSpX X.K (C.x f)) ∧ Binds X.K fd ps []
section
variable {C : Cls} {W : WX} {g : PySem.Str → Option SV} {k : Nat} {N : Ck} {sc : Scope} {X : Cx}
theorem ss_pass {pos : Pos} : PS X (.Pass pos) (LS X.K W C.ex (wS C g .pass)) := PS.imp ps_pass fun D σ H z => by
  obtain ⟨F, M, S, ρ, d, r, q, h, kk⟩ := z
  exact kk.nx F S H ρ σ Same.rfl' q r h
theorem ss_brk {pos : Pos} : PS X (.Break pos) (LS X.K W C.ex (wS C g .brk)) := PS.imp ps_break fun D σ H z => by
  obtain ⟨F, M, S, ρ, d, r, q, h, kk⟩ := z
  exact kk.bk F S H ρ σ Same.rfl' q r h
theorem ss_cont {pos : Pos} : PS X (.Continue pos) (LS X.K W C.ex (wS C g .cont)) := PS.imp ps_continue fun D σ H z => by
  obtain ⟨F, M, S, ρ, d, r, q, h, kk⟩ := z
  exact kk.ct F S H ρ σ Same.rfl' q r h
theorem ss_never {st : PySem.Stmt} : PS X st (LS X.K W C.ex (wS C g .never)) := PS.imp ps_never fun D σ H z => by
  obtain ⟨F, M, S, ρ, d, r, q, h, kk⟩ := z
  exact h
theorem ss_ret {m : ME} {e : PySem.Expr} {pos : Pos} (he : PE X e (LE X.K (wE C.c g m))) : PS X (.Return (some e) pos) (LS X.K W C.ex (wS C g (.ret m))) := PS.imp (ps_ret he) fun D σ H z => by
  obtain ⟨F, M, S, ρ, d, r, q, h, kk⟩ := z
  exact ⟨F, M, S, ρ, d.rt, r, q, h, kk.rt⟩
theorem ss_retN {pos : Pos} : PS X (.Return none pos) (LS X.K W C.ex (wS C g .retN)) := PS.imp ps_retN fun D σ H z => by
  obtain ⟨F, M, S, ρ, d, r, q, h, kk⟩ := z
  exact kk.rt.go q (show RepV X.K F .non .non from rfl) h
theorem ss_ex {m : ME} {e : PySem.Expr} {pos : Pos} (he : PE X e (LE X.K (wE C.c g m))) (hp : plE e = true) (hl : lcE e = false) : PS X (.Expr e pos) (LS X.K W C.ex (wS C g (.ex m))) := PS.imp (ps_expr he (pl_swap hp hl none pos.line X.env)) fun D σ H z => by
  obtain ⟨F, M, S, ρ, d, r, q, h, kk⟩ := z
  exact LE.bind r q h fun F1 S1 H1 x v e1 q1 rx r1 h1 => kk.nx F1 S1 H1 ρ σ e1 q1 r1 h1
theorem ss_if {c : ME} {a b : MB} {t : PySem.Expr} {x y : List PySem.Stmt} {pos : Pos} (hc : PT X t (LT X.K (wT C.c g c))) (ha : PSs X x (LS X.K W C.ex (wB C g a))) (hb : PSs X y (LS X.K W C.ex (wB C g b))) : PS X (.If t x y pos) (LS X.K W C.ex (wS C g (.ifs c a b))) := PS.imp (ps_if hc ha hb) fun D σ H z => by
  obtain ⟨F, M, S, ρ, d, r, q, h, kk⟩ := z
  refine LT.bind r q h fun F1 S1 H1 p e1 q1 r1 h1 => ?_
  cases p with
  | true => exact ⟨F1, M, S1, ρ, d, r1, q1, h1, kk.mono e1⟩
  | false => exact ⟨F1, M, S1, ρ, d, r1, q1, h1, kk.mono e1⟩
theorem asg_ok {m : ME} {t : MT} {D : Ends} {σ : L2.St} {H : Hp} (z : LS X.K W C.ex (wS C g (.asg t m)) D σ H) : LE X.K (wE C.c g m) σ H fun x H1 => gTg X.K t x σ H1 D.nx := by
  obtain ⟨F, M, S, ρ, d, r, q, h, kk⟩ := z
  exact LE.bind r q h fun F1 S1 H1 x v e1 q1 rx r1 h1 => tg_ok q1 rx r1 h1 fun ρ' σ' rr hk => kk.nx F1 S1 H1 ρ' σ' e1 q1 rr hk
theorem swapped_none {tg v : PySem.Expr} {env : Env} {N : List PySem.Str} {rs : Scope} {t : MT} (ht : tgE N rs t tg = true) (h : (tupE tg && tupE v) = false) : swappedStores [tg] v env = pure none := by
  cases t with
  | one i x =>
    cases tg <;> first | (cases ht; done) | rfl
  | many l =>
    cases tg <;> first | (cases ht; done) | skip
    cases v <;> first | rfl | (cases h; done)
theorem ass_each {tg : PySem.Expr} {env : Env} {N : List PySem.Str} {rs : Scope} {t : MT} (ht : tgE N rs t tg = true) : List.map (fun x => x.2) (assignEach [tg] env) = [assign tg env] := by
  cases t with
  | one i x => cases tg <;> first | (cases ht; done) | rfl
  | many l => cases tg <;> first | (cases ht; done) | rfl
theorem ss_asg (G : Good C.c g k N sc sc X) {m : ME} {t : MT} {tg v : PySem.Expr} {pos : Pos} (ht : tgE N.N sc t tg = true) (hm : cE N sc m v = true) (h2 : (tupE tg && tupE v) = false) : PS X (.Assign [tg] v pos) (LS X.K W C.ex (wS C g (.asg t m))) := by
  have hp := pl_of hm G.sup
  have plain : ∀ (hs : swapsWithSole [tg] v pos.line X.env = pure false), PS X (.Assign [tg] v pos) (LS X.K W C.ex (wS C g (.asg t m))) := fun hs =>
    PS.imp (ps_asg (sE m hm G) (sg G ht) hs (swapped_none ht h2) (ass_each ht)) fun D σ H z => asg_ok z
  by_cases hl : lcE v = true
  · cases m with
    | lc own ow elt tt ik ia c =>
      obtain ⟨x, tg2, iter, ifs, scope, p, rfl, h1, h2', h3, h4, h5, h6⟩ := i_lc hm
      cases t with
      | many l =>
        cases tg <;> first | (cases ht; done) | exact plain rfl
      | one i y =>
        cases tg <;> first | (cases ht; done) | skip
        rename_i y' py
        have ht' : (decide (y = y') && stE N.N sc i y) = true := ht
        simp only [Bool.and_eq_true, decide_eq_true_eq] at ht'
        obtain ⟨rfl, hst⟩ := ht'
        have es : swapsWith (.ListComp x [⟨tg2, iter, ifs, 0⟩] scope p) (some (.Name y py)) pos.line X.env = pure (X.env.blockKind == ScopeKind.function && X.env.kindOf y == some NameKind.local && py.line == p.line && !scope.names.any fun (n, k) => n == y && (k == NameKind.local || k == NameKind.cell)) := rfl
        cases hb : (X.env.blockKind == ScopeKind.function && X.env.kindOf y == some NameKind.local && py.line == p.line && !scope.names.any fun (n, k) => n == y && (k == NameKind.local || k == NameKind.cell)) with
        | false =>
          rw [hb] at es
          exact plain es
        | true =>
          rw [hb] at es
          have hb2 := blkOk_by h1
          obtain ⟨hi, hf⟩ := sI (C := C.c) (g := g) (tg := tg2) ia h4 G
          have Gb := fun s H Cc cl fp => G.blk scope s H Cc cl fp hb2.kind
          have hyl : X.env.scope.names.lookup y = some .local := by
            simp only [Bool.and_eq_true] at hb
            have q := hb.1.1.2
            exact beq_iff_eq.mp q
          have hi' : N.N[i]? = some y := by
            unfold stE at hst
            simp only [Bool.and_eq_true, decide_eq_true_eq] at hst
            exact hst.1
          have hg := fun s H Cc cl fp => sg (Gb s H Cc cl fp) h3
          have hc := fun s H Cc cl fp => sC (C := C.c) (g := g) c h5 (Gb s H Cc cl fp)
          have he := fun s H Cc cl fp => sE (C := C.c) (g := g) elt h6 (Gb s H Cc cl fp)
          exact PS.imp (ps_setLc G.calm (by rw [G.nN]; exact G.nd) (by rw [G.nN]; exact hi') hyl es hi (by rw [G.nN, G.sc]; exact hb2) hg hc he hf)
            fun D σ H z => se_lc G hb2 h2' hi hf hg hc he σ H _ (asg_ok z)
    | _ =>
      exfalso
      revert hm
      clear plain
      cases v <;> first | (cases hl; done) | skip
      intro hm
      unfold cE at hm
      simp at hm
  · have hl' : lcE v = false := by simpa using hl
    exact plain (pl_swap hp hl' (some tg) pos.line X.env)
theorem pl_put {l j : PySem.Expr} {p : Pos} (h : plE j = true) (env : Env) (v : Value) : assign (.Subscript l j p) env v = (do
    let ov ← holding [v] (eval l env)
    let iv ← holding [v, ov] (eval j env)
    standAt p
    holding [v, ov, iv] (setItem ov iv v)
    release [v, ov, iv] []) := by
  cases j <;> first | rfl | (cases h; done)
theorem set_LD (hu : X.A.units + 1 < cLine) : PSet X (fun o i v H Q => rSetL o i v H Q ∨ rSetD o i v H Q) := by
  intro pins s σ H o i v ov iv u Q I ro ri rv h
  rcases h with h | h
  · exact set_list pins s σ H o i v ov iv u Q I ro ri rv h
  · exact set_dict hu pins s σ H o i v ov iv u Q I ro ri rv h
theorem put_ok {K : PySem.W.Frag} {F M H : Hp} {S : Sto} (q : Sim K F M S H) {p : Addr} {d d' : SO} {y x : SV} {u v : V} (ry : RepV K F y u) (rx : RepV K F x v) (h : dicW S p = some d) (g : putD d y x = some d') (hz : lenD d < sizeLine) : ∃ H4, DPut H p u v H4 ∧ Sim K F M (supd S p d') H4 := by
  have hd : S p = some d ∧ ((∃ ks l, d = .dK ks l) ∨ ∃ ks l, d = .dT ks l) := by
    unfold dicW at h
    split at h
    · rename_i ks l e
      cases h
      exact ⟨e, .inl ⟨_, _, rfl⟩⟩
    · rename_i ks l e
      cases h
      exact ⟨e, .inr ⟨_, _, rfl⟩⟩
    · cases h
  obtain ⟨e, hd⟩ := hd
  obtain ⟨_, uo, hu, hr⟩ := q.s _ _ e
  rcases hd with ⟨ks, l, rfl⟩ | ⟨ks, l, rfl⟩
  · obtain ⟨vs, rfl, hl, r⟩ := hr
    obtain ⟨k, g1, g2⟩ := Option.map_eq_some_iff.mp g
    obtain ⟨ws, w1, w2, w3⟩ := putX_ok (k := k) r hl rx
    refine ⟨_, .inl ⟨_, k, hu, keyOf_ok ry g1, ?_, rfl⟩, ?_⟩
    · rw [List.length_zip, ← hl, Nat.min_self]
      exact hz
    · rw [← g2, w1]
      exact q.set e ⟨ws, rfl, w2, w3⟩
  · obtain ⟨vs, rfl, hl, r⟩ := hr
    obtain ⟨k, g1, g2⟩ := Option.map_eq_some_iff.mp g
    obtain ⟨b, b1, b2⟩ := tKey_ok q ry g1
    obtain ⟨ws, w1, w2, w3⟩ := putX_ok (k := k) r hl rx
    refine ⟨_, .inr ⟨_, k, b, hu, b1, b2, ?_, rfl⟩, ?_⟩
    · rw [List.length_zip, ← hl, Nat.min_self]
      exact hz
    · rw [← g2, w1]
      exact q.set e ⟨ws, rfl, w2, w3⟩
theorem ss_setIx (G : Good C.c g k N sc sc X) {a i m : ME} {l j v : PySem.Expr} {p pos : Pos} (ha : PE X l (LE X.K (wE C.c g a))) (hi : PE X j (LE X.K (wE C.c g i))) (hm : PE X v (LE X.K (wE C.c g m))) (hp : plE v = true) (hj : plE j = true) :
    PS X (.Assign [.Subscript l j p] v pos) (LS X.K W C.ex (wS C g (.setIx a i m))) := by
  have sw : swapsWithSole [.Subscript l j p] v pos.line X.env = pure false := by cases v <;> rfl
  refine PS.imp (ps_asg hm (pg_sub ha hi (set_LD (by have := G.room.units; omega)) (pl_put hj X.env)) sw) fun D σ H z => ?_
  obtain ⟨F, M, S, ρ, d, r, q, h, kk⟩ := z
  refine LE.bind r q h fun F1 S1 H1 x v e1 q1 rx r1 h1 => LE.bind r1 q1 h1 fun F2 S2 H2 y u e2 q2 ry r2 h2 => LE.bind r2 q2 h2 fun F3 S3 H3 z w e3 q3 rz r3 h3 => ?_
  unfold setS at h3
  split at h3
  · split at h3
    · rename_i p d hd
      obtain ⟨d', o1, o2, o3⟩ := h3
      have rx3 := RepV.mono (e2.trans e3) _ _ rx
      obtain ⟨H4, g, q4⟩ := put_ok q3 rz rx3 hd o1 o2
      exact .inr ⟨_, H4, ry, g, kk.nx F3 _ _ ρ σ ((e1.trans e2).trans e3) q4 r3 o3⟩
    · obtain ⟨i, l, j, rfl, o1, o2, o3⟩ := h3
      obtain ⟨_, uo, hu, vs, rfl, hl⟩ := q3.s _ _ o1
      have rx3 := RepV.mono (e2.trans e3) _ _ rx
      refine .inl ⟨_, vs, _, j, ry, rz, hu, by rw [← hl.length]; exact o2, ?_⟩
      exact kk.nx F3 _ _ ρ σ ((e1.trans e2).trans e3) (q3.set (o' := .lst (l.set j x)) (u := .lst (vs.set j v)) o1 ⟨_, rfl, RepL.set j hl rx3⟩) r3 o3
  · cases h3
/-- loops -/
theorem ss_for (G : Good C.c g k N sc sc X) (hpo : PassesOwn (model X.prog X.w) X.A X.env X.xe) {t : MT} {ik : ItK} {ia : MA} {body : MB} {tg iter : PySem.Expr} {st : List PySem.Stmt} {pos : Pos} (hi : PI X tg iter (LI X.K fun ρ S q => wA C.c g ia ρ S fun vs S1 => itS ik vs S1 fun l => q l S1))
    (hf : ∀ x, foldedSetIterable iter X.env x = pure x) (hg : PG X tg (gTg X.K t)) (hb : PSs X st (LS X.K W C.ex (wB C g body))) : PS X (.For tg iter st [] pos) (LS X.K W C.ex (wS C g (.for_ t ik ia body))) := PS.imp (ps_for hpo G.calm hi hg hb hf) fun D σ H z => by
  obtain ⟨F, M, S, ρ, d, r, q, h, kk⟩ := z
  refine ⟨F, M, S, ρ, _, r, q, h, fun F1 S1 H1 l J e1 q1 hJ h1 => ?_⟩
  refine ⟨fun i m σ' H' => i + m = l.length ∧ ∃ (F' : Hp) (S' : Sto) (ρ' : Ro), Same F1 F' ∧ Sim X.K F' M S' H' ∧ RepR X.K F' ρ' σ' ∧ forRun t (wB C g body) d (l.drop i) ρ' S', ⟨l.length, by omega, F1, S1, ρ, Same.rfl', q1, r.mono e1, h1⟩, fun i m σ' H' hW => ?_⟩
  obtain ⟨em, F', S', ρ', s1, q2, r2, h2⟩ := hW
  obtain ⟨j1, j2, j3⟩ := hJ F' M S' H' s1 q2
  by_cases hlt : i < l.length
  · rw [List.drop_eq_getElem_cons hlt] at h2
    refine .inr ⟨j1 i hlt, fun σ'' H'' => ∃ (F' : Hp) (S' : Sto) (ρ' : Ro), Same F1 F' ∧ Sim X.K F' M S' H'' ∧ RepR X.K F' ρ' σ'' ∧ forRun t (wB C g body) d (l.drop (i + 1)) ρ' S', fun σ'' H'' hN => ⟨m - 1, by omega, by omega, hN⟩, fun x H'' hy => ?_⟩
    obtain ⟨F2, s2, q3, rx⟩ := j3 i _ (List.getElem?_eq_getElem hlt) x H'' hy
    refine tg_ok q3 rx (r2.mono s2) h2 fun ρ3 σ3 r3 h3 => ?_
    have s12 := s1.trans s2
    exact ⟨F2, M, S', ρ3, _, r3, q3, h3, ⟨fun F4 S4 H4 ρ4 σ4 e4 q4 r4 z => ⟨F4, S4, ρ4, s12.trans e4, q4, r4, z⟩, (kk.mono (e1.trans s12)).rt, fun F4 S4 H4 ρ4 σ4 e4 q4 r4 z => (kk.mono (e1.trans s12)).nx F4 S4 H4 ρ4 σ4 e4 q4 r4 z, fun F4 S4 H4 ρ4 σ4 e4 q4 r4 z => ⟨F4, S4, ρ4, s12.trans e4, q4, r4, z⟩, (kk.mono (e1.trans s12)).x⟩⟩
  · have hi' : i = l.length := by omega
    subst hi'
    rw [List.drop_length] at h2
    exact .inl ⟨j2, kk.nx F' S' H' ρ' σ' (e1.trans s1) q2 r2 h2⟩
theorem ss_whl (hpo : PassesOwn (model X.prog X.w) X.A X.env X.xe) {c : ME} {body : MB} {t : PySem.Expr} {st : List PySem.Stmt} {pos : Pos} (hc : PT X t (LT X.K (wT C.c g c))) (hb : PSs X st (LS X.K W C.ex (wB C g body))) : PS X (.While t st [] pos) (LS X.K W C.ex (wS C g (.whl c body))) := PS.imp (ps_while hpo hc hb) fun D σ H z => by
  obtain ⟨F, M, S, ρ, d, r, q, ⟨W, ⟨m0, w0⟩, turn⟩, kk⟩ := z
  refine ⟨fun m σ' H' => ∃ (F' : Hp) (S' : Sto) (ρ' : Ro), Same F F' ∧ Sim X.K F' M S' H' ∧ RepR X.K F' ρ' σ' ∧ W m ρ' S', ⟨m0, F, S, ρ, Same.rfl', q, r, w0⟩, fun m σ' H' hW => ?_⟩
  obtain ⟨F', S', ρ', s1, q1, r1, w1⟩ := hW
  refine LT.bind r1 q1 (turn m ρ' S' w1) fun F2 S2 H2 p e2 q2 r2 h2 => ?_
  have s12 := s1.trans e2
  cases p with
  | true =>
    refine ⟨fun σ3 H3 => ∃ m', m' < m ∧ ∃ (F' : Hp) (S' : Sto) (ρ' : Ro), Same F F' ∧ Sim X.K F' M S' H3 ∧ RepR X.K F' ρ' σ3 ∧ W m' ρ' S', fun _ _ n => n, ?_⟩
    exact ⟨F2, M, S2, ρ', _, r2, q2, h2, ⟨fun F4 S4 H4 ρ4 σ4 e4 q4 r4 ⟨m', l, z⟩ => ⟨m', l, F4, S4, ρ4, s12.trans e4, q4, r4, z⟩, (kk.mono s12).rt, fun F4 S4 H4 ρ4 σ4 e4 q4 r4 z => (kk.mono s12).nx F4 S4 H4 ρ4 σ4 e4 q4 r4 z, fun F4 S4 H4 ρ4 σ4 e4 q4 r4 ⟨m', l, z⟩ => ⟨m', l, F4, S4, ρ4, s12.trans e4, q4, r4, z⟩, (kk.mono s12).x⟩⟩
  | false => exact kk.nx F2 S2 H2 ρ' σ' s12 q2 r2 h2
/-! exceptions -/
section
variable {f : PySem.Str} {as : MA} {es : List PySem.Expr} {p pos pos' : Pos}
theorem pe_cx {X : Cx} {W : WX} (G : Good C.c g k N sc sc X) (Fx : FnX C k N X) (tk : Takes X W) (hf : f ∈ N.T) (hg : glE sc f = true) (ha : PA X es (LA X.K (wA C.c g as))) (hc : cA N sc as es = true) (hn : es.isEmpty = false) :
    PE X (.Call (.Name f p) es [] pos) (tCallS (LSpX X.K (C.x f)) (WE W) (LA X.K (wA C.c g as))) := by
  obtain ⟨h1, h2, h3⟩ := G.gl_ hg
  obtain ⟨a, fd, ps, hm, hF, hk, hb⟩ := Fx.2.2.1 f hf
  cases es with
  | nil => cases hn
  | cons e es =>
    cases as with
    | nil => cases hc
    | cons m as =>
      have hc' : (cE N sc m e && cA N sc as es) = true := hc
      rw [Bool.and_eq_true] at hc'
      exact pe_callS hF G.room h1 hm hk hb (fun σ => passAt tk σ) ha h2 (pl_star (pl_of hc'.1 G.sup) es X.env) (star_none G.sup hc'.2)
theorem cx_call {K : PySem.W.Frag} {F M H : Hp} {S : Sto} {ρ : Ro} {σ : L2.St} {Qs : SK} {Q : VK} {Es : XS} {E : XK} (r : RepR K F ρ σ) (q : Sim K F M S H) (h : wA C.c g as ρ S fun vs S1 => C.x f vs S1 Qs Es) (kq : Kk K F M Qs Q) (ke : Kx K F M Es E) :
    LA K (wA C.c g as) σ H fun vs H1 => LSpX K (C.x f) vs H1 Q E :=
  ⟨F, M, S, ρ, _, r, q, h, fun F' S' H' xs vs e q' rl z => ⟨F', M, S', xs, _, _, rl, q', z, kq.mono e, ke.mono e⟩⟩
end
section
variable {X : Cx}
end
/-- what a raising expression asks -/
def LEx (K : PySem.W.Frag) (W : WX) (ex : XS) (t : SE) : TE := fun σ H Q => ∃ F M S ρ kq, RepR K F ρ σ ∧ Sim K F M S H ∧ t ρ S kq ∧ Kk K F M kq Q ∧ Kx K F M ex (WE W σ)
section
variable {ex : XS}
theorem cX_pl (hT : ("super" : PySem.Str) ∉ N.T) : ∀ {x : MX} {e : PySem.Expr}, cX N sc x e = true → plE e = true ∧ lcE e = false ∧ (tupX x = false → tupE e = false)
  | .call f as, e, h => by
    unfold cX at h
    split at h <;> first | (rename_i q; cases q; done) | skip
    · rename_i q
      cases q
      simp only [Bool.and_eq_true, decide_eq_true_eq] at h
      obtain ⟨⟨⟨⟨rfl, h1⟩, _⟩, _⟩, _⟩ := h
      exact ⟨by show (_ != _) = true; exact bne_iff_ne.mpr fun z => hT (z ▸ h1), rfl, fun _ => rfl⟩
    · cases h
  | .tup2 x b, e, h => by
    unfold cX at h
    split at h <;> first | (rename_i q; cases q; done) | skip
    · rename_i q
      cases q
      exact ⟨rfl, rfl, fun z => by cases z⟩
    · cases h
  | .callL f a b x, e, h => by
    unfold cX at h
    split at h <;> first | (rename_i q; cases q; done) | skip
    · rename_i q
      cases q
      simp only [Bool.and_eq_true, decide_eq_true_eq] at h
      obtain ⟨⟨⟨⟨⟨rfl, h1⟩, _⟩, _⟩, _⟩, _⟩ := h
      exact ⟨by show (_ != _) = true; exact bne_iff_ne.mpr fun z => hT (z ▸ h1), rfl, fun _ => rfl⟩
    · cases h
  | .pcall f x, e, h => by
    unfold cX at h
    split at h <;> first | (rename_i q; cases q; done) | skip
    · rename_i q
      cases q
      simp only [Bool.and_eq_true, decide_eq_true_eq] at h
      obtain ⟨⟨⟨rfl, h1⟩, _⟩, _⟩ := h
      exact ⟨by show (_ != _) = true; exact bne_iff_ne.mpr fun z => hT (z ▸ h1), rfl, fun _ => rfl⟩
    · cases h
  | .spl own x w, e, h => by
    unfold cX at h
    split at h <;> first | (rename_i q; cases q; done) | skip
    · rename_i q
      cases q
      exact ⟨rfl, rfl, fun _ => rfl⟩
    · cases h
  | .one own x, e, h => by
    unfold cX at h
    split at h <;> first | (rename_i q; cases q; done) | skip
    · rename_i q
      cases q
      exact ⟨rfl, rfl, fun _ => rfl⟩
    · cases h
theorem px {X : Cx} {W : WX} (G : Good C.c g k N sc sc X) (Fx : FnX C k N X) (tk : Takes X W) : ∀ {x : MX} {e : PySem.Expr}, cX N sc x e = true → PE X e (LEx X.K W ex (wX C g ex x))
  | .call f as, e, h => by
    unfold cX at h
    split at h <;> first | (rename_i q; cases q; done) | skip
    · rename_i q
      cases q
      simp only [Bool.and_eq_true, decide_eq_true_eq, Bool.not_eq_true'] at h
      obtain ⟨⟨⟨⟨rfl, h1⟩, h2⟩, h3⟩, h4⟩ := h
      refine PE.imp (pe_cx G Fx tk h1 h2 (sA as h4 G) h4 h3) fun σ H Q z => ?_
      obtain ⟨F, M, S, ρ, kq, r, q, h, kk, kx⟩ := z
      exact cx_call r q h kk kx
    · cases h
  | .tup2 x b, e, h => by
    unfold cX at h
    split at h <;> first | (rename_i q; cases q; done) | skip
    · rename_i q
      cases q
      simp only [Bool.and_eq_true] at h
      obtain ⟨h1, h2⟩ := h
      refine PE.imp (pe_tup (pa_cons (px G Fx tk h1) (pa_cons (sE b h2 G) pa_nil (pl_star (pl_of h2 G.sup) [] X.env)) (pl_star (cX_pl G.sup h1).1 _ X.env))) fun σ H Q z => ?_
      obtain ⟨F, M, S, ρ, kq, r, q, h, kk, kx⟩ := z
      refine ⟨F, M, S, ρ, _, r, q, h, fun F1 S1 H1 v u e1 q1 rv h1 => ?_, kx⟩
      refine LE.bind (r.mono e1) q1 h1 fun F2 S2 H2 y w e2 q2 ry r2 h2 => ?_
      refine ⟨by show 2 ≤ sizeLine; decide, fun p hp => newT_ok q2 (xs := [v, y]) ?_ h2 (kk.mono (e1.trans e2)) hp⟩
      exact ⟨u, _, rfl, RepV.mono e2 _ _ rv, w, _, rfl, ry, rfl⟩
    · cases h
  | .callL f a b x, e, h => by
    unfold cX at h
    split at h <;> first | (rename_i q; cases q; done) | skip
    · rename_i q
      cases q
      simp only [Bool.and_eq_true, decide_eq_true_eq] at h
      obtain ⟨⟨⟨⟨⟨rfl, hf⟩, hg⟩, ha⟩, hb⟩, hx⟩ := h
      obtain ⟨g1, g2, g3⟩ := G.gl_ hg
      obtain ⟨fa, fd, ps, hm, hF, hk, hbd⟩ := Fx.2.2.1 f hf
      have p1 := pl_of ha G.sup
      have p2 := pl_of hb G.sup
      have p3 := (cX_pl G.sup hx).1
      rename_i e1 e2 e3 pos
      refine PE.imp (pe_callS hF G.room g1 hm hk hbd (fun σ => passAt tk σ) (pa_cons (sE a ha G) (pa_cons (sE b hb G) (pa_cons (px G Fx tk hx) pa_nil (pl_star p3 [] X.env)) (pl_star p2 _ X.env)) (pl_star p1 _ X.env)) g2 (pl_star p1 _ X.env) (by rw [pl_star p2 _ X.env, pl_star p3 [] X.env]; rfl)) fun σ H Q z => ?_
      obtain ⟨F, M, S, ρ, kq, r, q, h, kk, kx⟩ := z
      refine LE.bind r q h fun F1 S1 H1 v1 u1 e1 q1 rv1 r1 h1 => ?_
      refine LE.bind r1 q1 h1 fun F2 S2 H2 v2 u2 e2 q2 rv2 r2 h2 => ?_
      refine ⟨F2, M, S2, ρ, _, r2, q2, h2, fun F3 S3 H3 v3 u3 e3 q3 rv3 h3 => ?_, kx.mono (e1.trans e2)⟩
      exact ⟨F3, M, S3, [v1, v2, v3], kq, ex, ⟨u1, _, rfl, RepV.mono (e2.trans e3) _ _ rv1, u2, _, rfl, RepV.mono e3 _ _ rv2, u3, _, rfl, rv3, rfl⟩, q3, h3, kk.mono ((e1.trans e2).trans e3), kx.mono ((e1.trans e2).trans e3)⟩
    · cases h
  | .pcall f x, e, h => by
    unfold cX at h
    split at h <;> first | (rename_i q; cases q; done) | skip
    · rename_i q
      cases q
      simp only [Bool.and_eq_true, decide_eq_true_eq] at h
      obtain ⟨⟨⟨rfl, hf⟩, hg⟩, hx⟩ := h
      obtain ⟨g1, g2, g3⟩ := G.gl_ hg
      obtain ⟨fa, fd, ps, hm, hF, hk, hbd⟩ := G.fn f hf
      have p3 := (cX_pl G.sup hx).1
      refine PE.imp (pe_call hF G.room g1 hm hk hbd .nil pass0 (pa_cons (px G Fx tk hx) pa_nil (pl_star p3 [] X.env)) g2 (pl_star p3 [] X.env) rfl) fun σ H Q z => ?_
      obtain ⟨F, M, S, ρ, kq, r, q, h, kk, kx⟩ := z
      refine ⟨F, M, S, ρ, _, r, q, h, fun F1 S1 H1 v1 u1 e1 q1 rv1 h1 => ?_, kx⟩
      show LSp X.K (C.c f) ([u1] ++ []) H1 Q E0
      exact ⟨F1, M, S1, [v1], kq, ⟨u1, _, rfl, rv1, rfl⟩, q1, h1, kk.mono e1⟩
    · cases h
  | .spl own x w, e, h => by
    unfold cX at h
    split at h <;> first | (rename_i q; cases q; done) | skip
    · rename_i q
      cases q
      simp only [Bool.and_eq_true, decide_eq_true_eq] at h
      obtain ⟨⟨⟨hl, rfl⟩, rfl⟩, hx⟩ := h
      have p3 := (cX_pl G.sup hx).1
      refine PE.imp (pe_bm PySem.F.plainAttrs_str PySem.F.slot_str_split PySem.F.type_str_split (mt_splitS (own := own)) (px G Fx tk hx) (pa_cons pe_str pa_nil) (pl_attr p3 _ X.env _) (by rfl) hl) fun σ H Q z => ?_
      obtain ⟨F, M, S, ρ, kq, r, q, h, kk, kx⟩ := z
      refine ⟨F, M, S, ρ, _, r, q, h, fun F1 S1 H1 v1 u1 e1 q1 rv1 h1 => ?_, kx⟩
      have hv : ∃ s, v1 = .str s := by
        have h1' : splitS own v1 (.str w) S1 kq := h1
        unfold splitS at h1'
        split at h1'
        · rename_i a _ _ _
          exact ⟨_, rfl⟩
        · cases h1'
      obtain ⟨s, rfl⟩ := hv
      have e3 : u1 = .str s := rv1
      subst e3
      exact ⟨rfl, F1, M, S1, .str s, [.str w], kq, rfl, ⟨.str w, _, rfl, rfl, rfl⟩, q1, h1, kk.mono e1⟩
    · cases h
  | .one own x, e, h => by
    unfold cX at h
    split at h <;> first | (rename_i q; cases q; done) | skip
    · rename_i q
      cases q
      have p3 := (cX_pl G.sup h).1
      refine PE.imp (pe_lst (pa_cons (px G Fx tk h) pa_nil (pl_star p3 [] X.env))) fun σ H Q z => ?_
      obtain ⟨F, M, S, ρ, kq, r, q, h, kk, kx⟩ := z
      refine ⟨F, M, S, ρ, _, r, q, h, fun F1 S1 H1 v1 u1 e1 q1 rv1 h1 => ?_, kx⟩
      exact ⟨by show 1 ≤ sizeLine; decide, fun p hp => newL_ok q1 (xs := [v1]) ⟨u1, _, rfl, rv1, rfl⟩ h1 (kk.mono e1) hp⟩
    · cases h
/-- the body of a try -/
def LY (K : PySem.W.Frag) (W : WX) (ex : XS) (t : (Ro → Sto → Prop) → Ro → Sto → Prop) : TS := fun D σ H => ∃ F M S ρ nx, RepR K F ρ σ ∧ Sim K F M S H ∧ t nx ρ S ∧ (∀ F' S' H' ρ' σ', Same F F' → Sim K F' M S' H' → RepR K F' ρ' σ' → nx ρ' S' → D.nx σ' H') ∧ Kx K F M ex (WE W σ)
theorem py {X : Cx} {W : WX} (G : Good C.c g k N sc sc X) (Fx : FnX C k N X) (tk : Takes X W) : ∀ {y : MY} {st : PySem.Stmt}, cY N sc y st = true → PS X st (LY X.K W ex (wY C g ex y))
  | .ex x, st, h => by
    unfold cY at h
    split at h <;> first | (rename_i q; cases q; done) | skip
    · rename_i q
      cases q
      obtain ⟨h1, h2, _⟩ := cX_pl G.sup h
      refine PS.imp (ps_expr (px (ex := ex) G Fx tk h) (pl_swap h1 h2 none _ X.env)) fun D σ H z => ?_
      obtain ⟨F, M, S, ρ, nx, r, q, h, kk, kx⟩ := z
      exact ⟨F, M, S, ρ, _, r, q, h, fun F' S' H' x v e q' _ z => kk F' S' H' ρ σ e q' (r.mono e) z, kx⟩
    · cases h
  | .asg t x, st, h => by
    unfold cY at h
    split at h <;> first | (rename_i q; cases q; done) | skip
    · rename_i q
      cases q
      simp only [Bool.and_eq_true, Bool.not_eq_true'] at h
      obtain ⟨⟨ht, hx⟩, h⟩ := h
      obtain ⟨h1, h2, h3⟩ := cX_pl G.sup h
      refine PS.imp (ps_asg (px (ex := ex) G Fx tk h) (sg G ht) (pl_swap h1 h2 _ _ X.env) (swapped_none ht (by rw [h3 hx, Bool.and_false])) (ass_each ht)) fun D σ H z => ?_
      obtain ⟨F, M, S, ρ, nx, r, q, h, kk, kx⟩ := z
      exact ⟨F, M, S, ρ, _, r, q, h, fun F' S' H' x v e q' rx z => tg_ok q' rx (r.mono e) z fun ρ3 σ3 r3 h3 => kk F' S' H' ρ3 σ3 e q' r3 h3, kx⟩
    · cases h
  | .ifs c a b, st, h => by
    unfold cY at h
    split at h <;> first | (rename_i q; cases q; done) | skip
    · rename_i q
      cases q
      simp only [Bool.and_eq_true] at h
      obtain ⟨⟨⟨h1, h2⟩, h3⟩, h4⟩ := h
      refine PS.imp (ps_if (sT c h2 h1 G) (pss_one (py G Fx tk h3)) (pss_one (py G Fx tk h4))) fun D σ H z => ?_
      obtain ⟨F, M, S, ρ, nx, r, q, h, kk, kx⟩ := z
      refine LT.bind r q h fun F1 S1 H1 p e1 q1 r1 h1 => ?_
      cases p with
      | true => exact ⟨F1, M, S1, ρ, nx, r1, q1, h1, fun F' S' H' ρ' σ' e => kk F' S' H' ρ' σ' (e1.trans e), kx.mono e1⟩
      | false => exact ⟨F1, M, S1, ρ, nx, r1, q1, h1, fun F' S' H' ρ' σ' e => kk F' S' H' ρ' σ' (e1.trans e), kx.mono e1⟩
    · cases h
end
section
variable {X : Cx} {E : List PySem.Str} {j : Nat} {n : PySem.Str} {a : Addr}
end
theorem sb_nil : PSs X [] (LS X.K W C.ex (wB C g .nil)) := PSs.imp pss_nil fun D σ H z => by
  obtain ⟨F, M, S, ρ, d, r, q, h, kk⟩ := z
  exact kk.nx F S H ρ σ Same.rfl' q r h
theorem sb_cons {s : MS} {b : MB} {st : PySem.Stmt} {sts : List PySem.Stmt} (hs : PS X st (LS X.K W C.ex (wS C g s))) (hb : PSs X sts (LS X.K W C.ex (wB C g b))) : PSs X (st :: sts) (LS X.K W C.ex (wB C g (.cons s b))) := PSs.imp (pss_cons hs hb) fun D σ H z => by
  obtain ⟨F, M, S, ρ, d, r, q, h, kk⟩ := z
  exact ⟨F, M, S, ρ, _, r, q, h, ⟨fun F1 S1 H1 ρ1 σ1 e1 q1 r1 z => ⟨F1, M, S1, ρ1, d, r1, q1, z, kk.mono e1⟩, kk.rt, kk.bk, kk.ct, kk.x⟩⟩
theorem sb_frz {i : Nat} {b : MB} {sts : List PySem.Stmt} (hb : PSs X sts (LS X.K W C.ex (wB C g b))) : PSs X sts (LS X.K W C.ex (wB C g (.cons (.frz i) b))) := PSs.imp hb fun D σ H z => by
  obtain ⟨F, M, S, ρ, d, r, q, ⟨p, S2, v, e0, hs, hf, h⟩, kk⟩ := z
  have s1 : Same F (frzF F H S S2) := frzF_same
  obtain ⟨w, w1, w2⟩ := r.2 i _ e0
  have rv : RepV X.K (frzF F H S S2) v w := hf.rep q w2
  refine ⟨_, M, S2, _, d, ?_, q.freeze hs, h, kk.mono s1⟩
  have r2 := (r.mono s1).set i rv
  have e : σ.set i (some w) = σ := by
    refine List.ext_getElem? fun j => ?_
    by_cases hj : i = j
    · subst hj
      rw [w1]
      exact List.getElem?_set_self (List.getElem?_eq_some_iff.mp w1).1
    · exact List.getElem?_set_ne hj
  rw [e] at r2
  exact r2
end
section
variable {C : Cls} {W : WX} {g : PySem.Str → Option SV} {k : Nat} {N : Ck} {sc : Scope} {X : Cx}
mutual
theorem sS (hst : X.stack = X.env :: X.outer) (hfr : X.env.frame = some X.env.locals) (hkind : ∀ x, X.env.kindOf x = X.env.scope.names.lookup x) (G : Good C.c g k N sc sc X) (Fx : FnX C k N X) (tk : Takes X W) (hpo : PassesOwn (model X.prog X.w) X.A X.env X.xe) : ∀ (m : MS) {st : PySem.Stmt}, cS N sc m st = true → PS X st (LS X.K W C.ex (wS C g m))
  | .asg t e, st, h => by
    cases st <;> first | (cases h; done) | skip
    rename_i ts v pos
    match ts, h with
    | [], h => cases h
    | [tg], h =>
      have h' : (tgE N.N sc t tg && cE N sc e v && !(tupE tg && tupE v)) = true := h
      simp only [Bool.and_eq_true, Bool.not_eq_true'] at h'
      exact ss_asg G h'.1.1 h'.1.2 h'.2
    | _ :: _ :: _, h => cases h
  | .setIx a i e, st, h => by
    cases st <;> first | (cases h; done) | skip
    rename_i ts v pos
    match ts, h with
    | [], h => cases h
    | _ :: _ :: _, h => exact absurd h (by unfold cS; simp)
    | [tg], h =>
      cases tg <;> first | (cases h; done) | skip
      rename_i l j p
      have h' : (cE N sc a l && cE N sc i j && cE N sc e v) = true := h
      simp only [Bool.and_eq_true] at h'
      exact ss_setIx G (sE a h'.1.1 G) (sE i h'.1.2 G) (sE e h'.2 G) (pl_of h'.2 G.sup) (pl_of h'.1.2 G.sup)
  | .ex e, st, h => by
    cases st <;> first | (cases h; done) | skip
    rename_i v pos
    have h' : (cE N sc e v && !lcE v) = true := h
    simp only [Bool.and_eq_true, Bool.not_eq_true'] at h'
    exact ss_ex (sE e h'.1 G) (pl_of h'.1 G.sup) h'.2
  | .ret e, st, h => by
    cases st <;> first | (cases h; done) | skip
    rename_i v pos
    cases v with
    | none => cases h
    | some v => exact ss_ret (sE e h G)
  | .retN, st, h => by
    cases st <;> first | (cases h; done) | skip
    rename_i v pos
    cases v with
    | none => exact ss_retN
    | some v => cases h
  | .ifs c a b, st, h => by
    cases st <;> first | (cases h; done) | skip
    rename_i t x y pos
    have h' : (tM c && cE N sc c t && cB N sc a x && cB N sc b y) = true := h
    simp only [Bool.and_eq_true] at h'
    exact ss_if (sT c h'.1.1.2 h'.1.1.1 G) (sB hst hfr hkind G Fx tk hpo a h'.1.2) (sB hst hfr hkind G Fx tk hpo b h'.2)
  | .for_ t ik ia body, st, h => by
    cases st <;> first | (cases h; done) | skip
    rename_i tg iter bd els pos
    cases els with
    | cons _ _ => cases h
    | nil =>
      have h' : (tgE N.N sc t tg && cI N sc ik ia iter (tupE tg) && cB N sc body bd) = true := h
      simp only [Bool.and_eq_true] at h'
      obtain ⟨hi, hf⟩ := sI (C := C.c) (g := g) ia h'.1.2 G
      exact ss_for G hpo hi hf (sg G h'.1.1) (sB hst hfr hkind G Fx tk hpo body h'.2)
  | .whl c body, st, h => by
    cases st <;> first | (cases h; done) | skip
    rename_i t bd els pos
    cases els with
    | cons _ _ => cases h
    | nil =>
      have h' : (tM c && cE N sc c t && cB N sc body bd) = true := h
      simp only [Bool.and_eq_true] at h'
      exact ss_whl hpo (sT c h'.1.2 h'.1.1 G) (sB hst hfr hkind G Fx tk hpo body h'.2)
  | .pass, st, h => by
    cases st <;> first | (cases h; done) | exact ss_pass
  | .brk, st, h => by
    cases st <;> first | (cases h; done) | exact ss_brk
  | .cont, st, h => by
    cases st <;> first | (cases h; done) | exact ss_cont
  | .frz i, st, h => by
    cases st <;> cases h
  | .never, st, h => ss_never
theorem sB (hst : X.stack = X.env :: X.outer) (hfr : X.env.frame = some X.env.locals) (hkind : ∀ x, X.env.kindOf x = X.env.scope.names.lookup x) (G : Good C.c g k N sc sc X) (Fx : FnX C k N X) (tk : Takes X W) (hpo : PassesOwn (model X.prog X.w) X.A X.env X.xe) : ∀ (b : MB) {sts : List PySem.Stmt}, cB N sc b sts = true → PSs X sts (LS X.K W C.ex (wB C g b))
  | .nil, sts, h => by
    cases sts with
    | nil => exact sb_nil
    | cons _ _ => cases h
  | .cons s b, sts, h => by
    by_cases hs : ∃ i, s = .frz i
    · obtain ⟨i, rfl⟩ := hs
      have h' : cB N sc b sts = true := by
        cases sts <;> exact h
      exact sb_frz (sB hst hfr hkind G Fx tk hpo b h')
    · cases sts with
      | nil => exact absurd h (by cases s <;> first | exact absurd ⟨_, rfl⟩ hs | (intro z; cases z))
      | cons st sts =>
        have h' : (cS N sc s st && cB N sc b sts) = true := by
          cases s <;> first | exact absurd ⟨_, rfl⟩ hs | exact h
        rw [Bool.and_eq_true] at h'
        exact sb_cons (sS hst hfr hkind G Fx tk hpo s h'.1) (sB hst hfr hkind G Fx tk hpo b h'.2)
end
end
end Sy

namespace Sy
open PySem PySem.Spec PyProof.Rows L2
/-! ### defs -/
theorem fin_ok {K : PySem.W.Frag} {F M H : Hp} {S : Sto} {kq : SK} {Q : VK} (kk : Kk K F M kq Q) {F' : Hp} (e : Same F F') (q : Sim K F' M S H) {x : SV} {v : V} (r : RepV K F' x v) (h : fin kq x S) : Q v H := by
  obtain ⟨S2, y, hs, hf, h2⟩ := h
  exact kk _ S2 H y v (e.trans frzF_same) (q.freeze hs) (hf.rep q r) h2
theorem start_ok {K : PySem.W.Frag} {F : Hp} {N : List PySem.Str} {xs : List SV} {vs : List V} (r : RepL K F xs vs) : RepR K F (xs.map some ++ List.replicate (N.length - xs.length) none) (L2.start N vs) := by
  have hl := r.length
  unfold L2.start
  refine ⟨by simp [hl], fun i x e => ?_⟩
  by_cases hi : i < xs.length
  · rw [List.getElem?_append_left (by simpa using hi), List.getElem?_map] at e
    obtain ⟨y, e1, e2⟩ := Option.map_eq_some_iff.mp e
    cases e2
    obtain ⟨v, h1, h2⟩ := RepL.get r e1
    exact ⟨v, by rw [List.getElem?_append_left (by simp; omega), List.getElem?_map, h1]; rfl, h2⟩
  · rw [List.getElem?_append_right (by simp; omega), List.getElem?_replicate] at e
    split at e <;> cases e
section
variable {P : Program} {w : World} {K : PySem.W.Frag} {mg : PySem.Str → Option Value} {base : Heap}
/-- a def of the row stands at its name, and its small tree is looked at -/
structure DefAt (K : PySem.W.Frag) (mg : PySem.Str → Option Value) (T E : List PySem.Str) (Mt : List (PySem.Str × PySem.Str × PySem.Str)) (f : PySem.Str) (d : Def) : Prop where
  ex : ∃ st a fd, mg f = some (.ref a) ∧ Fun K f f st a fd ∧ FnScope d.N d.ps (defScope st) ∧ cB ⟨d.N, T, E, decide (f = "all_rows"), Mt⟩ (defScope st) d.body (defBody st) = true ∧ Binds K fd d.ps []
/-- a method of a class stands there, and its small tree is looked at -/
structure MthAt (K : PySem.W.Frag) (mg : PySem.Str → Option Value) (T E : List PySem.Str) (Mt : List (PySem.Str × PySem.Str × PySem.Str)) (f c m : PySem.Str) (d : Def) : Prop where
  ex : ∃ Ca st a fd, InsK K c Ca ∧ Meth K Ca m a ∧ Fun K m f st a fd ∧ FnScope d.N d.ps (defScope st) ∧ cB ⟨d.N, T, E, false, Mt⟩ (defScope st) d.body (defBody st) = true ∧ Binds K fd d.ps [] ∧ (m = "__init__" → mg c = some (.ref Ca) ∧ Mk K Ca a)
/-- what the module has -/
structure ModOk (K : PySem.W.Frag) (mg : PySem.Str → Option Value) (T E : List PySem.Str) (Mt : List (PySem.Str × PySem.Str × PySem.Str)) (Pr : PySem.Str → Option Def) (g : PySem.Str → Option SV) : Prop where
  sup : ("super" : PySem.Str) ∉ T ∧ ("<is lambda>" : PySem.Str) ∉ T ∧ ("<lambda>" : PySem.Str) ∉ T
  bi : ∀ f : Bi, mg (biN f) = none
  ty : ∀ t : Ty, mg (tyN t) = none
  rng : mg "range" = none
  enu : mg "enumerate" = none
  zip : mg "zip" = none
  set : mg "set" = none
  fv : ∀ f ∈ T, ∃ a, mg f = some (.ref a) ∧ PySem.W.nsIn K mainGlobals f = some (some (.ref a))
  cl : ∀ f, (Pr f).isSome = true → noDot f = true → f ∈ T
  mth : ∀ f c m, (f, c, m) ∈ Mt → noDot f = false ∧ ∃ d, Pr f = some d ∧ MthAt K mg T E Mt f c m d
  ex1 : ∀ c fld, c ∈ E → (c, fld) ∈ ex1 → ∀ B, mg c = some (.ref B) → OexC K B ∧ PySem.W.findIn K (.ref B) fld = some none ∧ ∃ fI fd, PySem.W.findIn K (.ref B) "__init__" = some (some (.ref fI)) ∧ PySem.W.typeIn K (.ref fI) = some (.type "function") ∧
    (∀ (P : Program) (w : World) (base : Heap), FnOk P w K mg base CX0 1 fI fd ["self", fld] (spInit K B fld (okV c))) ∧ Binds K fd ["self", fld] []
  gl : ∀ x v, g x = some v → ∃ w u, mg x = some u ∧ RelV w u ∧ RepV K (fun _ => none) v w
  fn : ∀ f ∈ T, ∃ d, Pr f = some d ∧ DefAt K mg T E Mt f d
  ve : mg "ValueError" = none
  exc : ∀ c ∈ E, c ∈ exB ∧ ∃ B, mg c = some (.ref B) ∧ PySem.W.nsIn K mainGlobals c = some (some (.ref B)) ∧ ClsK K c B
  ex0 : ∀ c ∈ E, c ∈ ex0 → ∀ B, mg c = some (.ref B) → PySem.W.excIn K B [.type "ValueError", .type "Exception", .type "BaseException", .type "object"] "ValueError.__new__" = true ∧ PySem.W.keepIn K (.ref B) = true
/-- the table of the def that makes lambdas -/
def TabH (K : PySem.W.Frag) (mg : PySem.Str → Option Value) (base : Heap) : Prop := ∀ fa oc od fd sl c, PySem.W.nsIn K mainGlobals "all_rows" = some (some (.ref fa)) → K.lookup fa = some ⟨oc, od, .func fd, sl⟩ → fd.code = .ref c → ∃ P, LamAt K c P ∧ LamX.TabB base mg c P
theorem TabH.keep {base' : Heap} (h : TabH K mg base) (e : ∀ b o, base.get? b = some o → base'.get? b = some o) : TabH K mg base' := fun fa oc od fd sl c h1 h2 h3 => by
  obtain ⟨P, l, t⟩ := h fa oc od fd sl c h1 h2 h3
  exact ⟨P, l, t.code.keeps e, t.bm.keeps e, t.gP⟩
theorem fn_no {f : Addr} {fd : FuncData} {ps : List PySem.Str} {k : Nat} : FnOk P w K mg base CX0 k f fd ps (LSp K fun _ _ _ => False) := by
  refine ⟨fun vs H Q E h => ?_, fun A outer s H args us vs Q E hr e0 hb r h => ?_⟩
  · obtain ⟨_, _, _, _, _, _, _, z, _⟩ := h
    exact z.elim
  · obtain ⟨_, _, _, _, _, _, _, z, _⟩ := h
    exact z.elim
theorem fn_noX {f : Addr} {fd : FuncData} {ps : List PySem.Str} {k : Nat} : FnOk P w K mg base (L2.CX P w) k f fd ps (LSpX K fun _ _ _ _ => False) := by
  refine ⟨fun vs H Q E h => ?_, fun A outer s H args us vs Q E hr e0 hb r h => ?_⟩
  · obtain ⟨_, _, _, _, _, _, _, _, z, _⟩ := h
    exact z.elim
  · obtain ⟨_, _, _, _, _, _, _, _, z, _⟩ := h
    exact z.elim
abbrev Xal := PySem.Str → List SV → Sto → SK → XS → Prop
abbrev Lal := PySem.Str → SV → (Cal → List SV → Sto → SK → Prop) → List SV → Sto → SK → Prop
/-- what is known of the defs a level below -/
structure Both (P : Program) (w : World) (K : PySem.W.Frag) (mg : PySem.Str → Option Value) (base : Heap) (T : List PySem.Str) (Mt : List (PySem.Str × PySem.Str × PySem.Str)) (k : Nat) (c : Cal) (x : Xal) : Prop where
  t : ∀ f ∈ T, ∃ a fd ps, mg f = some (.ref a) ∧ FnOk P w K mg base CX0 (2 * k) a fd ps (LSp K (c f)) ∧ FnOk P w K mg base (L2.CX P w) (2 * k) a fd ps (LSpX K (x f)) ∧ PySem.W.keepIn K (.ref a) = true ∧ Binds K fd ps []
  l : (∃ f vs S Q, c f vs S Q) → 1 ≤ k
  m : ∀ f c' m', (f, c', m') ∈ Mt → ∃ Ca a fd ps, InsK K c' Ca ∧ Meth K Ca m' a ∧ FnOk P w K mg base CX0 (2 * k) a fd ps (LSp K (c f)) ∧ FnOk P w K mg base (L2.CX P w) (2 * k) a fd ps (LSpX K (x f)) ∧ Binds K fd ps [] ∧ (m' = "__init__" → mg c' = some (.ref Ca) ∧ Mk K Ca a)
/-- of the lambda that runs -/
def LamG (P : Program) (w : World) (K : PySem.W.Frag) (mg : PySem.Str → Option Value) (base : Heap) (k : Nat) (cc : Cal) : Prop :=
  ∀ (x : SV) (S : Sto), cc "<is lambda>" [x] S (fun _ _ => True) → ∃ (a c : Addr) (cs : List SV) (ws : List V) (fd : FuncData) (ps : List PySem.Str), x = .lam a c cs ws ∧ PySem.W.FnAt a base ∧
    FnOk P w K mg base CX0 (2 * k) a fd ps (fun vs H Q E => LSp K (cc "<lambda>") (.ref a :: vs) H Q E) ∧ Binds K fd ps []
/-- of the calls with a lambda -/
def LowG (P : Program) (w : World) (K : PySem.W.Frag) (mg : PySem.Str → Option Value) (base : Heap) (T : List PySem.Str) (k : Nat) (l : Lal) : Prop :=
  ∀ k2, k = k2 + 2 → ∃ C2 : Cal, ((∀ x S, ¬ C2 "<is lambda>" [x] S fun _ _ => True) ∧ ((∃ f vs S Q, C2 f vs S Q) → 1 ≤ k2)) ∧ ∀ base', (∀ b o, base.get? b = some o → base'.get? b = some o) →
    (∀ f ∈ T, ∃ a fd ps, mg f = some (.ref a) ∧ FnOk P w K mg base' CX0 (2 * k2) a fd ps (LSp K (C2 f)) ∧ PySem.W.keepIn K (.ref a) = true ∧ Binds K fd ps []) ∧
    ∀ f ∈ T, ∃ a fd ps, mg f = some (.ref a) ∧ PySem.W.keepIn K (.ref a) = true ∧ Binds K fd ps [] ∧ ∀ (p c' : Addr) (cs : List SV) (ws : List V) (R : Cal → List SV → Sto → SK → Prop), PySem.W.FnAt p base' →
      (∃ fdL psL, FnOk P w K mg base' CX0 (2 * (k2 + 1)) p fdL psL (fun vs H Q E => LSp K (fun xs S Q => ∃ us, xs = .lam p c' cs ws :: us ∧ R C2 us S Q) (.ref p :: vs) H Q E) ∧ Binds K fdL psL []) →
      FnOk P w K mg base' CX0 (2 * k) a fd ps (LSp K (l f (.lam p c' cs ws) R))
abbrev clsG (Pr : PySem.Str → Option Def) (c : Cal) (x : Xal) (l : Lal) (k : Nat) (E : XS) : Cls := ⟨c, x, finX E, k, fun f => (Pr f).isSome = true ∧ noDot f = true, l⟩
theorem good_of {T E : List PySem.Str} {Mt : List (PySem.Str × PySem.Str × PySem.Str)} {Pr : PySem.Str → Option Def} {g : PySem.Str → Option SV} (O : ModOk K mg T E Mt Pr g) {k : Nat} {c : Cal} {x : Xal} {l : Lal} (ih : Both P w K mg base T Mt k c x) (hl : LamG P w K mg base k c) {lf : Bool} (hL : lf = true → LowG P w K mg base T k l) {ex : XS} {d : Def} {sc : Scope} (h3 : FnScope d.N d.ps sc) {X : Cx}
    (eP : X.prog = P) (eW : X.w = w) (eK : X.K = K) (eM : X.mg = mg) (eB : X.base = base) (eN : X.N = d.N) (eS : X.env.scope = sc) (hc : X.calm = true) (hr : Room (2 * k + 1) X.A) (hst : ∀ x, (sc.names.lookup x = some .local ∨ sc.names.lookup x = some .cell) → L2.Loc X.env.scope x ∧ (X.fn x = true ∨ X.env.scope.names.lookup x = some .local))
    (hq : lf = true → X.env.qual ++ "<lambda>" = lamQ ∧ (∀ x, X.fn x = true) ∧ ∃ c P, X.env.code = .ref c ∧ LamAt X.K c P ∧ LamX.TabB X.base X.mg c P) :
    Good c g (2 * k) ⟨d.N, T, E, lf, Mt⟩ sc sc X ∧ FnX (clsG Pr c x l k ex) (2 * k) ⟨d.N, T, E, lf, Mt⟩ X := by
  subst eP eW eK eM eB
  refine ⟨⟨hc, eN, h3.nd, eS, hst, hr.mono (by omega), O.sup.1, O.bi, O.ty, O.rng, O.enu, O.zip, O.set, fun f hf => ?_, fun f c' m' hm => ?_, O.gl, O.ve, O.exc, O.fv, fun c fld hc h1 B hB => ?_, O.ex0, fun h => (by have := ih.l h; omega), hl⟩, rfl, fun f hf => O.cl f hf.1 hf.2, fun f hf => ?_, fun e => ?_, fun f c' m' hm => ?_⟩
  · obtain ⟨a, fd, ps, z1, z2, _, z3, z4⟩ := ih.t f hf
    exact ⟨a, fd, ps, z1, z2, z3, z4⟩
  · obtain ⟨Ca, a, fd, ps, z1, z2, z3, _, z4, z5⟩ := ih.m f c' m' hm
    exact ⟨Ca, a, fd, ps, z1, z2, z3, z4, hr, z5⟩
  · obtain ⟨q1, q2, fI, fd, q3, q4, q5, q6⟩ := O.ex1 c fld hc h1 B hB
    exact ⟨q1, q2, fI, fd, q3, q4, q5 _ _ _, q6⟩
  · obtain ⟨a, fd, ps, z1, _, z2, z3, z4⟩ := ih.t f hf
    exact ⟨a, fd, ps, z1, z2, z3, z4⟩
  · obtain ⟨q1, q2, q3⟩ := hq e
    exact ⟨q1, q2, q3, hL e⟩
  · obtain ⟨Ca, a, fd, ps, z1, z2, _, z3, z4, _⟩ := ih.m f c' m' hm
    exact ⟨Ca, a, fd, ps, z1, z2, z3, z4⟩
theorem fn_body {x qual : PySem.Str} {st : Stmt} {f : Addr} {fd : FuncData} {N ps : List PySem.Str} {k : Nat} {sp : Sp} (F : Fun K x qual st f fd) (S : FnScope N ps (defScope st)) (len : ∀ vs H Q E, sp vs H Q E → vs.length = ps.length)
    (hbody : ∀ (c : Addr), (∃ oc od osl, K.lookup f = some ⟨oc, od, .func fd, osl⟩) → fd.code = .ref c → ∀ (A : Around) (outer : List Env) (s : Shared) (H : Hp) (vs : List V) (Q : VK) (E : XK), Room k (A.deeper (envOfC qual (defScope st) s.heap.objs.size f (.ref c))) → sp vs H Q E →
      ∃ t, PSs (cxOf CX0 P w K mg base N qual (defScope st) f (.ref c) A outer s H E).nox (defBody st) t ∧ t { nx := fun _ H' => Q .non H', rt := Q } (L2.start N vs) H) : FnOk P w K mg base CX0 (k + 1) f fd ps sp := by
  obtain ⟨oc, od, kV, doc, pm, an, cdv, ct, osl, rfl, lk, hcd⟩ := F.ex
  have hc : ∃ c, cdv = .ref c := by
    unfold PySem.W.codeIn at hcd
    split at hcd
    · exact ⟨_, rfl⟩
    · cases hcd
  obtain ⟨c, rfl⟩ := hc
  refine fn_of lk hcd S len fun A outer s H vs Q E hr hsp => ?_
  obtain ⟨t, h, q⟩ := hbody c ⟨oc, od, osl, lk⟩ rfl A outer s H vs Q E hr hsp
  exact ⟨t, h.nox, q⟩
theorem fn_bodyX {x qual : PySem.Str} {st : Stmt} {f : Addr} {fd : FuncData} {N ps : List PySem.Str} {k : Nat} {sp : Sp} (F : Fun K x qual st f fd) (S : FnScope N ps (defScope st)) (len : ∀ vs H Q E, sp vs H Q E → vs.length = ps.length)
    (hbody : ∀ (c : Addr), (∃ oc od osl, K.lookup f = some ⟨oc, od, .func fd, osl⟩) → fd.code = .ref c → ∀ (A : Around) (outer : List Env) (s : Shared) (H : Hp) (vs : List V) (Q : VK) (E : XK), Room k (A.deeper (envOfC qual (defScope st) s.heap.objs.size f (.ref c))) → sp vs H Q E →
      ∃ t, PSs (cxOf (L2.CX P w) P w K mg base N qual (defScope st) f (.ref c) A outer s H E) (defBody st) t ∧ t { nx := fun _ H' => Q .non H', rt := Q } (L2.start N vs) H) : FnOk P w K mg base (L2.CX P w) (k + 1) f fd ps sp := by
  obtain ⟨oc, od, kV, doc, pm, an, cdv, ct, osl, rfl, lk, hcd⟩ := F.ex
  have hc : ∃ c, cdv = .ref c := by
    unfold PySem.W.codeIn at hcd
    split at hcd
    · exact ⟨_, rfl⟩
    · cases hcd
  obtain ⟨c, rfl⟩ := hc
  exact fn_of lk hcd S len fun A outer s H vs Q E hr hsp => hbody c ⟨oc, od, osl, lk⟩ rfl A outer s H vs Q E hr hsp
theorem lam_here {T E : List PySem.Str} {Mt : List (PySem.Str × PySem.Str × PySem.Str)} {Pr : PySem.Str → Option Def} {g : PySem.Str → Option SV} (O : ModOk K mg T E Mt Pr g) (HT : TabH K mg base) {f : PySem.Str} {a : Addr} {fd : FuncData} {c : Addr} (hf : f ∈ T) (hm : mg f = some (.ref a)) (e : decide (f = "all_rows") = true)
    (hk : ∃ oc od osl, K.lookup a = some ⟨oc, od, .func fd, osl⟩) (hc : fd.code = .ref c) : ∃ P, LamAt K c P ∧ LamX.TabB base mg c P := by
  obtain ⟨a', m1, n1⟩ := O.fv f hf
  rw [hm] at m1
  cases m1
  rw [of_decide_eq_true e] at n1
  obtain ⟨oc, od, osl, lk⟩ := hk
  exact HT a oc od fd osl c n1 lk hc
/-- one def, where those that it calls are known a level below -/
theorem def_ok {T E : List PySem.Str} {Mt : List (PySem.Str × PySem.Str × PySem.Str)} {Pr : PySem.Str → Option Def} {g : PySem.Str → Option SV} (O : ModOk K mg T E Mt Pr g) (HT : TabH K mg base) {k : Nat} {c : Cal} {x : Xal} {l : Lal} (ih : Both P w K mg base T Mt k c x) (hl : LamG P w K mg base k c) (hL : LowG P w K mg base T k l)
    {f nm : PySem.Str} {d : Def} {lf : Bool} (hd : Pr f = some d) {st : Stmt} {a : Addr} {fd : FuncData} (hm : lf = true → f = "all_rows" ∧ f ∈ T ∧ mg f = some (.ref a)) (h2 : Fun K nm f st a fd) (h3 : FnScope d.N d.ps (defScope st)) (h4 : cB ⟨d.N, T, E, lf, Mt⟩ (defScope st) d.body (defBody st) = true) : FnOk P w K mg base CX0 (2 * (k + 1)) a fd d.ps (LSp K fun vs S Q => runB Pr g (clsG Pr c x l k) f vs S Q noX) := by
  refine fn_body (k := 2 * k + 1) h2 h3 (fun vs H Q E h => ?_) (fun cd hk hcd A outer s H vs Q Ex hr h => ?_)
  · obtain ⟨F, M, S, xs, kq, r, q, ⟨d', e1, e2, _⟩, _⟩ := h
    rw [hd] at e1
    cases e1
    rw [← r.length, e2]
  · obtain ⟨G, Fx⟩ := good_of (X := (cxOf CX0 P w K mg base d.N f (defScope st) a (.ref cd) A outer s H Ex).nox) (l := l) (ex := noX) (lf := lf) O ih hl (fun _ => hL) h3 rfl rfl rfl rfl rfl rfl rfl rfl hr (fun x hx => ⟨hx, .inl rfl⟩) (fun e => by
      obtain ⟨ef, hf, hmf⟩ := hm e
      obtain ⟨P', q1, q2⟩ := lam_here O HT hf hmf (decide_eq_true ef) hk hcd
      refine ⟨?_, fun _ => rfl, cd, P', rfl, q1, q2⟩
      subst ef
      rfl)
    refine ⟨LS K (fun _ _ _ _ => False) (finX noX) (wB (clsG Pr c x l k noX) g d.body), ?_, ?_⟩
    · exact sB (C := clsG Pr c x l k noX) rfl rfl (fun _ => rfl) G Fx takes0 PassesOwn.never d.body h4
    · obtain ⟨F, M, S, xs, kq, r, q, ⟨d', e1, e2, hb⟩, kk⟩ := h
      rw [hd] at e1
      cases e1
      exact ⟨F, M, S, _, _, start_ok r, q, hb, ⟨fun F' S' H' ρ σ e q' _ z => fin_ok kk e q' (show RepV K F' .non .non from rfl) z, fun F' S' H' x v e q' r' z => fin_ok kk e q' r' z, fun _ _ _ _ _ _ _ _ z => z.elim, fun _ _ _ _ _ _ _ _ z => z.elim, fun _ F' S' H' e cls dx _ _ _ z => by
        obtain ⟨_, _, z⟩ := z
        exact z.elim⟩⟩
theorem def_okX {T E : List PySem.Str} {Mt : List (PySem.Str × PySem.Str × PySem.Str)} {Pr : PySem.Str → Option Def} {g : PySem.Str → Option SV} (O : ModOk K mg T E Mt Pr g) (HT : TabH K mg base) {k : Nat} {c : Cal} {x : Xal} {l : Lal} (ih : Both P w K mg base T Mt k c x) (hl : LamG P w K mg base k c) (hL : LowG P w K mg base T k l)
    {f nm : PySem.Str} {d : Def} {lf : Bool} (hd : Pr f = some d) {st : Stmt} {a : Addr} {fd : FuncData} (hm : lf = true → f = "all_rows" ∧ f ∈ T ∧ mg f = some (.ref a)) (h2 : Fun K nm f st a fd) (h3 : FnScope d.N d.ps (defScope st)) (h4 : cB ⟨d.N, T, E, lf, Mt⟩ (defScope st) d.body (defBody st) = true) : FnOk P w K mg base (L2.CX P w) (2 * (k + 1)) a fd d.ps (LSpX K (runB Pr g (clsG Pr c x l k) f)) := by
  refine fn_bodyX (k := 2 * k + 1) h2 h3 (fun vs H Q E h => ?_) (fun cd hk hcd A outer s H vs Q Ex hr h => ?_)
  · obtain ⟨F, M, S, xs, kq, ex, r, q, ⟨d', e1, e2, _⟩, _⟩ := h
    rw [hd] at e1
    cases e1
    rw [← r.length, e2]
  · obtain ⟨F, M, S, xs, kq, ex, r, q, ⟨d', e1, e2, hb⟩, kk, kx⟩ := h
    obtain ⟨G, Fx⟩ := good_of (X := cxOf (L2.CX P w) P w K mg base d.N f (defScope st) a (.ref cd) A outer s H Ex) (l := l) (ex := ex) (lf := lf) O ih hl (fun _ => hL) h3 rfl rfl rfl rfl rfl rfl rfl rfl hr (fun x hx => ⟨hx, .inl rfl⟩) (fun e => by
      obtain ⟨ef, hf, hmf⟩ := hm e
      obtain ⟨P', q1, q2⟩ := lam_here O HT hf hmf (decide_eq_true ef) hk hcd
      refine ⟨?_, fun _ => rfl, cd, P', rfl, q1, q2⟩
      subst ef
      rfl)
    refine ⟨LS K (fun cls d _ H' => Ex cls d H') (finX ex) (wB (clsG Pr c x l k ex) g d.body), ?_, ?_⟩
    · exact sB (C := clsG Pr c x l k ex) rfl rfl (fun _ => rfl) G Fx (takes_of rfl rfl rfl rfl) (passes_of rfl) d.body h4
    · rw [hd] at e1
      cases e1
      exact ⟨F, M, S, _, _, start_ok r, q, hb, ⟨fun F' S' H' ρ σ e q' _ z => fin_ok kk e q' (show RepV K F' .non .non from rfl) z, fun F' S' H' x v e q' r' z => fin_ok kk e q' r' z, fun _ _ _ _ _ _ _ _ z => z.elim, fun _ _ _ _ _ _ _ _ z => z.elim, fun _ F' S' H' e cls dx s q' rX z => by
        obtain ⟨S2, hs, z⟩ := z
        exact kx _ S2 H' e cls dx (s.trans frzF_same) (q'.freeze hs) (rX.mono frzF_same) z⟩⟩
section
variable {T E : List PySem.Str} {Mt : List (PySem.Str × PySem.Str × PySem.Str)} {Pr : PySem.Str → Option Def} {g : PySem.Str → Option SV}
theorem pr_no (O : ModOk K mg T E Mt Pr g) : Pr "<is lambda>" = none := by
  cases e : Pr "<is lambda>" with
  | none => rfl
  | some d => exact absurd (O.cl _ (by rw [e]; rfl) (by decide +kernel)) O.sup.2.1
theorem no0 (O : ModOk K mg T E Mt Pr g) : ∀ (k : Nat) (vs : List SV) (S : Sto) (Q : SK), ¬ callS0 Pr g k "<is lambda>" vs S Q
  | 0, _, _, _ => fun h => h
  | _ + 1, _, _, _ => fun ⟨d, e, _⟩ => by
    rw [pr_no O] at e
    cases e
theorem noS (O : ModOk K mg T E Mt Pr g) : ∀ (k : Nat) (vs : List SV) (S : Sto) (Q : SK), ¬ callS Pr g k "<is lambda>" vs S Q
  | 0, _, _, _ => fun h => h
  | _ + 1, _, _, _ => fun ⟨d, e, _⟩ => by
    rw [pr_no O] at e
    cases e
theorem lowG_no (O : ModOk K mg T E Mt Pr g) {k : Nat} : LowG P w K mg base T k noL := fun k2 _ => ⟨fun _ _ _ _ => False, ⟨fun _ _ h => h, fun ⟨_, _, _, _, h⟩ => h.elim⟩, fun base' _ => ⟨fun f hf => by
    obtain ⟨d, _, ⟨st, a, fd, h1, h2, _, _, h5⟩⟩ := O.fn f hf
    exact ⟨a, fd, d.ps, h1, fn_no, h2.kp, h5⟩, fun f hf => by
    obtain ⟨d, _, ⟨st, a, fd, h1, h2, _, _, h5⟩⟩ := O.fn f hf
    exact ⟨a, fd, d.ps, h1, h2.kp, h5, fun _ _ _ _ _ _ _ => fn_no⟩⟩⟩
theorem all_lf {T : List PySem.Str} {f : PySem.Str} {a : Addr} (hf : f ∈ T) (h1 : mg f = some (.ref a)) : decide (f = "all_rows") = true → f = "all_rows" ∧ f ∈ T ∧ mg f = some (.ref a) := fun e => ⟨of_decide_eq_true e, hf, h1⟩
theorem both_zero (O : ModOk K mg T E Mt Pr g) {base : Heap} : Both P w K mg base T Mt 0 (fun _ _ _ _ => False) (fun _ _ _ _ _ => False) where
  t := fun f hf => by
    obtain ⟨d, _, ⟨st, a, fd, h1, h2, _, _, h5⟩⟩ := O.fn f hf
    exact ⟨a, fd, d.ps, h1, fn_no, fn_noX, h2.kp, h5⟩
  l := fun ⟨_, _, _, _, h⟩ => h.elim
  m := fun f c' m' hm => by
    obtain ⟨_, d, _, ⟨Ca, st, a, fd, h0, h1, h2, _, _, h5, h6⟩⟩ := O.mth f c' m' hm
    exact ⟨Ca, a, fd, d.ps, h0, h1, fn_no, fn_noX, h5, h6⟩
theorem both_step (O : ModOk K mg T E Mt Pr g) {base : Heap} (HT : TabH K mg base) {k : Nat} {c : Cal} {x : Xal} {l : Lal} (ih : Both P w K mg base T Mt k c x) (hl : LamG P w K mg base k c) (hL : LowG P w K mg base T k l) :
    Both P w K mg base T Mt (k + 1) (fun f vs S Q => runB Pr g (clsG Pr c x l k) f vs S Q noX) (runB Pr g (clsG Pr c x l k)) where
  t := fun f hf => by
    obtain ⟨d, hd, ⟨st, a, fd, h1, h2, h3, h4, h5⟩⟩ := O.fn f hf
    exact ⟨a, fd, d.ps, h1, def_ok O HT ih hl hL hd (all_lf hf h1) h2 h3 h4, def_okX O HT ih hl hL hd (all_lf hf h1) h2 h3 h4, h2.kp, h5⟩
  l := fun _ => Nat.succ_le_succ (Nat.zero_le _)
  m := fun f c' m' hm => by
    obtain ⟨_, d, hd, ⟨Ca, st, a, fd, h0, h1, h2, h3, h4, h5, h6⟩⟩ := O.mth f c' m' hm
    exact ⟨Ca, a, fd, d.ps, h0, h1, def_ok (lf := false) O HT ih hl hL hd (fun e => nomatch e) h2 h3 h4, def_okX (lf := false) O HT ih hl hL hd (fun e => nomatch e) h2 h3 h4, h5, h6⟩
theorem fn_ok0 (O : ModOk K mg T E Mt Pr g) : ∀ (k : Nat) {base : Heap}, TabH K mg base → Both P w K mg base T Mt k (callS0 Pr g k) (callX0 Pr g k)
  | 0, base, _ => both_zero O
  | k + 1, base, HT => both_step O HT (fn_ok0 O k HT) (fun x S h => absurd h (no0 O k _ _ _)) (lowG_no O)
theorem calL_def {k : Nat} {x : SV} {R : Cal → List SV → Sto → SK → Prop} {f : PySem.Str} (h1 : f ≠ "<is lambda>") (h2 : f ≠ "<lambda>") : calL Pr g k x R f = callS0 Pr g (k + 1) f := by
  funext vs S Q
  unfold calL
  rw [if_neg h1, if_neg h2]
theorem dot_ne {f y : PySem.Str} (h : noDot f = false) (hy : noDot y = true) : f ≠ y := fun e => by
  rw [e, hy] at h
  cases h
theorem lowG_ok (O : ModOk K mg T E Mt Pr g) (HT : TabH K mg base) {k : Nat} : LowG P w K mg base T k (callL Pr g k) := fun k2 ek => by
  subst ek
  refine ⟨callS0 Pr g k2, ⟨fun x S => no0 O k2 _ _ _, (fn_ok0 (P := P) (w := w) O k2 HT).l⟩, fun base' ext => ⟨fun f hf => ?_, fun f hf => ?_⟩⟩
  · obtain ⟨a, fd, ps, h1, h2, _, h3, h4⟩ := (fn_ok0 (P := P) (w := w) O k2 (HT.keep ext)).t f hf
    exact ⟨a, fd, ps, h1, h2, h3, h4⟩
  · obtain ⟨d, hd, ⟨st, a, fd, h1, h2, h3, h4, h5⟩⟩ := O.fn f hf
    refine ⟨a, fd, d.ps, h1, h2.kp, h5, fun p c' cs ws R hp ⟨fdL, psL, hF, hB⟩ => ?_⟩
    have I0 := fn_ok0 (P := P) (w := w) O (k2 + 1) (HT.keep ext)
    have ih : Both P w K mg base' T Mt (k2 + 1) (calL Pr g k2 (.lam p c' cs ws) R) (callX0 Pr g (k2 + 1)) := ⟨fun f hf => by
      rw [calL_def (fun e => O.sup.2.1 (by rw [← e]; exact hf)) (fun e => O.sup.2.2 (by rw [← e]; exact hf))]
      exact I0.t f hf, fun _ => Nat.succ_le_succ (Nat.zero_le _), fun f c2 m2 hm => by
      have hnd := (O.mth f c2 m2 hm).1
      rw [calL_def (dot_ne hnd (by decide +kernel)) (dot_ne hnd (by decide +kernel))]
      exact I0.m f c2 m2 hm⟩
    have hl : LamG P w K mg base' (k2 + 1) (calL Pr g k2 (.lam p c' cs ws) R) := fun x S h => by
      have h : [x] = [.lam p c' cs ws] := h
      cases h
      exact ⟨p, c', cs, ws, fdL, psL, rfl, hp, hF, hB⟩
    exact def_ok O (HT.keep ext) ih hl (lowG_no O) hd (all_lf hf h1) h2 h3 h4
theorem fn_ok (O : ModOk K mg T E Mt Pr g) (HT : TabH K mg base) : ∀ (k : Nat), Both P w K mg base T Mt k (callS Pr g k) (callX Pr g k)
  | 0 => both_zero O
  | k + 1 => both_step O HT (fn_ok O HT k) (fun x S h => absurd h (noS O k _ _ _)) (lowG_ok O HT)
end
/-! classes of refusals, of what the kept text says -/
/-- what the kept text says of a class -/
structure ClsT (K : PySem.W.Frag) (c : PySem.Str) (C : Addr) : Prop where
  ns : PySem.W.nsIn K mainGlobals c = some (some (.ref C))
  bx : PySem.W.subIn K (.ref C) (.type "BaseException") = some true
  ty : PySem.W.typeIn K (.ref C) = some (.type "type")
  hg : PySem.W.findIn K (.ref C) "__getattribute__" = some (some (.builtin "BaseException.__getattribute__"))
  hk : PySem.W.findIn K (.ref C) "__getattr__" = some none
  hd : PySem.W.hasDictIn K C = true
  ha : PySem.W.findIn K (.ref C) "__class__" = some (some (.builtin "object.__class__"))
  hm : PySem.W.mroIn K C (.type "object") = some true
  ve : PySem.W.subIn K (.ref C) (.type "ValueError") = some true
  ic : PySem.W.isClsIn K C = true
  nf : ∀ f ∈ exF, PySem.W.findIn K (.ref C) f = some none
theorem lookup_mem {l : List (PySem.Str × Def)} {f : PySem.Str} (h : (l.lookup f).isSome = true) : f ∈ l.map Prod.fst := by
  induction l with
  | nil => cases h
  | cons p l ih =>
    rw [List.lookup_cons] at h
    rw [List.map_cons, List.mem_cons]
    cases e : f == p.1 with
    | true => exact .inl (beq_iff_eq.mp e)
    | false =>
      rw [e] at h
      exact .inr (ih h)
/-- the law's promise -/
def spLaw (K : PySem.W.Frag) : Sp := fun vs H Q _ => ∃ (a : Addr) (ns : List Int), vs = [.ref a] ∧ SqL K H a (ns.map V.int) ∧ ns.length ≤ 63 ∧ (∀ c P, LamAt K c P → H P = some (.tbl #[])) ∧ ∀ H', Q (.bl true) H'
/-- THE LINK: what the small program gives for every script -/
def Gives (Pr : PySem.Str → Option Def) (g : PySem.Str → Option SV) (k : Nat) : Prop := ∀ ns : List Int, ns.length ≤ 63 → callS Pr g k "law" [.scr (ns.map SV.int)] (fun _ => none) fun v _ => v = .bl true
theorem rep_map_int {F : Hp} : ∀ ns : List Int, RepL K F (ns.map SV.int) (ns.map V.int)
  | [] => rfl
  | n :: ns => ⟨.int n, ns.map V.int, rfl, rfl, rep_map_int ns⟩
/-- all but the tables -/
def noTb (H : Hp) : Hp := fun b => match H b with
  | some (.tbl _) => none
  | x => x
theorem noTb_of {H : Hp} {b : Addr} {o : HO} (h : noTb H b = some o) : H b = some o := by
  unfold noTb at h
  split at h
  · cases h
  · exact h
theorem noTb_tb {H : Hp} {b : Addr} {ps : Array Value} (h : H b = some (.tbl ps)) : noTb H b = none := by
  unfold noTb
  rw [h]
theorem noTb_keep {H : Hp} {b : Addr} {o : HO} (h : H b = some o) (n : ∀ ps, o ≠ .tbl ps) : noTb H b = some o := by
  unfold noTb
  split
  · rename_i ps e
    rw [h] at e
    exact absurd (Option.some.inj e) (n ps)
  · exact h
theorem law_imp {Pr : PySem.Str → Option Def} {g : PySem.Str → Option SV} {k : Nat} (h : Gives Pr g k) : ∀ vs H Q E, spLaw K vs H Q E → LSp K (callS Pr g k "law") vs H Q E := by
  rintro vs H Q E ⟨a, ns, rfl, hS, hl, hT, q⟩
  have s0 : Sim K (noTb H) (fun _ => none) (fun _ => none) H := by
    refine ⟨fun _ _ e => noTb_of e, fun b o e => ?_, fun b o e => ?_, fun c P l => ?_⟩
    · cases e
    · cases e
    · have hP := hT c P l
      exact ⟨noTb_tb hP, rfl, rfl, #[], hP, True.intro, fun pos cv z => by
        have z : codeAmong pos [] = some cv := z
        simp [codeAmong] at z⟩
  have hS' : SqL K (noTb H) a (ns.map V.int) := by
    rcases hS with z | z
    · rcases z with z | ⟨o, z⟩
      · exact .inl (.inl (noTb_keep z fun ps e => by cases e))
      · exact .inl (.inr ⟨o, noTb_keep z fun ps e => by cases e⟩)
    · exact .inr z
  refine ⟨noTb H, fun _ => none, fun _ => none, [.scr (ns.map SV.int)], _, RepL.single ⟨a, ns.map V.int, rfl, hS', rep_map_int ns⟩, s0, h ns hl, fun F' S' H' x v e q' r z => ?_⟩
  subst z
  rw [show v = .bl true from r]
  exact q H'
end
end Sy

namespace Sy
open PySem PySem.Spec PyProof.Rows L2
/-! ### the end -/
theorem fn_law {P : Program} {w : World} {K : PySem.W.Frag} {mg : PySem.Str → Option Value} {base : Heap} {T E : List PySem.Str} {Mt : List (PySem.Str × PySem.Str × PySem.Str)} {Pr : PySem.Str → Option Def} {g : PySem.Str → Option SV} (O : ModOk K mg T E Mt Pr g) (HT : TabH K mg base) {k : Nat} {f : PySem.Str} {d : Def} (hd : Pr f = some d) {st : Stmt} {a : Addr} {fd : FuncData}
    (hf : f ∈ T) (hm : mg f = some (.ref a)) (h2 : Fun K f f st a fd) (h3 : FnScope d.N d.ps (defScope st)) (h4 : cB ⟨d.N, T, E, decide (f = "all_rows"), Mt⟩ (defScope st) d.body (defBody st) = true) : FnOk P w K mg base CX0 (2 * (k + 1)) a fd d.ps (LSp K (callS Pr g (k + 1) f)) :=
  def_ok O HT (fn_ok O HT k) (fun x S h => absurd h (noS O k _ _ _)) (lowG_ok O HT) hd (all_lf hf hm) h2 h3 h4
theorem lam_none {K : PySem.W.Frag} (h : PySem.W.nsIn K mainGlobals "all_rows" = some none) {c P : Addr} : ¬ LamAt K c P := fun ⟨fa, _, _, _, _, _, _, _, _, h1, _⟩ => by
  rw [h] at h1
  cases h1
theorem walk_plain {l : PySem.W.OpenLaw} {q : Program} {loose : List PySem.Str} {XP : (PySem.Str → Option Value) → Heap → Prop} {YP : World → Heap → Prop} {d : DefRec} {K : Params → PySem.W.Frag} (hn : l.most = some 63) (hdf : d.params.defaults = [])
    (hY : ∀ (w : World) (h : Heap), YP w h → (K w.params).In h)
    (F : ∀ (w : World) (mg : PySem.Str → Option Value) (fa : Addr) (h : Heap), (K w.params).In h → h.Ns mainGlobals mg → mg d.name = some (.ref fa) → PySem.W.nsIn (K w.params) mainGlobals "all_rows" = some none ∧
      ∃ fd : FuncData, (∀ (s : Shared) (u : Value), BindsTo s fd ⟨[u], []⟩ [("script", u)]) ∧ ∀ base : Heap, (K w.params).In base → base.Ns mainGlobals mg → TabH (K w.params) mg base → FnOk l.prog w (K w.params) mg base CX0 80 fa fd ["script"] (spLaw (K w.params))) :
    PySem.W.WalkO q loose XP YP l.row.toRowW d [] (fun f vs => PySem.call f vs) := by
  refine Att.attach_callB hn hdf fun w s₀ s₁ mg mb fa o pm cd doc a vs ns G Y ho hd hcd hmg hobj hints hlen hbits hg => ?_
  have KX := hY w _ Y
  obtain ⟨hno, fd, hb, hF⟩ := F w mg fa _ KX G.T.g hmg
  have HT : ∀ base, TabH (K w.params) mg base := fun base fa oc od fd sl c h1 => by
    rw [hno] at h1
    cases h1
  exact L2.law_call (k := 80) (CX := CX0) (sp := spLaw (K w.params)) KX G.T.g G.T.b G.T.builtins G.T.nolimit hg hobj hints (Nat.le_trans hlen (by decide)) ⟨rfl, by decide, by decide⟩ (fun base h1 h2 => hF base h1 h2 (HT base)) hb (fun H hO hS => ⟨a, ns, rfl, hS, hlen, fun c P h => absurd h (lam_none hno), fun _ => rfl⟩) fun H e s' z => z
end Sy

namespace Sy
open PySem PySem.Spec PyProof.Rows L2

/-! ### plain words for what the small tree asks -/
section
variable {S : Sto} {x y v : SV} {l m : List SV} {i j : Int} {a b : PySem.Str} {p : Addr} {k : SK} {q : Bool → Prop}
theorem callX_fold {P : PySem.Str → Option Def} {g : PySem.Str → Option SV} {n : Nat} {f : PySem.Str} {vs : List SV} {Q : SK} : callX P g n f vs S Q noX = callS P g n f vs S Q := rfl
theorem eqv_int : PyData.eqv (.int i) (.int j) = decide (i = j) := by
  by_cases h : i = j <;> simp [PyData.eqv, h]
theorem eqv_str : PyData.eqv (.str a) (.str b) = decide (a = b) := by
  by_cases h : a = b <;> simp [PyData.eqv, h]
theorem toDT_none {d : PyData} (h : toDS S x = some d) : toDT S x = none := by
  unfold toDT
  split
  · rw [h]
  · rfl
theorem eqS_of {d e : PyData} (h1 : toDS S x = some d) (h2 : toDS S y = some e) (s1 : SeqAt.shaped d = true) (s2 : SeqAt.shaped e = true) : eqS S x y q = q (d.eqv e) := by
  refine propext ⟨?_, fun h => ⟨d, e, .inl h1, .inl h2, s1, s2, h⟩⟩
  rintro ⟨d', e', h1', h2', _, _, h⟩
  rw [h1, toDT_none h1] at h1'
  rw [h2, toDT_none h2] at h2'
  replace h1' := h1'.resolve_right (fun z => nomatch z)
  replace h2' := h2'.resolve_right (fun z => nomatch z)
  cases h1'
  cases h2'
  exact h
theorem eqS_int : eqS S (.int i) (.int j) q = q (decide (i = j)) := by
  rw [eqS_of (d := .int i) (e := .int j) rfl rfl (by simp [SeqAt.shaped, PyData.canLay0, PyData.depth]) (by simp [SeqAt.shaped, PyData.canLay0, PyData.depth]), eqv_int]
theorem eqS_str (ha : PyData.strOk a = true) (hb : PyData.strOk b = true) : eqS S (.str a) (.str b) q = q (decide (a = b)) := by
  rw [eqS_of (d := .str a) (e := .str b) rfl rfl (by simp [SeqAt.shaped, PyData.canLay0, PyData.depth, ha]) (by simp [SeqAt.shaped, PyData.canLay0, PyData.depth, hb]), eqv_str]
theorem items_own (h : S p = some (.lst l)) : items S (.own p) = some l := by
  unfold items
  simp only [h]
theorem seqOf_own (h : S p = some (.lst l)) : seqOf S (.own p) = some l := items_own h
theorem seqOf_lst : seqOf S (.lst l) = some l := rfl
theorem seqOf_tup : seqOf S (.tup l) = some l := rfl
theorem seqOf_scr : seqOf S (.scr l) = some l := rfl
theorem items_lst : items S (.lst l) = some l := rfl
theorem idx_own (h : S p = some (.lst l)) : idxS (.own p) (.int i) S k = ∃ v, atI l i = some v ∧ k v S := by
  unfold idxS
  simp only [dicS, h, seqOf_own h, SV.int.injEq, Option.some.injEq, exists_and_left, exists_eq_left']
theorem idx_lst : idxS (.lst l) (.int i) S k = ∃ v, atI l i = some v ∧ k v S := by
  unfold idxS
  simp only [dicS, seqOf_lst, SV.int.injEq, Option.some.injEq, exists_and_left, exists_eq_left']
theorem idx_tup : idxS (.tup l) (.int i) S k = ∃ v, atI l i = some v ∧ k v S := by
  unfold idxS
  simp only [dicS, seqOf_tup, SV.int.injEq, Option.some.injEq, exists_and_left, exists_eq_left']
theorem seqOf_tuf : seqOf S (.tuf l) = some l := rfl
theorem idx_tuf : idxS (.tuf l) (.int i) S k = ∃ v, atI l i = some v ∧ k v S := by
  unfold idxS
  simp only [dicS, seqOf_tuf, SV.int.injEq, Option.some.injEq, exists_and_left, exists_eq_left']
theorem len_tuf : lenS (.tuf l) S k = k (.int l.length) S := by
  unfold lenS
  simp only [seqOf_tuf, Option.some.injEq, exists_eq_left']
theorem idx_str : idxS (.str a) (.int i) S k = (a.length ≤ sizeLine ∧ ∃ c, atI a.cps.toList i = some c ∧ k (.str ⟨#[c]⟩) S) := rfl
theorem len_own (h : S p = some (.lst l)) : lenS (.own p) S k = k (.int l.length) S := by
  unfold lenS
  simp only [seqOf_own h, Option.some.injEq, exists_eq_left']
theorem len_lst : lenS (.lst l) S k = k (.int l.length) S := by
  unfold lenS
  simp only [seqOf_lst, Option.some.injEq, exists_eq_left']
theorem len_tup : lenS (.tup l) S k = k (.int l.length) S := by
  unfold lenS
  simp only [seqOf_tup, Option.some.injEq, exists_eq_left']
theorem len_scr : lenS (.scr l) S k = k (.int l.length) S := by
  unfold lenS
  simp only [seqOf_scr, Option.some.injEq, exists_eq_left']
theorem at_0 : atI (x :: l) 0 = some x := by
  have : atI (x :: l) ((0 : Nat) : Int) = some x := atI_nat (by rfl)
  exact this
theorem at_1 : atI (x :: y :: l) 1 = some y := by
  have : atI (x :: y :: l) ((1 : Nat) : Int) = some y := atI_nat (by rfl)
  exact this
theorem at_2 : atI (x :: y :: v :: l) 2 = some v := by
  have : atI (x :: y :: v :: l) ((2 : Nat) : Int) = some v := atI_nat (by rfl)
  exact this
theorem set_own {qq : Sto → Prop} (h : S p = some (.lst l)) : setS (.own p) (.int i) v S qq = ∃ j, ixN l.length i = some j ∧ qq (supd S p (.lst (l.set j v))) := by
  unfold setS
  simp only [dicW, h, SV.int.injEq, Option.some.injEq, SO.lst.injEq, exists_and_left, exists_eq_left']
theorem ixN_of {n : Nat} {i : Int} (h : 0 ≤ i) (h2 : i < n) : ixN n i = some i.toNat := by
  unfold ixN
  rw [if_pos h, if_pos h2]
theorem ixN_1 {n : Nat} (h : 1 < n) : ixN n 1 = some 1 := ixN_of (by omega) (by omega)
theorem at_of {α : Type} {l : List α} {i : Int} (h : 0 ≤ i) (h2 : i < l.length) : atI l i = some (l[i.toNat]'(by omega)) := by
  unfold atI
  rw [ixN_of h h2]
  simp
theorem some_ex {α : Type} {a : α} {P : α → Prop} : (∃ b, some a = some b ∧ P b) = P a := by simp
theorem some_ex2 {α : Type} {a : α} {P : α → Prop} : (∃ b, some (some a) = some (some b) ∧ P b) = P a := by simp
theorem bl_ex {b : Bool} {P : Bool → Prop} : (∃ q, SV.bl b = .bl q ∧ P q) = P b := by simp
theorem int_ex {i : Int} {P : Int → Prop} : (∃ q, SV.int i = .int q ∧ P q) = P i := by simp
end
section
variable {S : Sto} {x y v : SV} {l m : List SV} {i j : Int} {a b : PySem.Str} {p : Addr} {k : SK} {own : Bool} {t : Bool}
theorem opI_int {C : Int → Int → Prop} {g : Int → Int → Int} : opI C g (.int i) (.int j) S k = (C i j ∧ k (.int (g i j)) S) := rfl
theorem add_int : opAdd own (.int i) (.int j) S k = k (.int (i + j)) S := rfl
theorem add_str : opAdd own (.str a) (.str b) S k = (a.length + b.length ≤ sizeLine ∧ k (.str (a ++ b)) S) := rfl
theorem add_tup : opAdd own (.tup l) (.tup m) S k = (l.length + m.length ≤ sizeLine ∧ k (.tup (l ++ m)) S) := rfl
theorem add_ll : opAdd own (.lst l) (.lst m) S k = newL own (l ++ m) S k := by
  unfold opAdd
  simp only [tupOf, Option.isSome_none, Bool.false_eq_true, if_false, items_lst, Option.some.injEq, exists_and_left, exists_eq_left']
theorem add_lo (h : S p = some (.lst m)) : opAdd own (.lst l) (.own p) S k = newL own (l ++ m) S k := by
  unfold opAdd
  simp only [tupOf, Option.isSome_none, Bool.false_eq_true, if_false, items_lst, items_own h, Option.some.injEq, exists_and_left, exists_eq_left']
theorem newL_f : newL false l S k = (l.length ≤ sizeLine ∧ k (.lst l) S) := by simp [newL]
theorem newL_t : newL true l S k = (l.length ≤ sizeLine ∧ ∀ p, S p = none → k (.own p) (supd S p (.lst l))) := by simp [newL]
theorem mul_int : opMul own (.int i) (.int j) S k = (CMul i j ∧ k (.int (i * j)) S) := rfl
theorem ord_int {f : Int → Int → Bool} {g : List Nat → List Nat → Bool} {t : List (List Nat) → List (List Nat) → Bool} : ordS f g t (.int i) (.int j) S k = k (.bl (f i j)) S := rfl
theorem ord_str {f : Int → Int → Bool} {g : List Nat → List Nat → Bool} {t : List (List Nat) → List (List Nat) → Bool} : ordS f g t (.str a) (.str b) S k = k (.bl (g a.cps.toList b.cps.toList)) S := rfl
theorem int_int : intS (.int i) S k = k (.int i) S := rfl
theorem int_bl : intS (.bl t) S k = k (.int (if t = true then 1 else 0)) S := rfl
theorem mn_str : mnS (.str a) (.str b) S k = k (.str (if b.cps.toList < a.cps.toList then b else a)) S := rfl
theorem mx_str : mxS (.str a) (.str b) S k = k (.str (if a.cps.toList < b.cps.toList then b else a)) S := rfl
theorem mn_int : mnS (.int i) (.int j) S k = k (.int (if j < i then j else i)) S := rfl
theorem mx_int : mxS (.int i) (.int j) S k = k (.int (if j > i then j else i)) S := rfl
theorem tuple_tup : tupleS own (.tup l) S k = k (.tup l) S := rfl
theorem tuple_tuf : tupleS own (.tuf l) S k = k (.tuf l) S := rfl
theorem tuple_lstT : tupleS true (.lst l) S k = k (.tup l) S := by
  unfold tupleS
  simp only [items_lst, Option.some.injEq, exists_and_left, exists_eq_left', if_true]
theorem tuple_lst : tupleS false (.lst l) S k = k (.tuf l) S := by
  unfold tupleS
  simp only [items_lst, Option.some.injEq, exists_eq_left', Bool.false_eq_true, if_false]
theorem sl_lst {lo hi : Option Int} : slS own (.lst l) lo hi S k = newL own (cutL l lo hi) S k := by
  unfold slS
  simp only [items_lst, Option.some.injEq, exists_eq_left']
theorem sl_tup {lo hi : Option Int} : slS own (.tup l) lo hi S k = k (.tup (cutL l lo hi)) S := rfl
theorem sl_scr {lo hi : Option Int} : slS own (.scr l) lo hi S k = newL own (cutL l lo hi) S k := rfl
theorem sl_str {lo hi : Option Int} : slS own (.str a) lo hi S k = (a.length ≤ sizeLine ∧ k (.str (cutS a lo hi)) S) := rfl
theorem it_lst {q : List SV → Prop} : itS .seq [.lst l] S q = q l := rfl
theorem it_str {w : PySem.Str} {q : List SV → Prop} : itS .seq [.str w] S q = q (w.cps.toList.map fun c => SV.str ⟨#[c]⟩) := rfl
theorem it_tup {q : List SV → Prop} : itS .seq [.tup l] S q = q l := rfl
theorem it_tuf {q : List SV → Prop} : itS .seq [.tuf l] S q = q l := rfl
theorem it_enU {q : List SV → Prop} : itS .enum [.tuf l] S q = q (enumL l 0) := rfl
theorem it_zU {q : List SV → Prop} : itS .zip [.tuf l, .tuf m] S q = q (zipL l m) := rfl
theorem it_rng1 {q : List SV → Prop} : itS .rng1 [.int j] S q = (-(2 ^ 62) ≤ j ∧ j < 2 ^ 62 ∧ q (rngL 0 j.toNat)) := rfl
theorem it_rng2 {q : List SV → Prop} : itS .rng2 [.int i, .int j] S q = ((-(2 ^ 62) ≤ i ∧ i < 2 ^ 62 ∧ -(2 ^ 62) ≤ j ∧ j < 2 ^ 62) ∧ q (rngL i (j - i).toNat)) := rfl
theorem it_enL {q : List SV → Prop} : itS .enum [.lst l] S q = q (enumL l 0) := rfl
theorem it_enT {q : List SV → Prop} : itS .enum [.tup l] S q = q (enumL l 0) := rfl
theorem it_zL {q : List SV → Prop} : itS .zip [.lst l, .lst m] S q = q (zipL l m) := rfl
theorem it_zT {q : List SV → Prop} : itS .zip [.tup l, .tup m] S q = q (zipL l m) := rfl
theorem append_own (h : S p = some (.lst l)) : appendS (.own p) v S k = (l.length < sizeLine ∧ k .non (supd S p (.lst (l ++ [v])))) := by
  unfold appendS
  simp only [h, Option.some.injEq, SO.lst.injEq, exists_and_left, exists_eq_left']
theorem rng_at {lo : Int} {n i : Nat} {x : SV} (h : (rngL lo n)[i]? = some x) : x = .int (lo + (i : Int)) ∧ i < n := by
  unfold rngL at h
  rw [List.getElem?_map] at h
  obtain ⟨j, h1, h2⟩ := Option.map_eq_some_iff.mp h
  have hi := (List.getElem?_eq_some_iff.mp h1).1
  rw [List.length_range] at hi
  rw [List.getElem?_range hi] at h1
  cases h1
  exact ⟨h2.symm, hi⟩
theorem rng_ln {lo : Int} {n : Nat} : (rngL lo n).length = n := by simp [rngL]
theorem cmul_r {i j : Int} (h1 : -1000000000000 < j) (h2 : j < 1000000000000) : CMul i j := .inr ⟨by omega, by omega⟩
theorem cmul_l {i j : Int} (h1 : -1000000000000 < i) (h2 : i < 1000000000000) : CMul i j := .inl ⟨by omega, by omega⟩
theorem cdiv_ {i j : Int} (h1 : 0 < j) (h2 : j < 1073741824) : CDivN i j := ⟨by omega, by omega⟩
theorem fin_same {Q : SK} (h : Q v S) : fin Q v S := ⟨S, v, fun _ _ e => e, .same v, h⟩
end
/-- a loop by an invariant -/
theorem for_inv {t : MT} {body : SS} {D : SD} (I : Nat → Ro → Sto → Prop) {l : List SV} {ρ : Ro} {S : Sto} (h0 : I 0 ρ S)
    (step : ∀ (i : Nat) (x : SV) (ρ : Ro) (S : Sto) (D' : SD), l[i]? = some x → I i ρ S → (∀ ρ S, I (i + 1) ρ S → D'.nx ρ S) → (∀ ρ S, I (i + 1) ρ S → D'.ct ρ S) → D'.rt = D.rt → D'.bk = D.nx → tgS t S x ρ fun ρ' => body D' ρ' S)
    (fin : ∀ ρ S, I l.length ρ S → D.nx ρ S) : forRun t body D l ρ S := by
  have go : ∀ (r : List SV) (i : Nat) (ρ : Ro) (S : Sto), (∀ j, r[j]? = l[i + j]?) → I i ρ S → i + r.length = l.length → forRun t body D r ρ S := by
    intro r
    induction r with
    | nil =>
      intro i ρ S _ h e
      have e' : i = l.length := by simpa using e
      rw [e'] at h
      exact fin ρ S h
    | cons x r ih =>
      intro i ρ S hr h e
      have hx : l[i]? = some x := by
        have := hr 0
        simpa using this.symm
      have nxt : ∀ ρ S, I (i + 1) ρ S → forRun t body D r ρ S := fun ρ S h => ih (i + 1) ρ S (fun j => by
        have := hr (j + 1)
        rw [List.getElem?_cons_succ] at this
        rw [this]
        congr 1
        omega) h (by simp at e; omega)
      exact step i x ρ S ⟨forRun t body D r, D.rt, D.nx, forRun t body D r⟩ hx h nxt nxt rfl rfl
  exact go l 0 ρ S (fun j => by simp) h0 (by simp)
/-- a comprehension by an invariant -/
theorem lc_inv {t : MT} {ρ : Ro} {cc : Ro → Sto → (Bool → Sto → Prop) → Prop} {ec : SE} {Q : List SV → Sto → Prop} (J : Nat → List SV → Sto → Prop) {l : List SV} {S : Sto} (h0 : J 0 [] S) (hz : l.length ≤ sizeLine)
    (step : ∀ (i : Nat) (x : SV) (acc : List SV) (S : Sto) (k : SK) (k' : Sto → Prop), l[i]? = some x → J i acc S → (∀ v S', J (i + 1) (acc ++ [v]) S' → k v S') → (∀ S', J (i + 1) acc S' → k' S') → tgS t S x ρ fun ρ' => cc ρ' S fun b S' => if b = true then ec ρ' S' k else k' S')
    (fin : ∀ acc S, J l.length acc S → Q acc S) : lcRun t ρ cc ec l [] S Q := by
  have go : ∀ (r : List SV) (i : Nat) (acc : List SV) (S : Sto), (∀ j, r[j]? = l[i + j]?) → J i acc S → i + r.length = l.length → acc.length ≤ i → lcRun t ρ cc ec r acc S Q := by
    intro r
    induction r with
    | nil =>
      intro i acc S _ h e _
      have e' : i = l.length := by simpa using e
      rw [e'] at h
      exact fin acc S h
    | cons x r ih =>
      intro i acc S hr h e hl
      have hx : l[i]? = some x := by
        have := hr 0
        simpa using this.symm
      have hr' : ∀ j, r[j]? = l[i + 1 + j]? := fun j => by
        have := hr (j + 1)
        rw [List.getElem?_cons_succ] at this
        rw [this]
        congr 1
        omega
      have e' : i + 1 + r.length = l.length := by simp at e; omega
      refine step i x acc S _ (fun S' => lcRun t ρ cc ec r acc S' Q) hx h (fun v S' hj => ⟨?_, ?_⟩) (fun S' hj => ?_)
      · omega
      · exact ih (i + 1) (acc ++ [v]) S' hr' hj e' (by simp; omega)
      · exact ih (i + 1) acc S' hr' hj e' (by omega)
  exact go l 0 [] S (fun j => by simp) h0 (by simp) (by simp)
/-- the same, of a list that is told by other things -/
theorem lc_on {α : Type} {t : MT} {ρ : Ro} {cc : Ro → Sto → (Bool → Sto → Prop) → Prop} {ec : SE} {Q : List SV → Sto → Prop} (enc : α → SV) (f : α → Option SV) {l : List α} {S : Sto} (hz : l.length ≤ sizeLine)
    (step : ∀ x ∈ l, ∀ (k : SK) (k' : Sto → Prop), (∀ v, f x = some v → k v S) → (f x = none → k' S) → tgS t S (enc x) ρ fun ρ' => cc ρ' S fun b S' => if b = true then ec ρ' S' k else k' S')
    (fin : Q (l.filterMap f) S) : lcRun t ρ cc ec (l.map enc) [] S Q := by
  refine lc_inv (fun i acc S' => acc = (l.take i).filterMap f ∧ S' = S) ⟨by simp, rfl⟩ (by rw [List.length_map]; exact hz) (fun i x acc S' k k' hx ⟨e1, e2⟩ h1 h2 => ?_) (fun acc S' ⟨e1, e2⟩ => ?_)
  · subst e2
    rw [List.getElem?_map] at hx
    obtain ⟨a, ha, rfl⟩ := Option.map_eq_some_iff.mp hx
    have hm : a ∈ l := List.mem_of_getElem? ha
    have ht : l.take (i + 1) = l.take i ++ [a] := by
      rw [List.take_add_one, ha]
      rfl
    refine step a hm k k' (fun v hv => h1 v _ ⟨?_, rfl⟩) (fun hn => h2 _ ⟨?_, rfl⟩)
    · rw [ht, List.filterMap_append, ← e1]
      simp [hv]
    · rw [ht, List.filterMap_append, ← e1]
      simp [hn]
  · rw [e1, e2, List.length_map, List.take_length]
    exact fin

/-! ### the deck -/
def DkAt (p c : Addr) (S : Sto) : Prop := c ≠ p ∧ ∃ (cells : List Int) (at_ sd : Int), cells ≠ [] ∧ S p = some (.lst [.own c, .int at_, .int sd]) ∧ S c = some (.lst (cells.map SV.int))
/-- nothing but the deck is changed -/
def Dk (p c : Addr) (S S' : Sto) : Prop := DkAt p c S' ∧ ∀ a, a ≠ p → a ≠ c → S' a = S a
theorem Dk.trans {p c : Addr} {S S1 S2 : Sto} (h : Dk p c S S1) (g : Dk p c S1 S2) : Dk p c S S2 := ⟨g.1, fun a h1 h2 => (g.2 a h1 h2).trans (h.2 a h1 h2)⟩
theorem DkAt.rfl' {p c : Addr} {S : Sto} (h : DkAt p c S) : Dk p c S S := ⟨h, fun _ _ _ => rfl⟩
theorem DkAt.upd {p c f : Addr} {S : Sto} {o : SO} (h : DkAt p c S) (hp : f ≠ p) (hc : f ≠ c) : DkAt p c (supd S f o) := by
  obtain ⟨hn, cells, a, sd, h0, h1, h2⟩ := h
  exact ⟨hn, cells, a, sd, h0, by rw [supd_ne (Ne.symm hp)]; exact h1, by rw [supd_ne (Ne.symm hc)]; exact h2⟩
theorem DkAt.new {p c f : Addr} {S : Sto} (h : DkAt p c S) (hf : S f = none) : f ≠ p ∧ f ≠ c := by
  obtain ⟨_, _, _, _, _, hp, hc⟩ := h
  exact ⟨fun e => (by rw [e, hp] at hf; cases hf), fun e => (by rw [e, hc] at hf; cases hf)⟩
theorem wo_sub {S : Sto} {f : Addr} : Sub (wo S f) S := fun a o e => by
  by_cases h : a = f
  · rw [h, wo_same] at e
    cases e
  · rw [wo_ne h] at e
    exact e
theorem wo_frz {S : Sto} {f : Addr} {l : List SV} (h : S f = some (.lst l)) : Frz S (wo S f) (.own f) (.lst l) := .lst h wo_same
theorem DkAt.wo {p c f : Addr} {S : Sto} (h : DkAt p c S) (hp : f ≠ p) (hc : f ≠ c) : DkAt p c (wo S f) := by
  obtain ⟨hn, cells, a, sd, h0, h1, h2⟩ := h
  exact ⟨hn, cells, a, sd, h0, by rw [wo_ne (Ne.symm hp)]; exact h1, by rw [wo_ne (Ne.symm hc)]; exact h2⟩
/-- nothing but the deck and f is changed, and f was not there -/
theorem Dk.wo {p c f : Addr} {S S' : Sto} (hf : S f = none) (h : DkAt p c S') (hp : f ≠ p) (hc : f ≠ c) (fr : ∀ a, a ≠ p → a ≠ c → a ≠ f → S' a = S a) : Dk p c S (wo S' f) :=
  ⟨h.wo hp hc, fun a q1 q2 => by
    by_cases ha : a = f
    · rw [ha, wo_same]
      exact hf.symm
    · rw [wo_ne ha]
      exact fr a q1 q2 ha⟩
end Sy

namespace Sy
open PySem PySem.Spec PyProof.Rows L2

/-! ### the order of words and of rows of words -/
def wk (a : PySem.Str) : List Nat := a.cps.toList
theorem wk_inj {a b : PySem.Str} (h : wk a = wk b) : a = b := PySem.W.str_of_cps h
def wle (a b : PySem.Str) : Bool := decide (wk a ≤ wk b)
def rle (a b : List PySem.Str) : Bool := decide (a.map wk ≤ b.map wk)
abbrev wS_ (l : List PySem.Str) : List SV := l.map SV.str
abbrev rS (r : List PySem.Str) : SV := .tup (r.map SV.str)
theorem rk_inj {a b : List PySem.Str} (h : a.map wk = b.map wk) : a = b := by
  induction a generalizing b with
  | nil => cases b with
    | nil => rfl
    | cons _ _ => cases h
  | cons x a ih => cases b with
    | nil => cases h
    | cons y b =>
      rw [List.map_cons, List.map_cons, List.cons.injEq] at h
      rw [wk_inj h.1, ih h.2]
theorem wle_total (a b : PySem.Str) : (wle a b || wle b a) = true := by
  unfold wle
  rcases List.le_total (wk a) (wk b) with h | h <;> simp [h]
theorem wle_trans (a b c : PySem.Str) (h1 : wle a b = true) (h2 : wle b c = true) : wle a c = true := by
  unfold wle at *
  exact decide_eq_true (List.le_trans (of_decide_eq_true h1) (of_decide_eq_true h2))
theorem rle_total (a b : List PySem.Str) : (rle a b || rle b a) = true := by
  unfold rle
  rcases List.le_total (a.map wk) (b.map wk) with h | h <;> simp [h]
theorem rle_trans (a b c : List PySem.Str) (h1 : rle a b = true) (h2 : rle b c = true) : rle a c = true := by
  unfold rle at *
  exact decide_eq_true (List.le_trans (of_decide_eq_true h1) (of_decide_eq_true h2))
theorem rle_anti {a b : List PySem.Str} (h1 : rle a b = true) (h2 : rle b a = true) : a = b := rk_inj (List.le_antisymm (of_decide_eq_true h1) (of_decide_eq_true h2))
theorem not_lt_le (a b : List Nat) : (!decide (b < a)) = decide (a ≤ b) := by
  by_cases h : b < a
  · have : ¬ a ≤ b := fun z => (List.not_le.mpr h) z
    simp [h, this]
  · have : a ≤ b := List.not_lt.mp h
    simp [h, this]
theorem not_lt_le2 (a b : List (List Nat)) : (!decide (b < a)) = decide (a ≤ b) := by
  by_cases h : b < a
  · have : ¬ a ≤ b := fun z => (List.not_le.mpr h) z
    simp [h, this]
  · have : a ≤ b := List.not_lt.mp h
    simp [h, this]

theorem toDs_words : ∀ l : List PySem.Str, toDs (wS_ l) = some (l.map PyData.str)
  | [] => rfl
  | a :: l => by
    show (toD (.str a)).bind (fun d => (toDs (wS_ l)).map fun r => d :: r) = _
    rw [toDs_words l]
    rfl
theorem toD_row (r : List PySem.Str) : toD (rS r) = some (.tuple (r.map PyData.str)) := by
  show (toDs (wS_ r)).map PyData.tuple = _
  rw [toDs_words]
  rfl
theorem toDs_rows : ∀ l : List (List PySem.Str), toDs (l.map rS) = some (l.map fun r => PyData.tuple (r.map PyData.str))
  | [] => rfl
  | a :: l => by
    show (toD (rS a)).bind (fun d => (toDs (l.map rS)).map fun r => d :: r) = _
    rw [toDs_rows l, toD_row]
    rfl
theorem alike_words : ∀ a b : List PySem.Str, PySem.W.alikeAll (a.map PyData.str) (b.map PyData.str) = true
  | [], _ => by simp [PySem.W.alikeAll]
  | _ :: _, [] => by simp [PySem.W.alikeAll]
  | x :: a, y :: b => by
    show PySem.W.alikeAll (.str x :: a.map PyData.str) (.str y :: b.map PyData.str) = true
    rw [PySem.W.alikeAll, alike_words a b]
    simp [PySem.W.alike]
theorem lex_words : ∀ a b : List PySem.Str, PyProof.Rows.lexLt itemOrd (PySem.W.keyToksAll (a.map PyData.str)) (PySem.W.keyToksAll (b.map PyData.str)) = decide (a.map wk < b.map wk)
  | [], [] => by decide +kernel
  | [], y :: b => by
    show PyProof.Rows.lexLt itemOrd (PySem.W.keyToksAll []) (PySem.W.keyToksAll (.str y :: b.map PyData.str)) = _
    rw [PySem.W.keyToksAll, PySem.W.keyToksAll, lex_diff (O := itemOrd) (by simp)]
    have h : ([] : List (List Nat)) < wk y :: b.map wk := List.nil_lt_cons _ _
    simp only [List.map_nil, List.map_cons, h, decide_true]
    decide +kernel
  | x :: a, [] => by
    show PyProof.Rows.lexLt itemOrd (PySem.W.keyToksAll (.str x :: a.map PyData.str)) (PySem.W.keyToksAll []) = _
    rw [PySem.W.keyToksAll, PySem.W.keyToksAll, lex_diff (O := itemOrd) (by simp)]
    have h : ¬ (wk x :: a.map wk) < ([] : List (List Nat)) := List.not_lt_nil _
    simp only [List.map_nil, List.map_cons, h, decide_false]
    decide +kernel
  | x :: a, y :: b => by
    show PyProof.Rows.lexLt itemOrd (PySem.W.keyToksAll (.str x :: a.map PyData.str)) (PySem.W.keyToksAll (.str y :: b.map PyData.str)) = decide (wk x :: a.map wk < wk y :: b.map wk)
    rw [PySem.W.dataLt_cons (by simp [PySem.W.alike]), eqv_str, lex_words a b, PySem.W.dataLt_str]
    by_cases h : x = y
    · subst h
      simp [List.cons_lt_cons_iff, List.lt_irrefl]
    · have h' : ¬ wk x = wk y := fun e => h (wk_inj e)
      simp [List.cons_lt_cons_iff, h, h']
      rfl
theorem srt_words (l : List PySem.Str) : srtL (wS_ l) = wS_ (l.mergeSort wle) := by
  unfold srtL
  refine (List.map_mergeSort fun a _ b _ => ?_).symm
  rw [PySem.W.dataLe_eq]
  show wle a b = !PySem.W.dataLt (.str b) (.str a)
  rw [PySem.W.dataLt_str]
  exact (not_lt_le _ _).symm
theorem datE_row (r : List PySem.Str) : datE (rS r) = .tuple (r.map PyData.str) := by
  unfold datE
  rw [toD_row]
  rfl
theorem srt_rows (l : List (List PySem.Str)) : srtL (l.map rS) = (l.mergeSort rle).map rS := by
  unfold srtL
  refine (List.map_mergeSort fun a _ b _ => ?_).symm
  rw [PySem.W.dataLe_eq]
  show rle a b = !PySem.W.dataLt (datE (rS b)) (datE (rS a))
  rw [datE_row, datE_row, PySem.W.dataLt_tuple, lex_words]
  exact (not_lt_le2 _ _).symm
theorem depth_words : ∀ r : List PySem.Str, PyData.depthAll (r.map PyData.str) = 0
  | [] => by simp [PyData.depthAll]
  | x :: r => by
    show PyData.depthAll (.str x :: r.map PyData.str) = 0
    rw [PyData.depthAll, depth_words r]
    simp [PyData.depth]
theorem lay_words : ∀ r : List PySem.Str, (∀ x ∈ r, PyData.strOk x = true) → PyData.canLayAll0 (r.map PyData.str) = true
  | [], _ => by simp [PyData.canLayAll0]
  | x :: r, h => by
    show PyData.canLayAll0 (.str x :: r.map PyData.str) = true
    rw [PyData.canLayAll0, lay_words r fun y hy => h y (List.mem_cons_of_mem _ hy)]
    simp [PyData.canLay0, h x List.mem_cons_self]
theorem dic_seq {S : Sto} {y : SV} {l : List SV} (h : seqOf S y = some l) : dicS S y = none := by
  cases y <;> first | rfl | (cases h; done) | skip
  rename_i a
  have h' : (match S a with | some (.lst l) => some l | some (.fz _ l) => some l | _ => none) = some l := h
  unfold dicS
  simp only
  split at h'
  · rename_i l' e
    rw [e]
  · rename_i l' o' e
    rw [e]
  · cases h'
theorem src_seq {S : Sto} {y : SV} {l : List SV} (h : seqOf S y = some l) : srcOf S y = some l := by
  unfold srcOf
  rw [dic_seq h]
  exact h
section
variable {S : Sto} {x : SV} {l : List SV} {ds : List PyData} {own : Bool} {k : SK}
theorem sorted_src (h1 : srcOf S x = some l) (h2 : toDs l = some ds) (h3 : PySem.W.AllAlike ds) (h4 : PySem.W.Sortable ds) (h5 : ∀ d ∈ ds, d.depth ≤ 8) : sortedS own x S k = newL own (srtL l) S k := by
  refine propext ⟨?_, fun h => ⟨l, ds, h1, h2, h3, .inl h4, h5, h⟩⟩
  rintro ⟨l', _, e, _, _, _, _, h⟩
  rw [h1] at e
  cases e
  exact h
theorem sorted_words' {ws : List PySem.Str} (h1 : srcOf S x = some (wS_ ws)) : sortedS own x S k = newL own (wS_ (ws.mergeSort wle)) S k := by
  rw [sorted_src h1 (toDs_words ws) ?_ (.inr ?_) ?_, srt_words]
  · intro d hd d' hd'
    obtain ⟨a, _, rfl⟩ := List.mem_map.mp hd
    obtain ⟨b, _, rfl⟩ := List.mem_map.mp hd'
    simp [PySem.W.alike]
  · intro d hd
    obtain ⟨a, _, rfl⟩ := List.mem_map.mp hd
    exact ⟨fun e => (by cases e), fun xs e => (by cases e)⟩
  · intro d hd
    obtain ⟨a, _, rfl⟩ := List.mem_map.mp hd
    simp [PyData.depth]
theorem sorted_words {ws : List PySem.Str} (h1 : seqOf S x = some (wS_ ws)) : sortedS own x S k = newL own (wS_ (ws.mergeSort wle)) S k := sorted_words' (src_seq h1)
theorem sorted_rows' {rs : List (List PySem.Str)} (h1 : srcOf S x = some (rs.map rS)) (hne : ∀ r ∈ rs, r ≠ []) : sortedS own x S k = newL own ((rs.mergeSort rle).map rS) S k := by
  rw [sorted_src h1 (toDs_rows rs) ?_ (.inl ?_) ?_, srt_rows]
  · intro d hd d' hd'
    obtain ⟨a, _, rfl⟩ := List.mem_map.mp hd
    obtain ⟨b, _, rfl⟩ := List.mem_map.mp hd'
    show PySem.W.alike (.tuple _) (.tuple _) = true
    rw [PySem.W.alike]
    exact alike_words a b
  · intro d hd
    obtain ⟨a, ha, rfl⟩ := List.mem_map.mp hd
    cases a with
    | nil => exact absurd rfl (hne _ ha)
    | cons x r => exact ⟨.str x, r.map PyData.str, rfl⟩
  · intro d hd
    obtain ⟨a, _, rfl⟩ := List.mem_map.mp hd
    simp [PyData.depth, depth_words]
theorem sorted_rows {rs : List (List PySem.Str)} (h1 : seqOf S x = some (rs.map rS)) (hne : ∀ r ∈ rs, r ≠ []) : sortedS own x S k = newL own ((rs.mergeSort rle).map rS) S k := sorted_rows' (src_seq h1) hne
/-! ### == and in, of words and of rows -/
theorem shaped_str {a : PySem.Str} (h : PyData.strOk a = true) : SeqAt.shaped (.str a) = true := by
  simp [SeqAt.shaped, PyData.canLay0, PyData.depth, h]
theorem shaped_words {ws : List PySem.Str} (h : ∀ x ∈ ws, PyData.strOk x = true) : SeqAt.shaped (.list (ws.map PyData.str)) = true := by
  simp [SeqAt.shaped, PyData.canLay0, PyData.depth, lay_words ws h, depth_words]
theorem any_words (a : PySem.Str) : ∀ ws : List PySem.Str, ((ws.map PyData.str).any fun z => PyData.eqv z (.str a)) = decide (a ∈ ws)
  | [] => by simp
  | x :: ws => by
    rw [List.map_cons, List.any_cons, any_words a ws, eqv_str]
    by_cases h : x = a
    · simp [h]
    · have h' : ¬ a = x := fun e => h e.symm
      simp [h, h']
theorem in_of {q : Bool → Prop} {d : PyData} (h1 : toD x = some d) (h2 : toDs l = some ds) (s1 : SeqAt.shaped d = true) (s2 : SeqAt.shaped (.list ds) = true) : inS x l q = q (ds.any fun z => PyData.eqv z d) := by
  refine propext ⟨?_, fun h => ⟨d, ds, h1, h2, s1, s2, h⟩⟩
  rintro ⟨d', ds', e1, e2, _, _, h⟩
  rw [h1] at e1
  rw [h2] at e2
  cases e1
  cases e2
  exact h
theorem in_words {q : Bool → Prop} {a : PySem.Str} {ws : List PySem.Str} (ha : PyData.strOk a = true) (h : ∀ x ∈ ws, PyData.strOk x = true) : inS (.str a) (wS_ ws) q = q (decide (a ∈ ws)) := by
  rw [in_of (d := .str a) rfl (toDs_words ws) (shaped_str ha) (shaped_words h), any_words]
theorem toDs_ints : ∀ l : List Int, toDs (l.map SV.int) = some (l.map PyData.int)
  | [] => rfl
  | a :: l => by
    show (toD (.int a)).bind (fun d => (toDs (l.map SV.int)).map fun r => d :: r) = _
    rw [toDs_ints l]
    rfl
theorem lay_ints : ∀ l : List Int, PyData.canLayAll0 (l.map PyData.int) = true ∧ PyData.depthAll (l.map PyData.int) = 0
  | [] => by simp [PyData.canLayAll0, PyData.depthAll]
  | a :: l => by
    obtain ⟨h1, h2⟩ := lay_ints l
    show PyData.canLayAll0 (.int a :: l.map PyData.int) = true ∧ PyData.depthAll (.int a :: l.map PyData.int) = 0
    rw [PyData.canLayAll0, PyData.depthAll, h1, h2]
    simp [PyData.canLay0, PyData.depth]
theorem any_ints (a : Int) : ∀ ws : List Int, ((ws.map PyData.int).any fun z => PyData.eqv z (.int a)) = decide (a ∈ ws)
  | [] => by simp
  | x :: ws => by
    rw [List.map_cons, List.any_cons, any_ints a ws, eqv_int]
    by_cases h : x = a
    · simp [h]
    · have h' : ¬ a = x := fun e => h e.symm
      simp [h, h']
theorem in_ints {q : Bool → Prop} {a : Int} {ws : List Int} : inS (.int a) (ws.map SV.int) q = q (decide (a ∈ ws)) := by
  rw [in_of (d := .int a) rfl (toDs_ints ws) (by simp [SeqAt.shaped, PyData.canLay0, PyData.depth]) (by simp [SeqAt.shaped, PyData.canLay0, PyData.depth, (lay_ints ws).1, (lay_ints ws).2]), any_ints]
theorem inK_of {neg : Bool} {y : SV} {l : List SV} (hs : ∀ s, y ≠ .str s) (h : seqOf S y = some l) : inK neg x y S k = inS x l fun b => k (.bl (xor neg b)) S := by
  unfold inK
  split
  · exact absurd rfl (hs _)
  · simp only [dic_seq h, h, Option.some.injEq, exists_eq_left']
theorem inK_tuf {neg : Bool} {l : List SV} : inK neg x (.tuf l) S k = inS x l fun b => k (.bl (xor neg b)) S := inK_of (fun _ e => by cases e) rfl
theorem inK_lst {neg : Bool} {l : List SV} : inK neg x (.lst l) S k = inS x l fun b => k (.bl (xor neg b)) S := inK_of (fun _ e => by cases e) rfl
theorem inK_own {neg : Bool} {p : Addr} {l : List SV} (h : S p = some (.lst l)) : inK neg x (.own p) S k = inS x l fun b => k (.bl (xor neg b)) S := inK_of (fun _ e => by cases e) (seqOf_own h)
end
end Sy

namespace Sy
def d_law_deck : Def := ⟨["script"], ["script", "cells", "seed", "k", "mixed"],
 (.cons (.asg (.one 1 "cells") (.bin .Add true (.sl false (.var 0 "script") .none (.some (.cst (.int 63)))) (.lst false (.cons (.bi .len false (.cons (.var 0 "script") .nil)) .nil))))
 (.cons (.asg (.one 2 "seed") (.bin .Mod false (.bin .Add false (.bin .Add false (.bin .Mult false (.bi .sum false (.cons (.sl false (.var 0 "script") .none (.some (.cst (.int 63)))) .nil)) (.cst (.int 48271))) (.bin .Mult false (.cst (.int 7)) (.bi .len false (.cons (.var 0 "script") .nil)))) (.cst (.int 5))) (.cst (.int 2147483647))))
 (.cons (.ifs (.cmp .Eq (.bin .Mod false (.bi .sum false (.cons (.sl false (.var 0 "script") .none (.some (.cst (.int 63)))) .nil)) (.cst (.int 2))) (.cst (.int 1))) (.cons (.for_ (.one 3 "k") .rng1 (.cons (.bi .len false (.cons (.var 1 "cells") .nil)) .nil) (.cons (.asg (.one 4 "mixed") (.bin .Mod false (.bin .Mult false (.bin .Add false (.bin .Add false (.bin .Mod false (.idx (.var 1 "cells") (.var 3 "k")) (.cst (.int 2147483587))) (.bin .Mult false (.cst (.int 853)) (.var 3 "k"))) (.cst (.int 11))) (.cst (.int 69621))) (.cst (.int 2147483629))))
 (.cons (.asg (.one 4 "mixed") (.bin .Mod false (.bin .Mult false (.bin .Mod false (.bin .Add false (.bin .Mult false (.var 4 "mixed") (.var 4 "mixed")) (.bin .Mult false (.cst (.int 31)) (.var 3 "k"))) (.cst (.int 2147483563))) (.cst (.int 16807))) (.cst (.int 2147483549))))
 (.cons (.setIx (.var 1 "cells") (.var 3 "k") (.bin .Add false (.bin .Mult false (.bin .Mult false (.var 4 "mixed") (.var 4 "mixed")) (.cst (.int 2147483543))) (.bin .Mod false (.bin .Mult false (.var 4 "mixed") (.cst (.int 48271))) (.cst (.int 2147483579)))))
 .nil))))
 .nil) .nil)
 (.cons (.ret (.lst true (.cons (.var 1 "cells") (.cons (.cst (.int 0)) (.cons (.var 2 "seed") .nil)))))
 .nil))))⟩

def d_law_take : Def := ⟨["deck", "many"], ["deck", "many", "at", "cell", "one"],
 (.cons (.asg (.one 2 "at") (.bin .Mod false (.idx (.var 0 "deck") (.cst (.int 1))) (.bi .len false (.cons (.idx (.var 0 "deck") (.cst (.int 0))) .nil))))
 (.cons (.setIx (.var 0 "deck") (.cst (.int 1)) (.bin .Add false (.idx (.var 0 "deck") (.cst (.int 1))) (.cst (.int 1))))
 (.cons (.asg (.one 3 "cell") (.idx (.idx (.var 0 "deck") (.cst (.int 0))) (.var 2 "at")))
 (.cons (.ifs (.or (.cmp .Eq (.var 3 "cell") (.cst (.int 0))) (.cmp .Eq (.var 3 "cell") (.neg (.cst (.int 1))))) (.cons (.asg (.one 4 "one") (.bin .Mod false (.bin .Mult false (.bin .Mod false (.bin .Add false (.idx (.var 0 "deck") (.cst (.int 2))) (.bin .Mult false (.cst (.int 7919)) (.idx (.var 0 "deck") (.cst (.int 1))))) (.cst (.int 2147483587))) (.cst (.int 69621))) (.cst (.int 2147483629))))
 (.cons (.asg (.one 4 "one") (.bin .Mod false (.bin .Mult false (.bin .Mod false (.bin .Add false (.bin .Mult false (.var 4 "one") (.var 4 "one")) (.bin .Mult false (.cst (.int 31)) (.idx (.var 0 "deck") (.cst (.int 1))))) (.cst (.int 2147483563))) (.cst (.int 16807))) (.cst (.int 2147483549))))
 (.cons (.ret (.bin .Mod false (.bin .FloorDiv false (.var 4 "one") (.cst (.int 8))) (.var 1 "many")))
 .nil))) .nil)
 (.cons (.setIx (.idx (.var 0 "deck") (.cst (.int 0))) (.var 2 "at") (.bin .FloorDiv false (.var 3 "cell") (.var 1 "many")))
 (.cons (.ret (.bin .Mod false (.var 3 "cell") (.var 1 "many")))
 .nil))))))⟩

def d_law_names : Def := ⟨["deck", "many"], ["deck", "many", "letters", "own", "found", "any_word", "ahead", "near", "more", "word", "turn", "k"],
 (.cons (.asg (.one 2 "letters") (.cst (.str "abcdefghijklmnopqrstuvwxyz")))
 (.cons (.asg (.one 3 "own") (.lst false (.cons (.cst (.str "web")) (.cons (.cst (.str "put")) (.cons (.cst (.str "take")) (.cons (.cst (.str "tie")) (.cons (.cst (.str "untie")) (.cons (.cst (.str "show")) (.cons (.cst (.str "first")) (.cons (.cst (.str "next")) (.cons (.cst (.str "all")) (.cons (.cst (.str "count")) (.cons (.cst (.str "sizes")) (.cons (.cst (.str "biggest")) .nil))))))))))))))
 (.cons (.asg (.one 3 "own") (.bin .Add false (.var 3 "own") (.lst false (.cons (.cst (.str "fill")) (.cons (.cst (.str "tied")) (.cons (.cst (.str "apart")) (.cons (.cst (.str "cover")) .nil)))))))
 (.cons (.asg (.one 4 "found") (.lst true .nil))
 (.cons (.whl (.cmp .Lt (.bi .len false (.cons (.var 4 "found") .nil)) (.var 1 "many")) (.cons (.asg (.one 5 "any_word") (.mt .join false (.cst (.str "")) (.cons (.lc false [("k", 11)] (.idx (.var 2 "letters") (.call "_law_take" (.cons (.var 0 "deck") (.cons (.cst (.int 26)) .nil)))) (.one 11 "k") .rng1 (.cons (.bin .Add false (.cst (.int 1)) (.call "_law_take" (.cons (.var 0 "deck") (.cons (.cst (.int 8)) .nil)))) .nil) .none) .nil)))
 (.cons (.asg (.one 6 "ahead") (.bin .Add false (.idx (.bin .Add false (.lst false (.cons (.cst (.str "a")) .nil)) (.var 4 "found")) (.neg (.cst (.int 1)))) (.idx (.var 2 "letters") (.call "_law_take" (.cons (.var 0 "deck") (.cons (.cst (.int 26)) .nil))))))
 (.cons (.asg (.one 7 "near") (.idx (.var 3 "own") (.call "_law_take" (.cons (.var 0 "deck") (.cons (.cst (.int 16)) .nil)))))
 (.cons (.asg (.one 8 "more") (.bin .Add false (.var 7 "near") (.idx (.var 2 "letters") (.call "_law_take" (.cons (.var 0 "deck") (.cons (.cst (.int 26)) .nil))))))
 (.cons (.asg (.one 7 "near") (.idx (.lst false (.cons (.var 8 "more") (.cons (.sl false (.var 7 "near") .none (.some (.neg (.cst (.int 1))))) (.cons (.idx (.var 2 "letters") (.call "_law_take" (.cons (.var 0 "deck") (.cons (.cst (.int 26)) .nil)))) .nil)))) (.call "_law_take" (.cons (.var 0 "deck") (.cons (.cst (.int 3)) .nil)))))
 (.cons (.asg (.one 9 "word") (.idx (.lst false (.cons (.var 5 "any_word") (.cons (.sl false (.var 6 "ahead") .none (.some (.cst (.int 8)))) (.cons (.sl false (.var 7 "near") .none (.some (.cst (.int 8)))) (.cons (.idx (.var 2 "letters") (.call "_law_take" (.cons (.var 0 "deck") (.cons (.cst (.int 26)) .nil)))) .nil))))) (.call "_law_take" (.cons (.var 0 "deck") (.cons (.cst (.int 4)) .nil)))))
 (.cons (.asg (.one 10 "turn") (.cst (.int 0)))
 (.cons (.whl (.or (.cmp .In (.var 9 "word") (.var 4 "found")) (.cmp .In (.var 9 "word") (.var 3 "own"))) (.cons (.asg (.one 9 "word") (.bin .Add false (.idx (.var 2 "letters") (.bin .Mod false (.var 10 "turn") (.cst (.int 26)))) (.idx (.var 2 "letters") (.bin .FloorDiv false (.var 10 "turn") (.cst (.int 26))))))
 (.cons (.asg (.one 10 "turn") (.bin .Add false (.var 10 "turn") (.cst (.int 1))))
 .nil)))
 (.cons (.ex (.mt .append false (.var 4 "found") (.cons (.var 9 "word") .nil)))
 .nil))))))))))
 (.cons (.frz 4)
 (.cons (.ret (.var 4 "found"))
 .nil)))))))⟩

def d_law_size : Def := ⟨["deck", "most"], ["deck", "most"],
 (.cons (.ret (.idx (.lst false (.cons (.call "_law_take" (.cons (.var 0 "deck") (.cons (.cst (.int 5)) .nil))) (.cons (.call "_law_take" (.cons (.var 0 "deck") (.cons (.bin .Add false (.var 1 "most") (.cst (.int 1))) .nil))) (.cons (.var 1 "most") (.cons (.call "_law_take" (.cons (.var 0 "deck") (.cons (.cst (.int 8)) .nil))) .nil))))) (.call "_law_take" (.cons (.var 0 "deck") (.cons (.cst (.int 4)) .nil)))))
 .nil)⟩

def d_law_web : Def := ⟨["deck", "most"], ["deck", "most", "names", "menu", "way", "ties", "k", "j", "drawn"],
 (.cons (.asg (.one 2 "names") (.bi .sorted false (.cons (.call "_law_names" (.cons (.var 0 "deck") (.cons (.bi .mn false (.cons (.var 1 "most") (.cons (.call "_law_size" (.cons (.var 0 "deck") (.cons (.var 1 "most") .nil))) .nil))) .nil))) .nil)))
 (.cons (.asg (.one 3 "menu") (.idx (.lst false (.cons (.lst false (.cons (.cst (.int 0)) .nil)) (.cons (.lst false (.cons (.cst (.int 1)) .nil)) (.cons (.lst false (.cons (.cst (.int 0)) (.cons (.cst (.int 1)) .nil))) (.cons (.lst false (.cons (.cst (.int 0)) (.cons (.cst (.int 1)) (.cons (.cst (.int 1)) (.cons (.cst (.int 1)) .nil))))) (.cons (.lst false (.cons (.cst (.int 0)) (.cons (.cst (.int 0)) (.cons (.cst (.int 0)) (.cons (.cst (.int 1)) .nil))))) .nil)))))) (.call "_law_take" (.cons (.var 0 "deck") (.cons (.cst (.int 5)) .nil)))))
 (.cons (.asg (.one 4 "way") (.call "_law_take" (.cons (.var 0 "deck") (.cons (.cst (.int 4)) .nil))))
 (.cons (.asg (.one 5 "ties") (.lst true .nil))
 (.cons (.for_ (.one 6 "k") .rng1 (.cons (.bi .len false (.cons (.var 2 "names") .nil)) .nil) (.cons (.for_ (.one 7 "j") .rng1 (.cons (.var 6 "k") .nil) (.cons (.asg (.one 8 "drawn") (.idx (.var 3 "menu") (.call "_law_take" (.cons (.var 0 "deck") (.cons (.bi .len false (.cons (.var 3 "menu") .nil)) .nil)))))
 (.cons (.ifs (.cmp .Eq (.var 4 "way") (.cst (.int 1))) (.cons (.asg (.one 8 "drawn") (.bi .int false (.cons (.cmp .In (.bin .Sub false (.var 6 "k") (.var 7 "j")) (.lst false (.cons (.cst (.int 1)) (.cons (.bin .Sub false (.bi .len false (.cons (.var 2 "names") .nil)) (.cst (.int 1))) .nil)))) .nil)))
 .nil) .nil)
 (.cons (.ifs (.and (.cmp .Eq (.var 4 "way") (.cst (.int 2))) (.cmp .Gt (.bin .Mod false (.bin .Sub false (.var 6 "k") (.var 7 "j")) (.cst (.int 3))) (.cst (.int 0)))) (.cons (.asg (.one 8 "drawn") (.cst (.int 0)))
 .nil) .nil)
 (.cons (.ifs (.cmp .Eq (.var 8 "drawn") (.cst (.int 1))) (.cons (.ex (.mt .append false (.var 5 "ties") (.cons (.tup (.cons (.idx (.var 2 "names") (.var 7 "j")) (.cons (.idx (.var 2 "names") (.var 6 "k")) .nil))) .nil)))
 .nil) .nil)
 .nil)))))
 .nil))
 (.cons (.frz 5)
 (.cons (.ret (.tup (.cons (.bi .tuple false (.cons (.var 2 "names") .nil)) (.cons (.bi .tuple false (.cons (.bi .sorted false (.cons (.var 5 "ties") .nil)) .nil)) .nil))))
 .nil)))))))⟩

end Sy

namespace Sy
open PySem PySem.Spec PyProof.Rows L2
local macro_rules | `(tactic| simp! only [$ls,*]) => `(tactic| try simp only [callX_fold, mnA, mxA, strS, wB, wS, wT, wE, wA, wO, wC, tgS, binS, cmpS, biS, r1, r2, mtS, augS, cstS, splitS, opI_int, add_int, add_str, add_tup, add_ll, newL_f, newL_t, mul_int, ord_int, ord_str, int_int, int_bl, mn_int, mx_int, mn_str, mx_str, tuple_tup, tuple_tuf, tuple_lst, tuple_lstT, sl_lst, sl_tup, sl_scr, sl_str, it_lst, it_str, it_tup, it_tuf, it_enU, it_zU, it_rng1, it_rng2, it_enL, it_enT, it_zL, it_zT, List.set_cons_zero, List.set_cons_succ, List.getElem?_cons_zero, List.getElem?_cons_succ, some_ex, some_ex2, bl_ex, int_ex, eqS_int, idx_lst, idx_tup, idx_tuf, idx_str, len_lst, len_tup, len_tuf, len_scr, at_0, at_1, at_2, true_and, and_true, Int.fmod_eq_emod_of_nonneg, Int.fdiv_eq_ediv_of_nonneg, ne_eq, reduceCtorEq, not_false_eq_true, if_true, if_false, Bool.false_eq_true, decide_eq_true_eq, Int.reduceEq, Int.reduceLE, Int.reduceLT, $ls,*])
section
variable {Pr : PySem.Str → Option Def} {g : PySem.Str → Option SV}
theorem take_ok (pt : Pr "_law_take" = some d_law_take) {k : Nat} {p c : Addr} {S : Sto} {m : Int} {Q : SK} (h : DkAt p c S) (h1 : 1 ≤ m) (h2 : m < 1000000) (q : ∀ r S', 0 ≤ r → r < m → Dk p c S S' → Q (.int r) S') : callS Pr g (k + 1) "_law_take" [.own p, .int m] S Q := by
  obtain ⟨hn, cells, a, sd, h0, hp, hc⟩ := h
  have hl : 0 < (cells.map SV.int).length := by
    rw [List.length_map]
    exact List.length_pos_iff.mpr h0
  have hm : (0 : Int) ≤ m := by omega
  have hlz : (0 : Int) ≤ ((cells.map SV.int).length : Int) := by omega
  refine ⟨d_law_take, pt, rfl, ?_⟩
  show wB _ _ d_law_take.body _ [some (.own p), some (.int m), none, none, none] S
  unfold d_law_take
  simp! only [idx_own hp, idx_own hc, len_own hc, hlz, set_own hp]
  refine ⟨by omega, 1, ixN_1 (by simp), ?_⟩
  simp! only []
  generalize hS1 : supd S p (.lst [.own c, .int (a + 1), .int sd]) = S1
  have hp1 : S1 p = some (.lst [.own c, .int (a + 1), .int sd]) := by rw [← hS1]; exact supd_same
  have hc1 : S1 c = some (.lst (cells.map SV.int)) := by rw [← hS1, supd_ne hn]; exact hc
  have ho1 : ∀ b, b ≠ p → b ≠ c → S1 b = S b := fun b h1 _ => by rw [← hS1, supd_ne h1]
  have hi1 : 0 ≤ a % ((cells.map SV.int).length : Int) := Int.emod_nonneg _ (by omega)
  have hi2 : a % ((cells.map SV.int).length : Int) < ((cells.map SV.int).length : Int) := Int.emod_lt_of_pos _ (by omega)
  generalize hz : a % ((cells.map SV.int).length : Int) = z at *
  obtain ⟨y, hy⟩ : ∃ y : Int, (cells.map SV.int)[z.toNat]'(by omega) = .int y := ⟨_, List.getElem_map _⟩
  have d1 : Dk p c S S1 := ⟨⟨hn, cells, a + 1, sd, h0, hp1, hc1⟩, ho1⟩
  simp! only [idx_own hp1, idx_own hc1, at_of hi1 hi2, hy, hm, set_own hc1]
  have last : fin Q (.int (y % m)) (supd S1 c (.lst ((cells.map SV.int).set z.toNat (.int (y / m))))) := by
    refine fin_same (q _ _ (Int.emod_nonneg _ (by omega)) (Int.emod_lt_of_pos _ (by omega)) ⟨⟨hn, cells.set z.toNat (y / m), a + 1, sd, ?_, ?_, ?_⟩, ?_⟩)
    · intro e
      have := congrArg List.length e
      simp at this
      exact h0 this
    · rw [supd_ne (Ne.symm hn)]
      exact hp1
    · rw [supd_same, List.map_set]
    · intro b b1 b2
      rw [supd_ne b2]
      exact ho1 b b1 b2
  have c1 : CMul 7919 (a + 1) := cmul_l (by decide) (by decide)
  have c2 : CMul ((sd + 7919 * (a + 1)) % 2147483587) 69621 := cmul_r (by decide) (by decide)
  have fall : ∀ x : Int, CMul (x % 2147483629) (x % 2147483629) ∧ CMul 31 (a + 1) ∧ CMul ((x % 2147483629 * (x % 2147483629) + 31 * (a + 1)) % 2147483563) 16807 ∧ CDivN ((x % 2147483629 * (x % 2147483629) + 31 * (a + 1)) % 2147483563 * 16807 % 2147483549) 8 ∧ ¬m = 0 ∧ fin Q (.int ((x % 2147483629 * (x % 2147483629) + 31 * (a + 1)) % 2147483563 * 16807 % 2147483549 / 8 % m)) S1 := fun x =>
    ⟨cmul_l (by omega) (by omega), cmul_l (by decide) (by decide), cmul_r (by decide) (by decide), cdiv_ (by decide) (by decide), by omega, fin_same (q _ _ (Int.emod_nonneg _ (by omega)) (Int.emod_lt_of_pos _ (by omega)) d1)⟩
  by_cases e0 : y = 0
  · rw [if_pos e0]
    exact ⟨c1, c2, fall _⟩
  · rw [if_neg e0]
    by_cases e1 : y = -1
    · rw [if_pos e1]
      exact ⟨c1, c2, fall _⟩
    · rw [if_neg e1]
      exact ⟨cdiv_ (by omega) (by omega), z.toNat, ixN_of hi1 hi2, by omega, last⟩

theorem cut_map {α β : Type} (f : α → β) (l : List α) (lo hi : Option Int) : cutL (l.map f) lo hi = (cutL l lo hi).map f := by
  unfold cutL
  rw [List.length_map, List.map_take, List.map_drop]
theorem sumI_map : ∀ l : List Int, sumI (l.map SV.int) = some l.sum
  | [] => rfl
  | i :: l => by
    show (sumI (l.map SV.int)).map (fun r => i + r) = _
    rw [sumI_map l]
    rfl
theorem sum_ints {S : Sto} {l : List Int} {k : SK} : sumS (.lst (l.map SV.int)) S k = k (.int l.sum) S := by
  unfold sumS
  refine propext ⟨?_, fun h => ⟨_, _, rfl, sumI_map l, h⟩⟩
  rintro ⟨l', n, e1, e2, h⟩
  cases e1
  rw [sumI_map] at e2
  cases e2
  exact h
theorem cut_len {α : Type} (l : List α) (lo hi : Option Int) : (cutL l lo hi).length ≤ l.length := by
  unfold cutL
  rw [List.length_take, List.length_drop]
  omega
theorem deck_ok (pd : Pr "_law_deck" = some d_law_deck) {k : Nat} {S : Sto} {ns : List Int} {Q : SK} (hl : ns.length ≤ 63) (q : ∀ p c S', S p = none → S c = none → Dk p c S S' → Q (.own p) S') : callS Pr g (k + 1) "_law_deck" [.scr (ns.map SV.int)] S Q := by
  have hz : (63 : Nat) < sizeLine := by decide
  have hcl := cut_len ns none (some 63)
  refine ⟨d_law_deck, pd, rfl, ?_⟩
  show wB _ _ d_law_deck.body _ [some (.scr (ns.map SV.int)), none, none, none, none] S
  unfold d_law_deck
  simp! only [cut_map, sum_ints, List.length_map, List.length_append, List.length_cons, List.length_nil]
  refine ⟨by omega, by decide, by omega, fun c hc => ?_⟩
  generalize hN : cutL ns none (some 63) = cs at *
  have e0 : cs.map SV.int ++ [SV.int (ns.length : Int)] = (cs ++ [(ns.length : Int)]).map SV.int := by simp
  rw [e0]
  generalize hC : cs ++ [(ns.length : Int)] = c0
  have hc0 : c0 ≠ [] := by rw [← hC]; simp
  have hcz : c0.length ≤ 64 := by rw [← hC]; simp; omega
  have last : ∀ (cells : List Int) (sd : Int) (S' : Sto), cells ≠ [] → S' c = some (.lst (cells.map SV.int)) → (∀ a, a ≠ c → S' a = S a) → ∀ p, S' p = none → fin Q (.own p) (supd S' p (.lst [.own c, .int 0, .int sd])) := fun cells sd S' h1 h2 h3 p hp => by
    have hpc : p ≠ c := fun e => by
      rw [e, h2] at hp
      cases hp
    refine fin_same (q p c _ (by rw [← h3 p hpc]; exact hp) hc ⟨⟨Ne.symm hpc, cells, 0, sd, h1, supd_same, by rw [supd_ne (Ne.symm hpc)]; exact h2⟩, fun a h4 h5 => by rw [supd_ne h4]; exact h3 a h5⟩)
  refine ⟨by omega, cmul_r (by decide) (by decide), cmul_l (by decide) (by decide), by omega, ?_⟩
  have hS0 : ∀ a, a ≠ c → supd S c (.lst (c0.map SV.int)) a = S a := fun a h => supd_ne h
  have hc1 : supd S c (.lst (c0.map SV.int)) c = some (.lst (c0.map SV.int)) := supd_same
  generalize supd S c (.lst (c0.map SV.int)) = S1 at *
  generalize ((cs.sum * 48271 + 7 * (ns.length : Int) + 5) % 2147483647) = sd
  split
  · simp! only [len_own hc1, List.length_map]
    refine ⟨by omega, by omega, ?_⟩
    refine for_inv (fun _ ρ S' => ∃ (cells : List Int) (v3 v4 : Option SV), ρ = [some (.scr (ns.map SV.int)), some (.own c), some (.int sd), v3, v4] ∧ cells.length = c0.length ∧ S' c = some (.lst (cells.map SV.int)) ∧ ∀ a, a ≠ c → S' a = S a)
      ⟨c0, none, none, rfl, rfl, hc1, hS0⟩ ?_ ?_
    · rintro i x ρ S' D hx ⟨cells, v3, v4, rfl, h1, h2, h3⟩ nx _ _ _
      obtain ⟨rfl, hi⟩ := rng_at hx
      have hi1 : (0 : Int) ≤ 0 + (i : Int) := by omega
      have hi2 : (0 : Int) + (i : Int) < ((cells.map SV.int).length : Int) := by
        rw [List.length_map]
        omega
      obtain ⟨y, hy⟩ : ∃ y : Int, (cells.map SV.int)[((0 : Int) + (i : Int)).toNat]'(by omega) = .int y := ⟨_, List.getElem_map _⟩
      simp! only [idx_own h2, at_of hi1 hi2, hy, set_own h2]
      refine ⟨cmul_l (by decide) (by decide), cmul_r (by decide) (by decide), cmul_l (by omega) (by omega), cmul_l (by decide) (by decide), cmul_r (by decide) (by decide), cmul_l (by omega) (by omega), cmul_r (by decide) (by decide), cmul_r (by decide) (by decide), _, ixN_of hi1 hi2, ?_⟩
      rw [← List.map_set]
      exact nx _ _ ⟨_, _, _, rfl, (by rw [List.length_set]; exact h1), supd_same, fun a ha => by rw [supd_ne ha]; exact h3 a ha⟩
    · rintro ρ S' ⟨cells, v3, v4, rfl, h1, h2, h3⟩
      simp! only []
      refine ⟨by decide, last cells sd S' ?_ h2 h3⟩
      intro e
      rw [e] at h1
      exact hc0 (List.eq_nil_of_length_eq_zero h1.symm)
  · exact ⟨by decide, last c0 sd S1 hc0 hc1 hS0⟩
end
end Sy

namespace Sy
open PySem PySem.Spec PyProof.Rows L2
/-! ### words -/
def lowS (a : PySem.Str) : Prop := ∀ ch ∈ wk a, 97 ≤ ch ∧ ch ≤ 122
theorem low_ok {a : PySem.Str} (h : lowS a) : PyData.strOk a = true := by
  unfold PyData.strOk
  rw [Array.all_eq_true_iff_forall_mem]
  intro ch hc
  have := h ch (by unfold wk; exact Array.mem_toList_iff.mpr hc)
  exact decide_eq_true (by omega)
theorem wk_app (a b : PySem.Str) : wk (a ++ b) = wk a ++ wk b := by
  show (a ++ b).cps.toList = _
  rw [Str.cps_append, Array.toList_append]
  rfl
theorem wk_len (a : PySem.Str) : (wk a).length = a.length := rfl
theorem low_app {a b : PySem.Str} (h : lowS a) (g : lowS b) : lowS (a ++ b) := fun ch hc => by
  rw [wk_app] at hc
  rcases List.mem_append.mp hc with q | q
  · exact h ch q
  · exact g ch q
theorem len_app (a b : PySem.Str) : (a ++ b).length = a.length + b.length := by
  rw [← wk_len, ← wk_len, ← wk_len, wk_app, List.length_append]
theorem wk_cut (a : PySem.Str) (lo hi : Option Int) : wk (cutS a lo hi) = cutL (wk a) lo hi := rfl
theorem mem_cut {α : Type} {l : List α} {lo hi : Option Int} {x : α} (h : x ∈ cutL l lo hi) : x ∈ l := List.mem_of_mem_drop (List.mem_of_mem_take h)
theorem low_cut {a : PySem.Str} (h : lowS a) (lo hi : Option Int) : lowS (cutS a lo hi) := fun ch hc => by
  rw [wk_cut] at hc
  exact h ch (mem_cut hc)
theorem wk_one (ch : Nat) : wk ⟨#[ch]⟩ = [ch] := rfl
theorem low_one {ch : Nat} (h : 97 ≤ ch ∧ ch ≤ 122) : lowS ⟨#[ch]⟩ := fun c hc => by
  rw [wk_one, List.mem_singleton] at hc
  rw [hc]
  exact h
abbrev abc : PySem.Str := "abcdefghijklmnopqrstuvwxyz"
theorem wk_abc : wk abc = (List.range 26).map fun i => 97 + i := by decide +kernel
theorem at_abc {i : Int} (h : 0 ≤ i) (h2 : i < 26) : atI (wk abc) i = some (97 + i.toNat) := by
  have e : i = ((i.toNat : Nat) : Int) := by omega
  have hi : i.toNat < 26 := by omega
  rw [e]
  refine atI_nat ?_
  rw [wk_abc, List.getElem?_map, List.getElem?_range (by omega)]
  simp
  omega
/-- letters[i] -/
theorem abc_ix {S : Sto} {i : Int} {k : SK} (h : 0 ≤ i) (h2 : i < 26) (q : k (.str ⟨#[97 + i.toNat]⟩) S) : idxS (.str abc) (.int i) S k :=
  ⟨(by decide +kernel), _, at_abc h h2, q⟩
theorem wk_join : ∀ ys : List PySem.Str, wk (PySem.Str.join "" ys) = (ys.map wk).flatten
  | [] => rfl
  | [x] => by simp [PySem.Str.join]
  | x :: y :: r => by
    show wk (x ++ "" ++ PySem.Str.join "" (y :: r)) = _
    rw [wk_app, wk_app, wk_join (y :: r)]
    have e : wk "" = [] := by decide +kernel
    rw [e]
    simp
theorem strL_map : ∀ ys : List PySem.Str, strL (wS_ ys) = some ys
  | [] => rfl
  | y :: ys => by
    show (strL (wS_ ys)).map (fun r => y :: r) = _
    rw [strL_map ys]
    rfl
theorem join_chars {S : Sto} {cs : List Nat} {k : SK} (hl : cs.length ≤ 1000) (q : ∀ w : PySem.Str, wk w = cs → k (.str w) S) : joinS (.str "") (.lst (wS_ (cs.map fun c => (⟨#[c]⟩ : PySem.Str)))) S k := by
  have hs : ∀ l : List Nat, ((l.map fun c => (⟨#[c]⟩ : PySem.Str)).map fun y => y.length).sum = l.length := by
    intro l
    induction l with
    | nil => rfl
    | cons x l ih =>
      rw [List.map_cons, List.map_cons, List.sum_cons, ih, List.length_cons]
      show 1 + l.length = l.length + 1
      omega
  refine ⟨_, _, rfl, strL_map _, ?_, q _ ?_⟩
  · rw [hs]
    have e : (PySem.Str.ofString "").length = 0 := by decide +kernel
    rw [e]
    omega
  · rw [show Txt.join "" (cs.map fun c => (⟨#[c]⟩ : PySem.Str)) = PySem.Str.join "" (cs.map fun c => (⟨#[c]⟩ : PySem.Str)) from PySem.StrLaws.glued_eq_join _ _, wk_join, List.map_map]
    have : ∀ l : List Nat, (l.map (wk ∘ fun c => (⟨#[c]⟩ : PySem.Str))).flatten = l := by
      intro l
      induction l with
      | nil => rfl
      | cons x l ih =>
        rw [List.map_cons, List.flatten_cons, ih]
        rfl
    exact this cs
abbrev ownW1 : List PySem.Str := ["web", "put", "take", "tie", "untie", "show", "first", "next", "all", "count", "sizes", "biggest"]
abbrev ownW2 : List PySem.Str := ["fill", "tied", "apart", "cover"]
def ownW : List PySem.Str := ownW1 ++ ownW2
/-- a word that may name something -/
structure WOk (a : PySem.Str) : Prop where
  low : lowS a
  l1 : 1 ≤ a.length
  l8 : a.length ≤ 8
  no : a ∉ ownW
theorem own_low : ∀ a ∈ ownW, lowS a ∧ 2 ≤ a.length ∧ a.length ≤ 8 := by
  intro a ha
  have h : (ownW.all fun a => decide (2 ≤ a.length) && decide (a.length ≤ 8) && (wk a).all fun ch => decide (97 ≤ ch) && decide (ch ≤ 122)) = true := by decide +kernel
  have q := List.all_eq_true.mp h a ha
  simp only [Bool.and_eq_true, decide_eq_true_eq, List.all_eq_true] at q
  exact ⟨q.2, q.1.1, q.1.2⟩
theorem nodup_len {α : Type} [DecidableEq α] : ∀ {l m : List α}, l.Nodup → (∀ x ∈ l, x ∈ m) → l.length ≤ m.length
  | [], _, _, _ => Nat.zero_le _
  | x :: l, m, h, hs => by
    obtain ⟨h1, h2⟩ := List.nodup_cons.mp h
    have hx := hs x List.mem_cons_self
    have q := nodup_len (m := m.erase x) h2 fun y hy => (List.mem_erase_of_ne (fun e => h1 (by rw [← e]; exact hy))).mpr (hs y (List.mem_cons_of_mem _ hy))
    rw [List.length_erase_of_mem hx] at q
    have : 0 < m.length := List.length_pos_of_mem hx
    rw [List.length_cons]
    omega
/-- the words that are tried one behind another -/
def tryW (t : Nat) : PySem.Str := (⟨#[97 + t % 26]⟩ : PySem.Str) ++ ⟨#[97 + t / 26]⟩
theorem tryW_wk (t : Nat) : wk (tryW t) = [97 + t % 26, 97 + t / 26] := rfl
theorem tryW_inj {s t : Nat} (h : tryW s = tryW t) : s = t := by
  have e := congrArg wk h
  rw [tryW_wk, tryW_wk] at e
  simp at e
  omega
theorem tryW_low {t : Nat} (h : t < 676) : lowS (tryW t) := fun ch hc => by
  rw [tryW_wk] at hc
  have : t / 26 < 26 := by omega
  rcases List.mem_cons.mp hc with e | hc
  · omega
  · have := List.mem_singleton.mp hc
    omega
theorem tryW_len (t : Nat) : (tryW t).length = 2 := rfl
theorem try_many {X : List PySem.Str} {t : Nat} (h : ∀ s, s < t → tryW s ∈ X) : t ≤ X.length := by
  have hn : ((List.range t).map tryW).Nodup := List.pairwise_map.mpr (List.Pairwise.imp (fun {a b} hab => fun e => hab (tryW_inj e)) List.nodup_range)
  have q := nodup_len (m := X) hn fun x hx => by
    obtain ⟨s, hs, rfl⟩ := List.mem_map.mp hx
    exact h s (List.mem_range.mp hs)
  simpa using q
theorem at_last {α : Type} {l : List α} (h : l ≠ []) : ∃ v ∈ l, atI l (-1) = some v := by
  refine ⟨l.getLast h, List.getLast_mem h, ?_⟩
  have e : l.dropLast ++ [l.getLast h] = l := List.dropLast_concat_getLast h
  have q := atI_last l.dropLast (l.getLast h)
  rw [e] at q
  exact q
end Sy

namespace Sy
open PySem PySem.Spec PyProof.Rows L2
local macro_rules | `(tactic| simp! only [$ls,*]) => `(tactic| try simp only [callX_fold, mnA, mxA, strS, wB, wS, wT, wE, wA, wO, wC, tgS, binS, cmpS, biS, r1, r2, mtS, augS, cstS, splitS, opI_int, add_int, add_str, add_tup, add_ll, newL_f, newL_t, mul_int, ord_int, ord_str, int_int, int_bl, mn_int, mx_int, mn_str, mx_str, tuple_tup, tuple_tuf, tuple_lst, tuple_lstT, sl_lst, sl_tup, sl_scr, sl_str, it_lst, it_str, it_tup, it_tuf, it_enU, it_zU, it_rng1, it_rng2, it_enL, it_enT, it_zL, it_zT, List.set_cons_zero, List.set_cons_succ, List.getElem?_cons_zero, List.getElem?_cons_succ, some_ex, some_ex2, bl_ex, int_ex, eqS_int, idx_lst, idx_tup, idx_tuf, idx_str, len_lst, len_tup, len_tuf, len_scr, at_0, at_1, at_2, true_and, and_true, Int.fmod_eq_emod_of_nonneg, Int.fdiv_eq_ediv_of_nonneg, ne_eq, reduceCtorEq, not_false_eq_true, if_true, if_false, Bool.false_eq_true, decide_eq_true_eq, Int.reduceEq, Int.reduceLE, Int.reduceLT, $ls,*])
section
variable {Pr : PySem.Str → Option Def} {g : PySem.Str → Option SV}
theorem take_abc (pt : Pr "_law_take" = some d_law_take) {k : Nat} {p c : Addr} {S : Sto} {kk : SK} (h : DkAt p c S) (q : ∀ ch S', 97 ≤ ch ∧ ch ≤ 122 → Dk p c S S' → kk (.str ⟨#[ch]⟩) S') :
    callS Pr g (k + 1) "_law_take" [.own p, .int 26] S fun y S2 => idxS (.str "abcdefghijklmnopqrstuvwxyz") y S2 kk :=
  take_ok pt h (by decide) (by decide) fun r S' r0 r1 d => abc_ix r0 r1 (q _ _ ⟨by omega, by omega⟩ d)
theorem idx_mem {S : Sto} {l : List SV} {i : Int} {k : SK} (h0 : 0 ≤ i) (h1 : i < (l.length : Int)) (q : ∀ v ∈ l, k v S) : idxS (.lst l) (.int i) S k := by
  rw [idx_lst, at_of h0 h1]
  exact ⟨_, rfl, q _ (List.getElem_mem _)⟩
theorem cut_m1 (a : PySem.Str) : (cutS a none (some (-1))).length = a.length - 1 := by
  rw [← wk_len, wk_cut, ← wk_len]
  generalize wk a = l
  unfold cutL
  rw [List.length_take, List.length_drop]
  have e : HT.sIx l.length l.length (some (-1)) = ((-1 : Int) + (l.length : Int)).toNat := rfl
  have e2 : HT.sIx l.length 0 none = 0 := rfl
  rw [e, e2]
  omega
theorem cut_8 (a : PySem.Str) : (cutS a none (some 8)).length = min 8 a.length := by
  rw [← wk_len, wk_cut, ← wk_len]
  generalize wk a = l
  unfold cutL
  rw [List.length_take, List.length_drop]
  have e : HT.sIx l.length l.length (some 8) = min 8 l.length := rfl
  have e2 : HT.sIx l.length 0 none = 0 := rfl
  rw [e, e2]
  omega
theorem Dk.at {p c : Addr} {S S' : Sto} (h : Dk p c S S') : DkAt p c S' := h.1
theorem names_ok (pt : Pr "_law_take" = some d_law_take) (pn : Pr "_law_names" = some d_law_names) {k : Nat} {p c : Addr} {S : Sto} {m : Int} {Q : SK} (h : DkAt p c S) (h1 : 0 ≤ m) (h2 : m ≤ 100)
    (q : ∀ (ws : List PySem.Str) (S' : Sto), (ws.length : Int) = m → ws.Nodup → (∀ w ∈ ws, WOk w) → Dk p c S S' → Q (.lst (wS_ ws)) S') : callS Pr g (k + 2) "_law_names" [.own p, .int m] S Q := by
  have big : (20000 : Nat) ≤ sizeLine := by decide
  refine ⟨d_law_names, pn, rfl, ?_⟩
  show wB _ _ d_law_names.body _ [some (.own p), some (.int m), none, none, none, none, none, none, none, none, none, none] S
  unfold d_law_names
  simp! only []
  refine ⟨by decide, by decide, by decide, by decide, fun f hf => ?_⟩
  have hfp : f ≠ p := fun e => by
    obtain ⟨_, _, _, _, _, hp, _⟩ := h
    rw [e, hp] at hf
    cases hf
  have hfc : f ≠ c := fun e => by
    obtain ⟨_, _, _, _, _, _, hc⟩ := h
    rw [e, hc] at hf
    cases hf
  refine ⟨fun j ρ S' => ∃ (ws : List PySem.Str) (v5 v6 v7 v8 v9 v10 v11 : Option SV), ρ = [some (.own p), some (.int m), some (.str abc), some (.lst (wS_ ownW)), some (.own f), v5, v6, v7, v8, v9, v10, v11] ∧ m = (ws.length : Int) + (j : Int) ∧ ws.Nodup ∧ (∀ w ∈ ws, WOk w) ∧ S' f = some (.lst (wS_ ws)) ∧ DkAt p c S' ∧ ∀ a, a ≠ p → a ≠ c → a ≠ f → S' a = S a,
    ⟨m.toNat, [], none, none, none, none, none, none, none, rfl, ?_, List.nodup_nil, fun w hw => (by cases hw), supd_same, ?_, fun a _ _ h3 => supd_ne h3⟩, ?_⟩
  · simp
    omega
  · obtain ⟨hn, cells, a, sd, h0, hp, hc⟩ := h
    exact ⟨hn, cells, a, sd, h0, by rw [supd_ne (Ne.symm hfp)]; exact hp, by rw [supd_ne (Ne.symm hfc)]; exact hc⟩
  rintro j ρ S1 ⟨ws, v5, v6, v7, v8, v9, v10, v11, rfl, hj, nd, hw, hF, hD, fr⟩
  simp! only [len_own hF, List.length_map]
  by_cases hlt : (ws.length : Int) < m
  · rw [if_pos hlt]
    refine ⟨⟨_, rfl⟩, ?_⟩
    refine take_ok pt hD (by decide) (by decide) fun r S2 r0 r1 d2 => ?_
    simp! only [wipeR, List.map_cons, List.map_nil]
    refine ⟨by omega, by omega, ?_⟩
    refine lc_inv (fun i acc S' => ∃ cs : List Nat, acc = wS_ (cs.map fun c => (⟨#[c]⟩ : PySem.Str)) ∧ cs.length = i ∧ (∀ ch ∈ cs, 97 ≤ ch ∧ ch ≤ 122) ∧ Dk p c S1 S') ⟨[], rfl, rfl, fun _ hx => (by cases hx), d2⟩ (by rw [rng_ln]; omega) ?_ ?_
    · rintro i x acc S' kk kf hx ⟨cs, rfl, hc, hlow, d⟩ nx _
      simp! only []
      refine take_abc pt d.at fun ch S3 hch d3 => nx _ _ ⟨cs ++ [ch], by simp, by simp [hc], fun y hy => ?_, d.trans d3⟩
      rcases List.mem_append.mp hy with z | z
      · exact hlow y z
      · rw [List.mem_singleton.mp z]
        exact hch
    rintro acc S3 ⟨cs, rfl, hc, hlow, d3⟩
    rw [rng_ln] at hc
    simp! only [List.length_map]
    refine ⟨by omega, ?_⟩
    refine join_chars (by omega) fun w5 e5 => ?_
    have F3 : S3 f = some (.lst (wS_ ws)) := (d3.2 f hfp hfc).trans hF
    simp! only [add_lo F3, List.length_append, List.length_cons, List.length_nil, List.length_map]
    refine ⟨by decide, by omega, ?_⟩
    have hA : ∀ a ∈ (("a" : PySem.Str) :: ws), lowS a ∧ 1 ≤ a.length ∧ a.length ≤ 8 := fun a ha => by
      rcases List.mem_cons.mp ha with e | ha
      · rw [e]
        exact ⟨low_one (by decide), by decide, by decide⟩
      · exact ⟨(hw a ha).low, (hw a ha).l1, (hw a ha).l8⟩
    obtain ⟨va, hva, ea⟩ := at_last (l := wS_ (("a" : PySem.Str) :: ws)) (by simp)
    obtain ⟨a0, ha0, rfl⟩ := List.mem_map.mp hva
    obtain ⟨a1, a2, a3⟩ := hA a0 ha0
    refine ⟨_, ea, ?_⟩
    refine take_abc pt d3.at fun ch4 S4 hc4 d4 => ?_
    simp! only []
    have l4 : ∀ ch : Nat, (⟨#[ch]⟩ : PySem.Str).length = 1 := fun _ => rfl
    refine ⟨by rw [l4]; omega, ?_⟩
    refine take_ok pt d4.at (by decide) (by decide) fun r5 S5 r50 r51 d5 => ?_
    refine idx_mem r50 (by rw [List.length_map]; exact r51) fun vn hvn => ?_
    obtain ⟨n0, hn0, rfl⟩ := List.mem_map.mp hvn
    obtain ⟨n1, n2, n3⟩ := own_low n0 hn0
    refine take_abc pt d5.at fun ch6 S6 hc6 d6 => ?_
    simp! only []
    refine ⟨by rw [l4]; omega, by omega, ?_⟩
    refine take_abc pt d6.at fun ch7 S7 hc7 d7 => ?_
    refine ⟨by decide, ?_⟩
    refine take_ok pt d7.at (by decide) (by decide) fun r8 S8 r80 r81 d8 => ?_
    refine idx_mem r80 r81 fun vm hvm => ?_
    obtain ⟨m0, rfl, m1, m2, m3⟩ : ∃ m0 : PySem.Str, vm = .str m0 ∧ lowS m0 ∧ 1 ≤ m0.length ∧ m0.length ≤ 9 := by
      rcases List.mem_cons.mp hvm with e | hvm
      · exact ⟨_, e, low_app n1 (low_one hc6), by rw [len_app, l4]; omega, by rw [len_app, l4]; omega⟩
      rcases List.mem_cons.mp hvm with e | hvm
      · exact ⟨_, e, low_cut n1 _ _, by rw [cut_m1]; omega, by rw [cut_m1]; omega⟩
      · exact ⟨_, List.mem_singleton.mp hvm, low_one hc7, by rw [l4]; omega, by rw [l4]; omega⟩
    simp! only []
    refine ⟨by rw [len_app, l4]; omega, by omega, ?_⟩
    refine take_abc pt d8.at fun ch9 S9 hc9 d9 => ?_
    refine ⟨by decide, ?_⟩
    refine take_ok pt d9.at (by decide) (by decide) fun r10 S10 r100 r101 d10 => ?_
    refine idx_mem r100 r101 fun vw hvw => ?_
    obtain ⟨w0, rfl, w1, w2, w3⟩ : ∃ w0 : PySem.Str, vw = .str w0 ∧ lowS w0 ∧ 1 ≤ w0.length ∧ w0.length ≤ 8 := by
      rcases List.mem_cons.mp hvw with e | hvw
      · refine ⟨_, e, fun ch hh => hlow ch (by rw [← e5]; exact hh), ?_, ?_⟩
        · rw [← wk_len, e5]; omega
        · rw [← wk_len, e5]; omega
      rcases List.mem_cons.mp hvw with e | hvw
      · exact ⟨_, e, low_cut (low_app a1 (low_one hc4)) _ _, by rw [cut_8, len_app, l4]; omega, by rw [cut_8]; omega⟩
      rcases List.mem_cons.mp hvw with e | hvw
      · exact ⟨_, e, low_cut m1 _ _, by rw [cut_8]; omega, by rw [cut_8]; omega⟩
      · exact ⟨_, List.mem_singleton.mp hvw, low_one hc9, by rw [l4]; omega, by rw [l4]; omega⟩
    have dd : Dk p c S1 S10 := d3.trans (d4.trans (d5.trans (d6.trans (d7.trans (d8.trans (d9.trans d10))))))
    have F10 : S10 f = some (.lst (wS_ ws)) := (dd.2 f hfp hfc).trans hF
    have hX : ∀ x ∈ ws ++ ownW, PyData.strOk x = true := fun x hx => by
      rcases List.mem_append.mp hx with z | z
      · exact low_ok (hw x z).low
      · exact low_ok (own_low x z).1
    have hXl : (ws ++ ownW).length ≤ 116 := by
      rw [List.length_append]
      have : ownW.length = 16 := by decide
      omega
    refine ⟨fun i ρ' S' => ∃ (t : Nat) (w : PySem.Str), ρ' = [some (.own p), some (.int m), some (.str abc), some (.lst (wS_ ownW)), some (.own f), some (.str w5), some (.str (a0 ++ ⟨#[ch4]⟩)), some (.str m0), some (.str (n0 ++ ⟨#[ch6]⟩)), some (.str w), some (.int (t : Int)), v11] ∧ S' = S10 ∧ i + t = 200 ∧ lowS w ∧ 1 ≤ w.length ∧ w.length ≤ 8 ∧ (∀ s, s + 1 < t → tryW s ∈ ws ++ ownW) ∧ (0 < t → w = tryW (t - 1)),
      ⟨200, 0, w0, rfl, rfl, rfl, w1, w2, w3, fun s hs => (by omega), fun hs => (by omega)⟩, ?_⟩
    rintro i ρ' S' ⟨t, w, rfl, rfl, hi, z1, z2, z3, z4, z5⟩
    simp! only [inK_own F10, inK_lst, in_words (low_ok z1) (fun x hx => low_ok (hw x hx).low), in_words (low_ok z1) (fun x hx => low_ok (own_low x hx).1), Bool.false_xor]
    have pick : w ∈ ws ++ ownW → t ≤ 116 ∧ ∀ s, s < t → tryW s ∈ ws ++ ownW := fun hm => by
      have all : ∀ s, s < t → tryW s ∈ ws ++ ownW := fun s hs => by
        rcases Nat.lt_or_ge (s + 1) t with h | h
        · exact z4 s h
        · have e : s = t - 1 := by omega
          rw [e, ← z5 (by omega)]
          exact hm
      exact ⟨Nat.le_trans (try_many all) hXl, all⟩
    have e26 : 97 + ((t : Int) % 26).toNat = 97 + t % 26 := by omega
    have e27 : 97 + ((t : Int) / 26).toNat = 97 + t / 26 := by omega
    split
    · rename_i hin
      obtain ⟨ht, all⟩ := pick (List.mem_append_left _ hin)
      refine ⟨by decide +kernel, _, at_abc (by omega) (by omega), cdiv_ (by decide) (by decide), by decide +kernel, _, at_abc (by omega) (by omega), ?_⟩
      rw [e26, e27]
      exact ⟨by rw [l4, l4]; omega, i - 1, by omega, t + 1, tryW t, rfl, by omega, tryW_low (by omega), by rw [tryW_len]; omega, by rw [tryW_len]; omega, fun s hs => all s (by omega), fun _ => rfl⟩
    · rename_i hnin
      split
      · rename_i hin
        obtain ⟨ht, all⟩ := pick (List.mem_append_right _ hin)
        refine ⟨by decide +kernel, _, at_abc (by omega) (by omega), cdiv_ (by decide) (by decide), by decide +kernel, _, at_abc (by omega) (by omega), ?_⟩
        rw [e26, e27]
        exact ⟨by rw [l4, l4]; omega, i - 1, by omega, t + 1, tryW t, rfl, by omega, tryW_low (by omega), by rw [tryW_len]; omega, by rw [tryW_len]; omega, fun s hs => all s (by omega), fun _ => rfl⟩
      · rename_i hno
        rw [append_own F10]
        refine ⟨⟨_, items_own F10⟩, by rw [List.length_map]; omega, j - 1, by omega, ws ++ [w], _, _, _, _, _, _, _, rfl, ?_, ?_, ?_, ?_, ?_, ?_⟩
        · rw [List.length_append, List.length_singleton]
          omega
        · rw [List.nodup_append]
          refine ⟨nd, by simp, fun a ha b hb => ?_⟩
          rw [List.mem_singleton.mp hb]
          intro e
          rw [e] at ha
          exact hnin ha
        · intro x hx
          rcases List.mem_append.mp hx with z | z
          · exact hw x z
          · rw [List.mem_singleton.mp z]
            exact ⟨z1, z2, z3, hno⟩
        · rw [supd_same]
          simp
        · obtain ⟨hn, cells, a, sd, h0, hp, hc⟩ := dd.at
          exact ⟨hn, cells, a, sd, h0, by rw [supd_ne (Ne.symm hfp)]; exact hp, by rw [supd_ne (Ne.symm hfc)]; exact hc⟩
        · intro a q1 q2 q3
          rw [supd_ne q3, dd.2 a q1 q2]
          exact fr a q1 q2 q3
  · rw [if_neg hlt]
    have hz : j = 0 := by omega
    exact ⟨f, wo S1 f, .lst (wS_ ws), rfl, wo_sub, wo_frz hF, fin_same (q ws _ (by omega) nd hw (Dk.wo hf hD hfp hfc fr))⟩
end
end Sy

namespace Sy
open PySem PySem.Spec PyProof.Rows L2
local macro_rules | `(tactic| simp! only [$ls,*]) => `(tactic| try simp only [callX_fold, mnA, mxA, strS, wB, wS, wT, wE, wA, wO, wC, tgS, binS, cmpS, biS, r1, r2, mtS, augS, cstS, splitS, opI_int, add_int, add_str, add_tup, add_ll, newL_f, newL_t, mul_int, ord_int, ord_str, int_int, int_bl, mn_int, mx_int, mn_str, mx_str, tuple_tup, tuple_tuf, tuple_lst, tuple_lstT, sl_lst, sl_tup, sl_scr, sl_str, it_lst, it_str, it_tup, it_tuf, it_enU, it_zU, it_rng1, it_rng2, it_enL, it_enT, it_zL, it_zT, List.set_cons_zero, List.set_cons_succ, List.getElem?_cons_zero, List.getElem?_cons_succ, some_ex, some_ex2, bl_ex, int_ex, eqS_int, idx_lst, idx_tup, idx_tuf, idx_str, len_lst, len_tup, len_tuf, len_scr, at_0, at_1, at_2, true_and, and_true, Int.fmod_eq_emod_of_nonneg, Int.fdiv_eq_ediv_of_nonneg, ne_eq, reduceCtorEq, not_false_eq_true, if_true, if_false, Bool.false_eq_true, decide_eq_true_eq, Int.reduceEq, Int.reduceLE, Int.reduceLT, $ls,*])
/-! ### pairs -/
def pairsL : List PySem.Str → List (List PySem.Str)
  | [] => []
  | a :: r => r.map (fun b => [a, b]) ++ pairsL r
theorem pairs_mem : ∀ {L : List PySem.Str} {i j : Nat} {a b : PySem.Str}, i < j → L[i]? = some a → L[j]? = some b → [a, b] ∈ pairsL L
  | [], i, j, a, b, _, h, _ => by simp at h
  | x :: L, 0, j + 1, a, b, _, h, g => by
    have e : x = a := by simpa using h
    subst e
    exact List.mem_append_left _ (List.mem_map.mpr ⟨b, List.mem_of_getElem? (by simpa using g), rfl⟩)
  | x :: L, i + 1, j + 1, a, b, hij, h, g => List.mem_append_right _ (pairs_mem (i := i) (j := j) (by omega) (by simpa using h) (by simpa using g))
theorem pairs_of_mem : ∀ {L : List PySem.Str} {r : List PySem.Str}, r ∈ pairsL L → ∃ a b, r = [a, b] ∧ a ∈ L ∧ b ∈ L
  | [], r, h => by cases h
  | x :: L, r, h => by
    rcases List.mem_append.mp h with z | z
    · obtain ⟨b, hb, rfl⟩ := List.mem_map.mp z
      exact ⟨x, b, rfl, List.mem_cons_self, List.mem_cons_of_mem _ hb⟩
    · obtain ⟨a, b, e, h1, h2⟩ := pairs_of_mem z
      exact ⟨a, b, e, List.mem_cons_of_mem _ h1, List.mem_cons_of_mem _ h2⟩
theorem pairs_len : ∀ L : List PySem.Str, 2 * (pairsL L).length = L.length * (L.length - 1)
  | [] => rfl
  | x :: L => by
    have ih := pairs_len L
    show 2 * (L.map (fun b => [x, b]) ++ pairsL L).length = (L.length + 1) * (L.length + 1 - 1)
    rw [List.length_append, List.length_map, Nat.mul_add, ih]
    cases L with
    | nil => rfl
    | cons y L =>
      show 2 * (L.length + 1) + (L.length + 1) * L.length = (L.length + 2) * (L.length + 1)
      rw [Nat.add_mul L.length 2, Nat.mul_comm (L.length + 1) L.length]
      omega
theorem nodup_ix {α : Type} : ∀ {L : List α} {i j : Nat} {a : α}, L.Nodup → L[i]? = some a → L[j]? = some a → i = j
  | [], i, j, a, _, h, _ => by simp at h
  | x :: L, 0, 0, a, _, _, _ => rfl
  | x :: L, 0, j + 1, a, h, h1, h2 => by
    have e : x = a := by simpa using h1
    subst e
    exact absurd (List.mem_of_getElem? (by simpa using h2)) (List.nodup_cons.mp h).1
  | x :: L, i + 1, 0, a, h, h1, h2 => by
    have e : x = a := by simpa using h2
    subst e
    exact absurd (List.mem_of_getElem? (by simpa using h1)) (List.nodup_cons.mp h).1
  | x :: L, i + 1, j + 1, a, h, h1, h2 => by
    rw [nodup_ix (i := i) (j := j) (List.nodup_cons.mp h).2 (by simpa using h1) (by simpa using h2)]
/-- a web -/
structure WebOk (L : List PySem.Str) (T : List (List PySem.Str)) (n : Nat) : Prop where
  nd : L.Nodup
  srt : L.Pairwise fun a b => wle a b = true
  ok : ∀ a ∈ L, WOk a
  len : L.length ≤ n
  sub : ∀ r ∈ T, r ∈ pairsL L
  tnd : T.Nodup
  tsrt : T.Pairwise fun a b => rle a b = true
abbrev webS (L : List PySem.Str) (T : List (List PySem.Str)) : SV := .tup [.tuf (wS_ L), .tuf (T.map rS)]
section
variable {Pr : PySem.Str → Option Def} {g : PySem.Str → Option SV}
theorem size_ok (pt : Pr "_law_take" = some d_law_take) (ps : Pr "_law_size" = some d_law_size) {k : Nat} {p c : Addr} {S : Sto} {m : Int} {Q : SK} (h : DkAt p c S) (h1 : 0 ≤ m) (h2 : m ≤ 100)
    (q : ∀ (r : Int) (S' : Sto), 0 ≤ r → Dk p c S S' → Q (.int r) S') : callS Pr g (k + 2) "_law_size" [.own p, .int m] S Q := by
  refine ⟨d_law_size, ps, rfl, ?_⟩
  show wB _ _ d_law_size.body _ [some (.own p), some (.int m)] S
  unfold d_law_size
  simp! only []
  refine take_ok pt h (by decide) (by decide) fun r1 S1 r10 r11 d1 => ?_
  refine take_ok pt d1.at (by omega) (by omega) fun r2 S2 r20 r21 d2 => ?_
  refine take_ok pt d2.at (by decide) (by decide) fun r3 S3 r30 r31 d3 => ?_
  refine ⟨by show 4 ≤ sizeLine; decide, ?_⟩
  refine take_ok pt d3.at (by decide) (by decide) fun r4 S4 r40 r41 d4 => ?_
  refine idx_mem r40 r41 fun v hv => ?_
  have dd := d1.trans (d2.trans (d3.trans d4))
  rcases List.mem_cons.mp hv with e | hv
  · rw [e]; exact fin_same (q _ _ r10 dd)
  rcases List.mem_cons.mp hv with e | hv
  · rw [e]; exact fin_same (q _ _ r20 dd)
  rcases List.mem_cons.mp hv with e | hv
  · rw [e]; exact fin_same (q _ _ h1 dd)
  · rw [List.mem_singleton.mp hv]; exact fin_same (q _ _ r30 dd)
theorem web_ok (pt : Pr "_law_take" = some d_law_take) (pn : Pr "_law_names" = some d_law_names) (ps : Pr "_law_size" = some d_law_size) (pw : Pr "_law_web" = some d_law_web) {k : Nat} {p c : Addr} {S : Sto} {m : Int} {Q : SK} (h : DkAt p c S) (h1 : 0 ≤ m) (h2 : m ≤ 100)
    (q : ∀ (L : List PySem.Str) (T : List (List PySem.Str)) (S' : Sto), WebOk L T m.toNat → Dk p c S S' → Q (webS L T) S') : callS Pr g (k + 3) "_law_web" [.own p, .int m] S Q := by
  have big : (20000 : Nat) ≤ sizeLine := by decide
  refine ⟨d_law_web, pw, rfl, ?_⟩
  show wB _ _ d_law_web.body _ [some (.own p), some (.int m), none, none, none, none, none, none, none] S
  unfold d_law_web
  simp! only []
  refine size_ok pt ps h h1 h2 fun rs S1 hrs d1 => ?_
  simp! only []
  refine names_ok pt pn d1.at (m := if rs < m then rs else m) (by split <;> omega) (by split <;> omega) fun ws S2 hwl hnd hok d2 => ?_
  rw [sorted_words seqOf_lst]
  have hperm := List.mergeSort_perm ws wle
  have hsrt : (ws.mergeSort wle).Pairwise fun a b => wle a b = true := List.pairwise_mergeSort wle_trans wle_total ws
  generalize ws.mergeSort wle = L at *
  have hL1 : L.Nodup := hperm.nodup_iff.mpr hnd
  have hL2 : ∀ a ∈ L, WOk a := fun a ha => hok a (hperm.mem_iff.mp ha)
  have hL3 : (L.length : Int) ≤ m := by
    rw [hperm.length_eq, hwl]
    split <;> omega
  simp! only [List.length_map, List.length_cons, List.length_nil]
  refine ⟨by omega, by decide, by decide, by decide, by decide, by decide, by decide, ?_⟩
  refine take_ok pt d2.at (by decide) (by decide) fun r3 S3 r30 r31 d3 => ?_
  refine idx_mem r30 r31 fun menu hmenu => ?_
  obtain ⟨mn, rfl, mn0, mnl⟩ : ∃ mn : List Int, menu = .lst (mn.map SV.int) ∧ mn ≠ [] ∧ mn.length ≤ 4 := by
    rcases List.mem_cons.mp hmenu with e | hmenu
    · exact ⟨[0], e, by simp, by decide⟩
    rcases List.mem_cons.mp hmenu with e | hmenu
    · exact ⟨[1], e, by simp, by decide⟩
    rcases List.mem_cons.mp hmenu with e | hmenu
    · exact ⟨[0, 1], e, by simp, by decide⟩
    rcases List.mem_cons.mp hmenu with e | hmenu
    · exact ⟨[0, 1, 1, 1], e, by simp, by decide⟩
    · exact ⟨[0, 0, 0, 1], List.mem_singleton.mp hmenu, by simp, by decide⟩
  refine take_ok pt d3.at (by decide) (by decide) fun way S4 w0 w1 d4 => ?_
  refine ⟨by decide, fun t ht => ?_⟩
  obtain ⟨htp, htc⟩ := d4.at.new ht
  have nD : ∀ {T : List (List PySem.Str)}, T.Nodup → (∀ r ∈ T, r ∈ pairsL L) → T.length ≤ 9900 := fun {T} hT hs => by
    have h3 := nodup_len hT hs
    have h4 := pairs_len L
    have h5 : L.length ≤ 100 := by omega
    have h6 : L.length * (L.length - 1) ≤ 100 * 99 := Nat.mul_le_mul h5 (by omega)
    omega
  refine ⟨by omega, by omega, for_inv (fun k ρ S' => ∃ (T : List (List PySem.Str)) (v6 v7 v8 : Option SV), ρ = [some (.own p), some (.int m), some (.lst (wS_ L)), some (.lst (mn.map SV.int)), some (.int way), some (.own t), v6, v7, v8] ∧ S' t = some (.lst (T.map rS)) ∧ T.Nodup ∧ (∀ r ∈ T, ∃ j' k' a b, j' < k' ∧ k' < k ∧ L[j']? = some a ∧ L[k']? = some b ∧ r = [a, b]) ∧ DkAt p c S' ∧ ∀ a, a ≠ p → a ≠ c → a ≠ t → S' a = S4 a)
    ⟨[], none, none, none, rfl, supd_same, List.nodup_nil, fun r hr => (by cases hr), d4.at.upd htp htc, fun a _ _ h => supd_ne h⟩ ?_ ?_⟩
  · rintro kk x ρ S5 D hx ⟨T, v6, v7, v8, rfl, hT, tn, tm, dk, fr⟩ nx _ _ _
    obtain ⟨rfl, hkk⟩ := rng_at hx
    have hkL : kk < L.length := by omega
    simp! only []
    refine ⟨by omega, by omega, for_inv (fun j ρ S' => ∃ (T : List (List PySem.Str)) (v7 v8 : Option SV), ρ = [some (.own p), some (.int m), some (.lst (wS_ L)), some (.lst (mn.map SV.int)), some (.int way), some (.own t), some (.int (0 + (kk : Int))), v7, v8] ∧ S' t = some (.lst (T.map rS)) ∧ T.Nodup ∧ (∀ r ∈ T, ∃ j' k' a b, j' < k' ∧ (k' < kk ∨ k' = kk ∧ j' < j) ∧ L[j']? = some a ∧ L[k']? = some b ∧ r = [a, b]) ∧ DkAt p c S' ∧ ∀ a, a ≠ p → a ≠ c → a ≠ t → S' a = S4 a)
      ⟨T, v7, v8, rfl, hT, tn, fun r hr => (by
        obtain ⟨j', k', a, b, q1, q2, q3⟩ := tm r hr
        exact ⟨j', k', a, b, q1, .inl q2, q3⟩), dk, fr⟩ ?_ ?_⟩
    · rintro jj x ρ S6 D' hx' ⟨T, v7, v8, rfl, hT, tn, tm, dk, fr⟩ nx' _ _ _
      obtain ⟨rfl, hjj⟩ := rng_at hx'
      have hjk : jj < kk := by omega
      simp! only [List.length_map]
      refine take_ok pt dk (by
        have := List.length_pos_iff.mpr mn0
        omega) (by omega) fun r5 S7 r50 r51 d5 => ?_
      refine idx_mem r50 (by rw [List.length_map]; exact r51) fun vd hvd => ?_
      obtain ⟨dr, _, rfl⟩ := List.mem_map.mp hvd
      have T7 : S7 t = some (.lst (T.map rS)) := (d5.2 t htp htc).trans hT
      have fr7 : ∀ a, a ≠ p → a ≠ c → a ≠ t → S7 a = S4 a := fun a h1 h2 h3 => (d5.2 a h1 h2).trans (fr a h1 h2 h3)
      have skip_ : ∀ dr : Int, D'.nx [some (.own p), some (.int m), some (.lst (wS_ L)), some (.lst (mn.map SV.int)), some (.int way), some (.own t), some (.int (0 + (kk : Int))), some (.int (0 + (jj : Int))), some (.int dr)] S7 := fun dr => nx' _ _ ⟨T, _, _, rfl, T7, tn, fun r hr => (by
        obtain ⟨j', k', a, b, q1, q2, q3⟩ := tm r hr
        exact ⟨j', k', a, b, q1, by omega, q3⟩), d5.at, fr7⟩
      obtain ⟨a, ha⟩ : ∃ a, L[jj]? = some a := ⟨_, List.getElem?_eq_getElem (by omega)⟩
      obtain ⟨b, hb⟩ : ∃ b, L[kk]? = some b := ⟨_, List.getElem?_eq_getElem hkL⟩
      have ea : atI (wS_ L) (0 + (jj : Int)) = some (.str a) := by
        rw [Int.zero_add]
        exact atI_nat (by rw [List.getElem?_map, ha]; rfl)
      have eb : atI (wS_ L) (0 + (kk : Int)) = some (.str b) := by
        rw [Int.zero_add]
        exact atI_nat (by rw [List.getElem?_map, hb]; rfl)
      have hlen : T.length ≤ 9900 := nD tn fun r hr => by
        obtain ⟨j', k', a, b, q1, q2, q3, q4, rfl⟩ := tm r hr
        exact pairs_mem q1 q3 q4
      have new : [a, b] ∉ T := fun hm => by
        obtain ⟨j', k', a', b', q1, q2, q3, q4, q5⟩ := tm _ hm
        have e1 : a = a' := by simpa using (List.cons.inj q5).1
        have e2 : b = b' := by simpa using (List.cons.inj q5).2
        subst e1 e2
        have j1 := nodup_ix hL1 ha q3
        have j2 := nodup_ix hL1 hb q4
        omega
      have tail : ∀ dr : Int, (if dr = 1 then rcvS .append S7 (.own t) ∧ ∃ v, atI (wS_ L) (0 + (jj : Int)) = some v ∧ ∃ v_1, atI (wS_ L) (0 + (kk : Int)) = some v_1 ∧ 0 + 1 + 1 ≤ sizeLine ∧ appendS (.own t) (.tup [v, v_1]) S7 fun x S1 => D'.nx [some (.own p), some (.int m), some (.lst (wS_ L)), some (.lst (mn.map SV.int)), some (.int way), some (.own t), some (.int (0 + (kk : Int))), some (.int (0 + (jj : Int))), some (.int dr)] S1 else D'.nx [some (.own p), some (.int m), some (.lst (wS_ L)), some (.lst (mn.map SV.int)), some (.int way), some (.own t), some (.int (0 + (kk : Int))), some (.int (0 + (jj : Int))), some (.int dr)] S7) := fun dr => by
        split
        · refine ⟨⟨_, items_own T7⟩, _, ea, _, eb, by decide, ?_⟩
          rw [append_own T7]
          refine ⟨by rw [List.length_map]; omega, nx' _ _ ⟨T ++ [[a, b]], _, _, rfl, ?_, ?_, ?_, d5.at.upd htp htc, fun a h1 h2 h3 => ?_⟩⟩
          · rw [supd_same, List.map_append]
            rfl
          · rw [List.nodup_append]
            refine ⟨tn, by simp, fun x hx y hy => ?_⟩
            rw [List.mem_singleton.mp hy]
            intro e
            rw [e] at hx
            exact new hx
          · intro r hr
            rcases List.mem_append.mp hr with z | z
            · obtain ⟨j', k', a, b, q1, q2, q3⟩ := tm r z
              exact ⟨j', k', a, b, q1, by omega, q3⟩
            · exact ⟨jj, kk, a, b, hjk, by omega, ha, hb, List.mem_singleton.mp z⟩
          · rw [supd_ne h3]
            exact fr7 a h1 h2 h3
        · exact skip_ dr
      have e2 : ([SV.int 1, SV.int ((L.length : Int) - 1)] : List SV) = ([1, (L.length : Int) - 1] : List Int).map SV.int := rfl
      simp! only [e2, inK_lst, in_ints, List.length_map]
      split
      · refine ⟨by decide, ?_⟩
        split
        · split
          · exact skip_ _
          · exact tail _
        · exact tail _
      · split
        · split
          · exact skip_ _
          · exact tail _
        · exact tail _
    · rintro ρ S6 ⟨T, v7, v8, rfl, hT, tn, tm, dk, fr⟩
      rw [rng_ln] at tm
      exact nx _ _ ⟨T, _, _, _, rfl, hT, tn, fun r hr => (by
        obtain ⟨j', k', a, b, q1, q2, q3⟩ := tm r hr
        exact ⟨j', k', a, b, q1, by omega, q3⟩), dk, fr⟩
  · rintro ρ S5 ⟨T, v6, v7, v8, rfl, hT, tn, tm, dk, fr⟩
    have tp : ∀ r ∈ T, r ∈ pairsL L := fun r hr => by
      obtain ⟨j', k', a, b, q1, q2, q3, q4, rfl⟩ := tm r hr
      exact pairs_mem q1 q3 q4
    have hlen := nD tn tp
    refine ⟨t, wo S5 t, .lst (T.map rS), rfl, wo_sub, wo_frz hT, ?_⟩
    simp! only [sorted_rows (S := wo S5 t) (x := .lst (T.map rS)) (rs := T) rfl (fun r hr => (by
      obtain ⟨a, b, rfl, _⟩ := pairs_of_mem (tp r hr)
      simp)), List.length_map]
    refine ⟨?_, by decide, ?_⟩
    · rw [(List.mergeSort_perm T rle).length_eq]
      omega
    · refine fin_same (q L (T.mergeSort rle) _ ⟨hL1, hsrt, hL2, by omega, fun r hr => tp r ((List.mergeSort_perm T rle).mem_iff.mp hr), (List.mergeSort_perm T rle).nodup_iff.mpr tn, List.pairwise_mergeSort rle_trans rle_total T⟩ ?_)
      exact (d1.trans (d2.trans (d3.trans d4))).trans (Dk.wo ht dk htp htc fr)
end
end Sy

namespace Sy
def d_law_same : Def := ⟨["found", "due"], ["found", "due", "one", "other"],
 (.cons (.ifs (.isi (.var 1 "due") .tuple) (.cons (.ifs (.or (.not (.isi (.var 0 "found") .tuple)) (.cmp .NotEq (.bi .len false (.cons (.var 0 "found") .nil)) (.bi .len false (.cons (.var 1 "due") .nil)))) (.cons (.ret (.cst (.bool false)))
 .nil) .nil)
 (.cons (.ret (.cmp .Eq (.lc false [("one", 2), ("other", 3)] (.cst (.int 1)) (.many [(2, "one"), (3, "other")]) .zip (.cons (.var 0 "found") (.cons (.var 1 "due") .nil)) (.some (.not (.call "_law_same" (.cons (.var 2 "one") (.cons (.var 3 "other") .nil)))))) (.lst false .nil)))
 .nil)) .nil)
 (.cons (.ifs (.isi (.var 1 "due") .str) (.cons (.ret (.and (.isi (.var 0 "found") .str) (.cmp .Eq (.var 0 "found") (.var 1 "due"))))
 .nil) .nil)
 (.cons (.ret (.and (.isi (.var 0 "found") .int) (.and (.not (.isi (.var 0 "found") .bool)) (.cmp .Eq (.var 0 "found") (.var 1 "due")))))
 .nil)))⟩

end Sy

namespace Sy
open PySem PySem.Spec PyProof.Rows L2
local macro_rules | `(tactic| simp! only [$ls,*]) => `(tactic| try simp only [callX_fold, mnA, mxA, strS, wB, wS, wT, wE, wA, wO, wC, tgS, binS, cmpS, biS, r1, r2, mtS, augS, cstS, splitS, opI_int, add_int, add_str, add_tup, add_ll, newL_f, newL_t, mul_int, ord_int, ord_str, int_int, int_bl, mn_int, mx_int, mn_str, mx_str, tuple_tup, tuple_tuf, tuple_lst, tuple_lstT, sl_lst, sl_tup, sl_scr, sl_str, it_lst, it_str, it_tup, it_tuf, it_enU, it_zU, it_rng1, it_rng2, it_enL, it_enT, it_zL, it_zT, List.set_cons_zero, List.set_cons_succ, List.getElem?_cons_zero, List.getElem?_cons_succ, some_ex, some_ex2, bl_ex, int_ex, eqS_int, idx_lst, idx_tup, idx_tuf, idx_str, len_lst, len_tup, len_tuf, len_scr, at_0, at_1, at_2, true_and, and_true, Int.fmod_eq_emod_of_nonneg, Int.fdiv_eq_ediv_of_nonneg, ne_eq, reduceCtorEq, not_false_eq_true, if_true, if_false, Bool.false_eq_true, decide_eq_true_eq, Int.reduceEq, Int.reduceLE, Int.reduceLT, $ls,*])
/-! ### pairs_of, turned_over, _law_same -/
theorem wo_back {S S' : Sto} {f : Addr} (hf : S f = none) (fr : ∀ a, a ≠ f → S' a = S a) : wo S' f = S := by
  funext a
  by_cases h : a = f
  · rw [h, wo_same, hf]
  · rw [wo_ne h, fr a h]
section
variable {Pr : PySem.Str → Option Def} {g : PySem.Str → Option SV}
/-! what _law_same says of one thing twice -/
inductive Fl : Nat → SV → Prop
  | str (n : Nat) {a : PySem.Str} (h : PyData.strOk a = true) : Fl (n + 1) (.str a)
  | int (n : Nat) (i : Int) : Fl (n + 1) (.int i)
  | tup (n : Nat) {l : List SV} (hl : l.length ≤ 20000) (h : ∀ x ∈ l, Fl n x) : Fl (n + 1) (.tup l)
  | tuf (n : Nat) {l : List SV} (hl : l.length ≤ 20000) (h : ∀ x ∈ l, Fl n x) : Fl (n + 1) (.tuf l)
theorem zip_self : ∀ l : List SV, zipL l l = l.map fun x => .tup [x, x]
  | [] => rfl
  | x :: l => by
    show SV.tup [x, x] :: zipL l l = _
    rw [zip_self l]
    rfl
theorem isTy_tup {t : Ty} {S : Sto} {l : List SV} : isTy t S (.tup l) = some (isCl t .tuple) := rfl
theorem isTy_tuf {t : Ty} {S : Sto} {l : List SV} : isTy t S (.tuf l) = some (isCl t .tuple) := rfl
theorem isTy_str {t : Ty} {S : Sto} {a : PySem.Str} : isTy t S (.str a) = some (isCl t .str) := rfl
theorem isTy_int {t : Ty} {S : Sto} {i : Int} : isTy t S (.int i) = some (isCl t .int) := rfl
theorem eqS_nil {S : Sto} {q : Bool → Prop} : eqS S (.lst []) (.lst []) q = q true := by
  rw [eqS_of (d := .list []) (e := .list []) rfl rfl (by simp [SeqAt.shaped, PyData.canLay0, PyData.depth, PyData.canLayAll0, PyData.depthAll]) (by simp [SeqAt.shaped, PyData.canLay0, PyData.depth, PyData.canLayAll0, PyData.depthAll])]
  rfl
theorem same_ok (pm : Pr "_law_same" = some d_law_same) : ∀ {n : Nat} {x : SV}, Fl n x → ∀ {k : Nat} {S : Sto} {Q : SK}, n ≤ k → Q (.bl true) S → callS Pr g k "_law_same" [x, x] S Q := by
  intro n
  induction n with
  | zero => intro x h; cases h
  | succ n ih =>
    intro x h k S Q hk q
    obtain ⟨k, rfl⟩ : ∃ k', k = k' + 1 := ⟨k - 1, by omega⟩
    refine ⟨d_law_same, pm, rfl, ?_⟩
    show wB _ _ d_law_same.body _ [some x, some x, none, none] S
    unfold d_law_same
    cases h with
    | str _ h =>
      simp! only [isTy_str, isCl, eqS_str h h, decide_true]
      exact fin_same q
    | int _ i =>
      simp! only [isTy_int, isCl, decide_true, Bool.not_false]
      exact fin_same q
    | tup _ hl h =>
      simp! only [isTy_tup, isCl, decide_true, zip_self, Bool.not_true]
      refine lc_on (fun x => SV.tup [x, x]) (fun _ => none) (by have : (20000 : Nat) ≤ sizeLine := by decide
                                                                omega) (fun x hx kk k' _ h2 => ?_) ?_
      · refine ⟨_, _, .inl rfl, rfl, ?_⟩
        simp! only [wipeR, List.map_cons, List.map_nil]
        refine ih (k := k) (h x hx) (by omega) ?_
        simp! only [Bool.not_true]
        exact h2 rfl
      · rw [List.filterMap_eq_nil_iff.mpr fun _ _ => rfl]
        refine ⟨Nat.zero_le _, Nat.zero_le _, ?_⟩
        rw [eqS_nil]
        exact fin_same q
    | tuf _ hl h =>
      simp! only [isTy_tuf, isCl, decide_true, zip_self, Bool.not_true]
      refine lc_on (fun x => SV.tup [x, x]) (fun _ => none) (by have : (20000 : Nat) ≤ sizeLine := by decide
                                                                omega) (fun x hx kk k' _ h2 => ?_) ?_
      · refine ⟨_, _, .inl rfl, rfl, ?_⟩
        simp! only [wipeR, List.map_cons, List.map_nil]
        refine ih (k := k) (h x hx) (by omega) ?_
        simp! only [Bool.not_true]
        exact h2 rfl
      · rw [List.filterMap_eq_nil_iff.mpr fun _ _ => rfl]
        refine ⟨Nat.zero_le _, Nat.zero_le _, ?_⟩
        rw [eqS_nil]
        exact fin_same q
end
end Sy

namespace Sy
open PySem PySem.Spec PyProof.Rows L2
local macro_rules | `(tactic| simp! only [$ls,*]) => `(tactic| try simp only [callX_fold, mnA, mxA, strS, wB, wS, wT, wE, wA, wO, wC, tgS, binS, cmpS, biS, r1, r2, mtS, augS, cstS, splitS, opI_int, add_int, add_str, add_tup, add_ll, newL_f, newL_t, mul_int, ord_int, ord_str, int_int, int_bl, mn_int, mx_int, mn_str, mx_str, tuple_tup, tuple_tuf, tuple_lst, tuple_lstT, sl_lst, sl_tup, sl_scr, sl_str, it_lst, it_str, it_tup, it_tuf, it_enU, it_zU, it_rng1, it_rng2, it_enL, it_enT, it_zL, it_zT, List.set_cons_zero, List.set_cons_succ, List.getElem?_cons_zero, List.getElem?_cons_succ, some_ex, some_ex2, bl_ex, int_ex, eqS_int, idx_lst, idx_tup, idx_tuf, idx_str, len_lst, len_tup, len_tuf, len_scr, at_0, at_1, at_2, true_and, and_true, Int.fmod_eq_emod_of_nonneg, Int.fdiv_eq_ediv_of_nonneg, ne_eq, reduceCtorEq, not_false_eq_true, if_true, if_false, Bool.false_eq_true, decide_eq_true_eq, Int.reduceEq, Int.reduceLE, Int.reduceLT, $ls,*])
/-! ### rows of a kind -/
theorem allB_map {α : Type} (f : α → Bool) : ∀ l : List α, allB (l.map fun x => SV.bl (f x)) = some (l.map f)
  | [] => rfl
  | x :: l => by
    show (allB (l.map fun x => SV.bl (f x))).map (fun r => f x :: r) = _
    rw [allB_map f l]
    rfl
theorem all_bls {α : Type} {S : Sto} {k : SK} (f : α → Bool) (l : List α) : allS (.lst (l.map fun x => SV.bl (f x))) S k = k (.bl (l.all f)) S := by
  unfold allS
  refine propext ⟨?_, fun h => ⟨_, _, rfl, allB_map f l, ?_⟩⟩
  · rintro ⟨l', bs, e1, e2, h⟩
    cases e1
    rw [allB_map] at e2
    cases e2
    rw [List.all_map] at h
    exact h
  · rw [List.all_map]
    exact h
def kx (r : List PySem.Str) : List Key := r.map Sum.inr
theorem kx_inj {r s : List PySem.Str} (h : kx r = kx s) : r = s := by
  unfold kx at h
  exact (List.map_inj_right (fun a b e => Sum.inr.inj e)).mp h
theorem tKey_row (r : List PySem.Str) : tKey (rS r) = some (kx r) := by
  show keysOf (wS_ r) = _
  induction r with
  | nil => rfl
  | cons a r ih =>
    show (keyOf (.str a)).bind (fun k => (keysOf (wS_ r)).map fun q => k :: q) = _
    rw [ih]
    rfl
theorem getX_some {κ : Type} [DecidableEq κ] : ∀ {ks : List κ} {l : List SV} {k : κ}, ks.length = l.length → ((getX ks l k).isSome = true ↔ k ∈ ks)
  | [], [], k, _ => by simp [getX]
  | a :: ks, [], k, h => by cases h
  | [], _ :: _, k, h => by cases h
  | a :: ks, x :: l, k, h => by
    unfold getX
    by_cases e : a = k
    · simp [e]
    · have e' : ¬ k = a := fun z => e z.symm
      rw [if_neg e, getX_some (by simpa using h)]
      simp [e']
section
variable {Pr : PySem.Str → Option Def} {g : PySem.Str → Option SV}
theorem set_dT {S : Sto} {p : Addr} {ks : List (List Key)} {l : List SV} {r : List PySem.Str} {v : SV} {q : Sto → Prop} (h : S p = some (.dT ks l)) : setS (.own p) (rS r) v S q = (ks.length < sizeLine ∧ q (supd S p (.dT (putX ks l (kx r) v).1 (putX ks l (kx r) v).2))) := by
  unfold setS
  simp only [dicW, h, putD, tKey_row, Option.map_some, Option.some.injEq, exists_and_left, exists_eq_left', lenD]
end
end Sy

namespace Sy
def d_law_shuffled : Def := ⟨["deck", "things"], ["deck", "things", "left", "k"],
 (.cons (.asg (.one 2 "left") (.bi .list true (.cons (.var 1 "things") .nil)))
 (.cons (.ret (.lc false [("k", 3)] (.mt .popAt false (.var 2 "left") (.cons (.call "_law_take" (.cons (.var 0 "deck") (.cons (.bi .len false (.cons (.var 2 "left") .nil)) .nil))) .nil)) (.one 3 "k") .rng1 (.cons (.bi .len false (.cons (.var 2 "left") .nil)) .nil) .none))
 (.cons (.frz 2)
 .nil)))⟩

end Sy

namespace Sy
open PySem PySem.Spec PyProof.Rows L2
local macro_rules | `(tactic| simp! only [$ls,*]) => `(tactic| try simp only [callX_fold, mnA, mxA, strS, wB, wS, wT, wE, wA, wO, wC, tgS, binS, cmpS, biS, r1, r2, mtS, augS, cstS, splitS, opI_int, add_int, add_str, add_tup, add_ll, newL_f, newL_t, mul_int, ord_int, ord_str, int_int, int_bl, mn_int, mx_int, mn_str, mx_str, tuple_tup, tuple_tuf, tuple_lst, tuple_lstT, sl_lst, sl_tup, sl_scr, sl_str, it_lst, it_str, it_tup, it_tuf, it_enU, it_zU, it_rng1, it_rng2, it_enL, it_enT, it_zL, it_zT, List.set_cons_zero, List.set_cons_succ, List.getElem?_cons_zero, List.getElem?_cons_succ, some_ex, some_ex2, bl_ex, int_ex, eqS_int, idx_lst, idx_tup, idx_tuf, idx_str, len_lst, len_tup, len_tuf, len_scr, at_0, at_1, at_2, true_and, and_true, Int.fmod_eq_emod_of_nonneg, Int.fdiv_eq_ediv_of_nonneg, ne_eq, reduceCtorEq, not_false_eq_true, if_true, if_false, Bool.false_eq_true, decide_eq_true_eq, Int.reduceEq, Int.reduceLE, Int.reduceLT, $ls,*])
section
variable {Pr : PySem.Str → Option Def} {g : PySem.Str → Option SV}
theorem erase_perm {α : Type} : ∀ (l : List α) (i : Nat) {z : α}, l[i]? = some z → (z :: l.eraseIdx i).Perm l
  | [], i, z, h => by simp at h
  | x :: l, 0, z, h => by
    have e : x = z := by simpa using h
    rw [e]
    exact List.Perm.refl _
  | x :: l, i + 1, z, h => by
    have ih := erase_perm l i (z := z) (by simpa using h)
    show (z :: x :: l.eraseIdx i).Perm (x :: l)
    exact (List.Perm.swap x z _).trans (ih.cons x)
theorem pop_own {S : Sto} {p : Addr} {l : List SV} {i : Int} {k : SK} (h : S p = some (.lst l)) (h0 : 0 ≤ i) (h1 : i < (l.length : Int)) (hz : l.length ≤ 1000000) (q : ∀ y, l[i.toNat]? = some y → k y (supd S p (.lst (l.eraseIdx i.toNat)))) : popS (.own p) (.int i) S k := by
  have hi : i.toNat < l.length := by omega
  exact ⟨l, i.toNat, l[i.toNat], h, by omega, by omega, ixN_of h0 h1, List.getElem?_eq_getElem hi, q _ (List.getElem?_eq_getElem hi)⟩
theorem listS_src {S : Sto} {x : SV} {l : List SV} {own : Bool} {k : SK} (h : srcOf S x = some l) (q : newL own l S k) : listS own x S k := by
  cases x with
  | str w => cases h
  | _ => exact ⟨l, h, q⟩
theorem shuffled_ok (pt : Pr "_law_take" = some d_law_take) (ps : Pr "_law_shuffled" = some d_law_shuffled) {k : Nat} {p c : Addr} {S : Sto} {x : SV} {l : List SV} {Q : SK} (h : DkAt p c S) (hx : seqOf S x = some l) (hl : l.length ≤ 1000)
    (q : ∀ l' S', l'.Perm l → Dk p c S S' → Q (.lst l') S') : callS Pr g (k + 2) "_law_shuffled" [.own p, x] S Q := by
  have big : (20000 : Nat) ≤ sizeLine := by decide
  refine ⟨d_law_shuffled, ps, rfl, ?_⟩
  show wB _ _ d_law_shuffled.body _ [some (.own p), some x, none, none] S
  unfold d_law_shuffled
  simp! only []
  refine listS_src (src_seq hx) ?_
  rw [newL_t]
  refine ⟨by omega, fun f hf => ?_⟩
  obtain ⟨hfp, hfc⟩ := h.new hf
  have hF : supd S f (.lst l) f = some (.lst l) := supd_same
  simp! only [len_own hF]
  refine ⟨by omega, by omega, ?_⟩
  refine lc_inv (fun i acc S' => ∃ rest, S' f = some (.lst rest) ∧ (acc ++ rest).Perm l ∧ rest.length + i = l.length ∧ DkAt p c S' ∧ ∀ a, a ≠ p → a ≠ c → a ≠ f → S' a = S a) ⟨l, supd_same, List.Perm.refl _, rfl, h.upd hfp hfc, fun a _ _ h3 => supd_ne h3⟩ (by rw [rng_ln]; omega) ?_ ?_
  · rintro i y acc S1 kk kf hy ⟨rest, h1, h2, h3, h4, h5⟩ nx _
    obtain ⟨_, hi⟩ := rng_at hy
    simp! only [wipeR, List.map_cons, List.map_nil]
    refine ⟨⟨_, items_own h1⟩, ?_⟩
    rw [len_own h1]
    refine take_ok pt h4 (by omega) (by omega) fun r S2 r0 r1 d2 => ?_
    have h1' : S2 f = some (.lst rest) := (d2.2 f hfp hfc).trans h1
    refine pop_own h1' r0 r1 (by omega) fun z hz => nx _ _ ⟨rest.eraseIdx r.toNat, supd_same, ?_, ?_, d2.at.upd hfp hfc, fun a q1 q2 q3 => ?_⟩
    · have hr : r.toNat < rest.length := by omega
      have pm := erase_perm rest r.toNat hz
      rw [List.append_assoc]
      exact (List.Perm.append_left acc pm).trans h2
    · rw [List.length_eraseIdx_of_lt (by omega)]
      omega
    · rw [supd_ne q3, d2.2 a q1 q2]
      exact h5 a q1 q2 q3
  · rintro acc S1 ⟨rest, h1, h2, h3, h4, h5⟩
    rw [rng_ln] at h3
    have hr : rest = [] := List.eq_nil_of_length_eq_zero (by omega)
    subst hr
    rw [List.append_nil] at h2
    exact ⟨by rw [h2.length_eq]; omega, wo S1 f, _, wo_sub, .same _, q acc _ h2 (Dk.wo hf h4 hfp hfc h5)⟩
end
end Sy

namespace Sy
open PySem PySem.Spec PyProof.Rows L2
local macro_rules | `(tactic| simp! only [$ls,*]) => `(tactic| try simp only [callX_fold, mnA, mxA, strS, wB, wS, wT, wE, wA, wO, wC, tgS, binS, cmpS, biS, r1, r2, mtS, augS, cstS, splitS, opI_int, add_int, add_str, add_tup, add_ll, newL_f, newL_t, mul_int, ord_int, ord_str, int_int, int_bl, mn_int, mx_int, mn_str, mx_str, tuple_tup, tuple_tuf, tuple_lst, tuple_lstT, sl_lst, sl_tup, sl_scr, sl_str, it_lst, it_str, it_tup, it_tuf, it_enU, it_zU, it_rng1, it_rng2, it_enL, it_enT, it_zL, it_zT, List.set_cons_zero, List.set_cons_succ, List.getElem?_cons_zero, List.getElem?_cons_succ, some_ex, some_ex2, bl_ex, int_ex, eqS_int, idx_lst, idx_tup, idx_tuf, idx_str, len_lst, len_tup, len_tuf, len_scr, at_0, at_1, at_2, true_and, and_true, Int.fmod_eq_emod_of_nonneg, Int.fdiv_eq_ediv_of_nonneg, ne_eq, reduceCtorEq, not_false_eq_true, if_true, if_false, Bool.false_eq_true, decide_eq_true_eq, Int.reduceEq, Int.reduceLE, Int.reduceLT, $ls,*])
def mnW (a b : PySem.Str) : PySem.Str := if b.cps.toList < a.cps.toList then b else a
def mxW (a b : PySem.Str) : PySem.Str := if a.cps.toList < b.cps.toList then b else a
section
variable {Pr : PySem.Str → Option Def} {g : PySem.Str → Option SV}
end
end Sy

namespace Sy
open PySem PySem.Spec PyProof.Rows L2
def rowOf (L : List PySem.Str) (row : Nat) : List PySem.Str := (List.range L.length).filterMap fun i => if row.testBit i = true then L[i]? else none
abbrev Up (L : List PySem.Str) : Prop := L.Pairwise fun a b => wk a < wk b
theorem Up.at {L : List PySem.Str} (h : Up L) {i j : Nat} {a b : PySem.Str} (ha : L[i]? = some a) (hb : L[j]? = some b) (hij : i < j) : wk a < wk b := by
  obtain ⟨h1, e1⟩ := List.getElem?_eq_some_iff.mp ha
  obtain ⟨h2, e2⟩ := List.getElem?_eq_some_iff.mp hb
  have q := List.pairwise_iff_getElem.mp h i j h1 h2 hij
  rw [e1, e2] at q
  exact q
theorem pairs_at' : ∀ {L : List PySem.Str} {r : List PySem.Str}, r ∈ pairsL L → ∃ (i j : Nat) (a b : PySem.Str), i < j ∧ L[i]? = some a ∧ L[j]? = some b ∧ r = [a, b]
  | [], r, h => by cases h
  | x :: L, r, h => by
    rcases List.mem_append.mp h with z | z
    · obtain ⟨b, hb, rfl⟩ := List.mem_map.mp z
      obtain ⟨j, hj⟩ := List.mem_iff_getElem?.mp hb
      exact ⟨0, j + 1, x, b, by omega, rfl, by simpa using hj, rfl⟩
    · obtain ⟨i, j, a, b, h1, h2, h3, h4⟩ := pairs_at' z
      exact ⟨i + 1, j + 1, a, b, by omega, by simpa using h2, by simpa using h3, h4⟩
theorem Up.pairs {R : List PySem.Str} (h : Up R) {p : List PySem.Str} : p ∈ pairsL R ↔ ∃ a b, a ∈ R ∧ b ∈ R ∧ wk a < wk b ∧ p = [a, b] := by
  constructor
  · intro hp
    obtain ⟨i, j, a, b, hij, ha, hb, e⟩ := pairs_at' hp
    exact ⟨a, b, List.mem_of_getElem? ha, List.mem_of_getElem? hb, h.at ha hb hij, e⟩
  · rintro ⟨a, b, ha, hb, hlt, rfl⟩
    obtain ⟨i, hi⟩ := List.mem_iff_getElem?.mp ha
    obtain ⟨j, hj⟩ := List.mem_iff_getElem?.mp hb
    rcases Nat.lt_trichotomy i j with z | z | z
    · exact pairs_mem z hi hj
    · subst z
      rw [hi] at hj
      cases hj
      exact absurd hlt (List.lt_irrefl _)
    · exact absurd (List.lt_asymm hlt (h.at hj hi z)) (fun q => q)
theorem up_of {L : List PySem.Str} (hs : L.Pairwise fun a b => wle a b = true) (hn : L.Nodup) : Up L := by
  refine (hs.and hn).imp fun {a b} h => ?_
  have q : wk a ≤ wk b := of_decide_eq_true h.1
  rcases List.le_iff_lt_or_eq.mp q with z | z
  · exact z
  · exact absurd (wk_inj z) h.2
theorem Up.row {L : List PySem.Str} (h : Up L) (row : Nat) : Up (rowOf L row) := by
  unfold Up rowOf
  refine List.pairwise_filterMap.mpr ?_
  refine List.Pairwise.imp (fun {i j} hij => ?_) (List.pairwise_lt_range (n := L.length))
  intro a ha b hb
  split at ha
  · split at hb
    · exact h.at ha hb hij
    · cases hb
  · cases ha
end Sy

namespace Sy
open PySem PySem.Spec PyProof.Rows L2
theorem mn_lt {a b : PySem.Str} (h : wk a < wk b) : mnW a b = a ∧ mxW a b = b ∧ mnW b a = a ∧ mxW b a = b := by
  have n : ¬ b.cps.toList < a.cps.toList := fun z => List.lt_asymm h z
  have y : a.cps.toList < b.cps.toList := h
  exact ⟨by unfold mnW; rw [if_neg n], by unfold mxW; rw [if_pos y], by unfold mnW; rw [if_pos y], by unfold mxW; rw [if_neg n]⟩
end Sy

namespace Sy
open PySem PySem.Spec PyProof.Rows L2
theorem Up.nodup {A : List PySem.Str} (h : Up A) : A.Nodup := h.imp fun {a b} q e => by
  rw [e] at q
  exact List.lt_irrefl _ q
theorem up_ext {A B : List PySem.Str} (hA : Up A) (hB : Up B) (h : ∀ x, x ∈ A ↔ x ∈ B) : A = B :=
  List.Perm.eq_of_pairwise (le := fun a b => wk a < wk b) (fun a b _ _ h1 h2 => absurd h2 (List.lt_asymm h1)) hA hB ((List.perm_ext_iff_of_nodup hA.nodup hB.nodup).mpr h)
theorem up_sort {R : List PySem.Str} (h : R.Nodup) : Up (R.mergeSort wle) :=
  up_of (List.pairwise_mergeSort wle_trans wle_total _) ((List.mergeSort_perm _ _).nodup_iff.mpr h)
end Sy

namespace Sy
def d_is_name : Def := ⟨["text"], ["text", "sign"],
 (.cons (.ifs (.or (.not (.chain .LtE .LtE (.cst (.int 1)) (.bi .len false (.cons (.var 0 "text") .nil)) (.glob "MOST_SIGNS"))) (.cmp .In (.var 0 "text") (.glob "WORDS"))) (.cons (.ret (.cst (.bool false)))
 .nil) .nil)
 (.cons (.ret (.cmp .Eq (.lc false [("sign", 1)] (.var 1 "sign") (.one 1 "sign") .seq (.cons (.var 0 "text") .nil) (.some (.cmp .NotIn (.var 1 "sign") (.glob "LETTERS")))) (.lst false .nil)))
 .nil))⟩

def d_in_order : Def := ⟨["one", "other"], ["one", "other"],
 (.cons (.ret (.tup (.cons (.bi .mn false (.cons (.var 0 "one") (.cons (.var 1 "other") .nil))) (.cons (.bi .mx false (.cons (.var 0 "one") (.cons (.var 1 "other") .nil))) .nil))))
 .nil)⟩

def d_names_read : Def := ⟨["row"], ["row", "words", "word"],
 (.cons (.asg (.one 1 "words") (.mt .split false (.var 0 "row") (.cons (.cst (.str " ")) .nil)))
 (.cons (.ifs (.cmp .Eq (.var 0 "row") (.cst (.str ""))) (.cons (.asg (.one 1 "words") (.lst false .nil))
 .nil) .nil)
 (.cons (.ifs (.or (.not (.bi .all false (.cons (.lc false [("word", 2)] (.call "is_name" (.cons (.var 2 "word") .nil)) (.one 2 "word") .seq (.cons (.var 1 "words") .nil) .none) .nil))) (.cmp .Lt (.lset (.var 1 "words")) (.bi .len false (.cons (.var 1 "words") .nil)))) (.cons .never
 .nil) .nil)
 (.cons (.ret (.var 1 "words"))
 .nil))))⟩

def d_read_web : Def := ⟨["text"], ["text", "rows", "names", "ties", "place", "words", "tie"],
 (.cons (.asg (.one 1 "rows") (.mt .split false (.var 0 "text") (.cons (.cst (.str "\n")) .nil)))
 (.cons (.asg (.one 2 "names") (.call "names_read" (.cons (.idx (.var 1 "rows") (.cst (.int 0))) .nil)))
 (.cons (.asg (.one 3 "ties") (.dnew true))
 (.cons (.for_ (.one 4 "place") .rng2 (.cons (.cst (.int 1)) (.cons (.bi .len false (.cons (.var 1 "rows") .nil)) .nil)) (.cons (.asg (.one 5 "words") (.mt .split false (.idx (.var 1 "rows") (.var 4 "place")) (.cons (.cst (.str " ")) .nil)))
 (.cons (.ifs (.or (.cmp .NotEq (.bi .len false (.cons (.var 5 "words") .nil)) (.cst (.int 2))) (.or (.cmp .NotIn (.idx (.var 5 "words") (.cst (.int 0))) (.var 2 "names")) (.cmp .NotIn (.idx (.var 5 "words") (.cst (.int 1))) (.var 2 "names")))) (.cons .never
 .nil) .nil)
 (.cons (.asg (.one 6 "tie") (.call "in_order" (.cons (.idx (.var 5 "words") (.cst (.int 0))) (.cons (.idx (.var 5 "words") (.cst (.int 1))) .nil))))
 (.cons (.ifs (.or (.cmp .Eq (.idx (.var 6 "tie") (.cst (.int 0))) (.idx (.var 6 "tie") (.cst (.int 1)))) (.cmp .In (.var 6 "tie") (.var 3 "ties"))) (.cons .never
 .nil) .nil)
 (.cons (.setIx (.var 3 "ties") (.var 6 "tie") (.cst (.bool true)))
 .nil))))))
 (.cons (.frz 3)
 (.cons (.ret (.tup (.cons (.bi .tuple false (.cons (.bi .sorted false (.cons (.var 2 "names") .nil)) .nil)) (.cons (.bi .tuple false (.cons (.bi .sorted false (.cons (.var 3 "ties") .nil)) .nil)) .nil))))
 .nil))))))⟩

def d_law_text : Def := ⟨["deck", "web"], ["deck", "web", "rows", "tie"],
 (.cons (.asg (.one 2 "rows") (.lst true (.cons (.mt .join false (.cst (.str " ")) (.cons (.call "_law_shuffled" (.cons (.var 0 "deck") (.cons (.idx (.var 1 "web") (.cst (.int 0))) .nil))) .nil)) .nil)))
 (.cons (.for_ (.one 3 "tie") .seq (.cons (.call "_law_shuffled" (.cons (.var 0 "deck") (.cons (.idx (.var 1 "web") (.cst (.int 1))) .nil))) .nil) (.cons (.ex (.mt .append false (.var 2 "rows") (.cons (.mt .join false (.cst (.str " ")) (.cons (.call "_law_shuffled" (.cons (.var 0 "deck") (.cons (.var 3 "tie") .nil))) .nil)) .nil)))
 .nil))
 (.cons (.frz 2)
 (.cons (.ret (.mt .join false (.cst (.str "\n")) (.cons (.var 2 "rows") .nil)))
 .nil))))⟩

end Sy

namespace Sy
open PySem PySem.Spec PyProof.Rows L2
open TL (tl)
theorem perm_map_inv {α β : Type} (f : α → β) {a b : List β} (h : a.Perm b) : ∀ l : List α, b = l.map f → ∃ m : List α, m.Perm l ∧ a = m.map f := by
  induction h with
  | nil => exact fun l e => ⟨[], by rw [List.map_eq_nil_iff.mp e.symm], rfl⟩
  | cons x p ih =>
    intro l e
    cases l with
    | nil => cases e
    | cons y l =>
      rw [List.map_cons, List.cons.injEq] at e
      obtain ⟨m, h1, h2⟩ := ih l e.2
      exact ⟨y :: m, h1.cons y, by rw [e.1, h2]; rfl⟩
  | swap x y p =>
    intro l e
    cases l with
    | nil => cases e
    | cons u l =>
      cases l with
      | nil => cases e
      | cons v l =>
        rw [List.map_cons, List.map_cons, List.cons.injEq, List.cons.injEq] at e
        exact ⟨v :: u :: l, List.Perm.swap u v l, by rw [e.1, e.2.1, e.2.2]; rfl⟩
  | trans p q ih1 ih2 =>
    intro l e
    obtain ⟨m, h1, h2⟩ := ih2 l e
    obtain ⟨m2, h3, h4⟩ := ih1 m h2
    exact ⟨m2, h3.trans h1, h4⟩
theorem strL_words : ∀ ws : List PySem.Str, strL (wS_ ws) = some ws
  | [] => rfl
  | a :: ws => by
    show (strL (wS_ ws)).map (fun r => a :: r) = _
    rw [strL_words ws]
    rfl
theorem join_words {S : Sto} {v : SV} {a : PySem.Str} {ws : List PySem.Str} {k : SK} (h : seqOf S v = some (wS_ ws)) (hb : (ws.map fun y => y.length).sum + ws.length * a.length ≤ 16777216) (q : k (.str (Txt.join a ws)) S) : joinS (.str a) v S k := ⟨_, ws, h, strL_words ws, hb, q⟩
theorem sum_le {α : Type} (f : α → Nat) (b : Nat) : ∀ l : List α, (∀ x ∈ l, f x ≤ b) → (l.map f).sum ≤ l.length * b
  | [], _ => by simp
  | x :: l, h => by
    have h1 := h x List.mem_cons_self
    have h2 := sum_le f b l fun y hy => h y (List.mem_cons_of_mem _ hy)
    simp only [List.map_cons, List.sum_cons, List.length_cons, Nat.succ_mul]
    omega
theorem join_len (a : PySem.Str) (ws : List PySem.Str) : (Txt.join a ws).length ≤ (ws.map fun y => y.length).sum + ws.length * a.length := by
  rw [TL.join_eq]
  exact StrLaws.join_length_le a ws
abbrev sp1 : PySem.Str := " "
abbrev nl1 : PySem.Str := "\n"
theorem low_sign {a : PySem.Str} (h : lowS a) {c : Nat} (hc : c < 97) : c ∉ tl a := fun z => by
  have := h c z
  omega
/-- names joined by blanks, split -/
theorem split_sp {ws : List PySem.Str} (hn : ws ≠ []) (h : ∀ a ∈ ws, lowS a) : Txt.split (Txt.join sp1 ws) sp1 = ws :=
  TL.split_join (s := 32) (S := []) (by decide +kernel) (by decide +kernel) hn fun p hp => low_sign (h p hp) (by decide)
theorem split_empty : Txt.split ("" : PySem.Str) sp1 = [("" : PySem.Str)] := by decide +kernel
theorem join_nil (a : PySem.Str) : Txt.join a [] = ("" : PySem.Str) := by rw [TL.join_eq]; rfl
theorem join_tl (a : PySem.Str) (ws : List PySem.Str) : ∀ c ∈ tl (Txt.join a ws), c ∈ tl a ∨ ∃ x ∈ ws, c ∈ tl x := by
  rw [TL.join_eq]
  induction ws with
  | nil => intro c hc; cases hc
  | cons x ws ih =>
    cases ws with
    | nil => exact fun c hc => .inr ⟨x, List.mem_cons_self, hc⟩
    | cons y r =>
      intro c hc
      have e : tl (Str.join a (x :: y :: r)) = tl x ++ tl a ++ tl (Str.join a (y :: r)) := by
        show wk (x ++ a ++ Str.join a (y :: r)) = _
        rw [wk_app, wk_app]
        rfl
      rw [e] at hc
      rcases List.mem_append.mp hc with z | z
      · rcases List.mem_append.mp z with w | w
        · exact .inr ⟨x, List.mem_cons_self, w⟩
        · exact .inl w
      · rcases ih c z with w | ⟨u, hu, w⟩
        · exact .inl w
        · exact .inr ⟨u, List.mem_cons_of_mem _ hu, w⟩
theorem split_nl {rows : List (List PySem.Str)} (hn : rows ≠ []) (h : ∀ r ∈ rows, ∀ a ∈ r, lowS a) : Txt.split (Txt.join nl1 (rows.map (Txt.join sp1))) nl1 = rows.map (Txt.join sp1) := by
  refine TL.split_join (s := 10) (S := []) (by decide +kernel) (by decide +kernel) (fun e => hn (List.map_eq_nil_iff.mp e)) fun p hp hc => ?_
  obtain ⟨r, hr, rfl⟩ := List.mem_map.mp hp
  rcases join_tl sp1 r 10 hc with z | ⟨x, hx, z⟩
  · revert z
    decide +kernel
  · exact low_sign (h r hr x hx) (by decide) z
theorem join_ne {ws : List PySem.Str} (hn : ws ≠ []) (h : ∀ a ∈ ws, 1 ≤ a.length) : Txt.join sp1 ws ≠ ("" : PySem.Str) := by
  cases ws with
  | nil => exact absurd rfl hn
  | cons x ws =>
    have h1 := h x List.mem_cons_self
    intro e
    have e2 : (wk (Txt.join sp1 (x :: ws))).length = 0 := by rw [e]; decide +kernel
    rw [TL.join_eq] at e2
    cases ws with
    | nil =>
      have : (wk x).length = 0 := e2
      rw [wk_len] at this
      omega
    | cons y r =>
      have e3 : wk (Str.join sp1 (x :: y :: r)) = wk x ++ wk sp1 ++ wk (Str.join sp1 (y :: r)) := by
        show wk (x ++ sp1 ++ Str.join sp1 (y :: r)) = _
        rw [wk_app, wk_app]
      rw [e3, List.length_append, List.length_append, wk_len] at e2
      omega
theorem join_ok {a : PySem.Str} {ws : List PySem.Str} (ha : PyData.strOk a = true) (h : ∀ x ∈ ws, PyData.strOk x = true) : PyData.strOk (Txt.join a ws) = true := by
  have at_ : ∀ {y : PySem.Str}, PyData.strOk y = true ↔ ∀ c ∈ tl y, c < 1114112 := fun {y} => by
    unfold PyData.strOk
    rw [Array.all_eq_true_iff_forall_mem]
    constructor
    · intro q c hc
      exact of_decide_eq_true (q c (Array.mem_toList_iff.mp hc))
    · intro q c hc
      exact decide_eq_true (q c (Array.mem_toList_iff.mpr hc))
  rw [at_]
  intro c hc
  rcases join_tl a ws c hc with z | ⟨x, hx, z⟩
  · exact at_.mp ha c z
  · exact at_.mp (h x hx) c z
/-- a pair of names in order -/
def ordR (r : List PySem.Str) : List PySem.Str := match r with
  | [a, b] => [mnW a b, mxW a b]
  | _ => r
/-- a text of the web: names and ties in any order, the two of a tie in any order -/
structure TextOf (L : List PySem.Str) (T : List (List PySem.Str)) (text : PySem.Str) : Prop where
  ex : ∃ (L' : List PySem.Str) (rows : List (List PySem.Str)), L'.Perm L ∧ (∀ r ∈ rows, ∃ a b, r = [a, b] ∧ a ∈ L ∧ b ∈ L) ∧ (rows.map ordR).Perm T ∧ text = Txt.join nl1 ((L' :: rows).map (Txt.join sp1))
theorem up_perm {L' L : List PySem.Str} (h : L'.Perm L) (hU : Up L) : L'.mergeSort wle = L :=
  up_ext (up_sort (h.nodup_iff.mpr hU.nodup)) hU fun x => by rw [List.mem_mergeSort]; exact h.mem_iff
theorem rows_perm {T' T : List (List PySem.Str)} (h : T'.Perm T) (hs : T.Pairwise fun a b => rle a b = true) : T'.mergeSort rle = T :=
  List.Perm.eq_of_pairwise (le := fun a b => rle a b = true) (fun a b _ _ h1 h2 => rle_anti h1 h2) (List.pairwise_mergeSort rle_trans rle_total _) hs ((List.mergeSort_perm _ _).trans h)
theorem mn_mem (a b : PySem.Str) : (mnW a b = a ∧ mxW a b = b) ∨ (mnW a b = b ∧ mxW a b = a) := by
  unfold mnW mxW
  by_cases h : b.cps.toList < a.cps.toList
  · have : ¬ a.cps.toList < b.cps.toList := List.lt_asymm h
    simp [h, this]
  · by_cases h2 : a.cps.toList < b.cps.toList
    · simp [h, h2]
    · have e : a = b := wk_inj (List.le_antisymm (List.not_lt.mp h) (List.not_lt.mp h2))
      simp [e]
theorem keys_row (r : List PySem.Str) : (kx r).map keySV = wS_ r := by
  unfold kx
  rw [List.map_map]
  rfl
end Sy

namespace Sy
open PySem PySem.Spec PyProof.Rows L2
local macro_rules | `(tactic| simp! only [$ls,*]) => `(tactic| try simp only [callX_fold, mnA, mxA, strS, wB, wS, wT, wE, wA, wO, wC, tgS, binS, cmpS, biS, r1, r2, mtS, augS, cstS, splitS, opI_int, add_int, add_str, add_tup, add_ll, newL_f, newL_t, mul_int, ord_int, ord_str, int_int, int_bl, mn_int, mx_int, mn_str, mx_str, tuple_tup, tuple_tuf, tuple_lst, tuple_lstT, sl_lst, sl_tup, sl_scr, sl_str, it_lst, it_str, it_tup, it_tuf, it_enU, it_zU, it_rng1, it_rng2, it_enL, it_enT, it_zL, it_zT, List.set_cons_zero, List.set_cons_succ, List.getElem?_cons_zero, List.getElem?_cons_succ, some_ex, some_ex2, bl_ex, int_ex, eqS_int, idx_lst, idx_tup, idx_tuf, idx_str, len_lst, len_tup, len_tuf, len_scr, at_0, at_1, at_2, true_and, and_true, Int.fmod_eq_emod_of_nonneg, Int.fdiv_eq_ediv_of_nonneg, ne_eq, reduceCtorEq, not_false_eq_true, if_true, if_false, Bool.false_eq_true, decide_eq_true_eq, Int.reduceEq, Int.reduceLE, Int.reduceLT, $ls,*])
theorem len_str {S : Sto} {a : PySem.Str} {k : SK} : lenS (.str a) S k = (a.length ≤ sizeLine ∧ k (.int a.length) S) := rfl
section
variable {Pr : PySem.Str → Option Def} {g : PySem.Str → Option SV}
theorem is_name_ok (pn : Pr "is_name" = some d_is_name) (gL : g "LETTERS" = some (.str abc)) (gW : g "WORDS" = some (.tuf (wS_ ownW))) (gM : g "MOST_SIGNS" = some (.int 8)) {k : Nat} {S : Sto} {a : PySem.Str} {Q : SK} (h : WOk a) (q : Q (.bl true) S) : callS Pr g (k + 1) "is_name" [.str a] S Q := by
  have big : (20000 : Nat) ≤ sizeLine := by decide
  have ok := low_ok h.low
  have okW : ∀ x ∈ ownW, PyData.strOk x = true := fun x hx => low_ok (own_low x hx).1
  have h1 := h.l1
  have h8 := h.l8
  refine ⟨d_is_name, pn, rfl, ?_⟩
  show wB _ _ d_is_name.body _ [some (.str a), none] S
  unfold d_is_name
  simp! only [gL, gW, gM, inK_tuf, in_words ok okW, h.no, len_str]
  refine ⟨by omega, ?_⟩
  rw [if_pos (show (1 : Int) ≤ ((a.length : Nat) : Int) by omega), decide_eq_true (show ((a.length : Nat) : Int) ≤ 8 by omega)]
  simp! only [Bool.not_true, decide_false, Bool.xor_false]
  refine lc_on (fun c : Nat => SV.str ⟨#[c]⟩) (fun _ => (none : Option SV)) (by show (wk a).length ≤ sizeLine; rw [wk_len]; omega) (fun c hc kk kf g1 g2 => ?_) ?_
  · have hin : c ∈ abc.cps.toList := by
      show c ∈ wk abc
      rw [wk_abc]
      have := h.low c hc
      exact List.mem_map.mpr ⟨c - 97, List.mem_range.mpr (by omega), by omega⟩
    simp! only [wipeR, List.map_cons, List.map_nil]
    refine ⟨c, rfl, ?_⟩
    simp! only [hin, decide_true, Bool.xor_true, Bool.not_true]
    exact g2 rfl
  · have e : (a.cps.toList.filterMap fun _ => (none : Option SV)) = [] := by simp
    rw [e]
    refine ⟨by show 0 ≤ sizeLine; omega, by show 0 ≤ sizeLine; omega, ?_⟩
    rw [eqS_nil]
    exact fin_same q
theorem in_order_ok (po : Pr "in_order" = some d_in_order) {k : Nat} {S : Sto} {a b : PySem.Str} {Q : SK} (q : Q (rS [mnW a b, mxW a b]) S) : callS Pr g (k + 1) "in_order" [.str a, .str b] S Q := by
  have big : (20000 : Nat) ≤ sizeLine := by decide
  refine ⟨d_in_order, po, rfl, ?_⟩
  show wB _ _ d_in_order.body _ [some (.str a), some (.str b)] S
  unfold d_in_order
  simp! only []
  refine ⟨by show 2 ≤ sizeLine; omega, fin_same ?_⟩
  exact q
theorem names_read_ok (pi : Pr "is_name" = some d_is_name) (pn : Pr "names_read" = some d_names_read) (gL : g "LETTERS" = some (.str abc)) (gW : g "WORDS" = some (.tuf (wS_ ownW))) (gM : g "MOST_SIGNS" = some (.int 8)) {k : Nat} {S : Sto} {ws : List PySem.Str} {Q : SK} (h : ∀ a ∈ ws, WOk a) (hn : ws.Nodup) (hl : ws.length ≤ 1000) (q : Q (.lst (wS_ ws)) S) : callS Pr g (k + 2) "names_read" [.str (Txt.join sp1 ws)] S Q := by
  have big : (20000 : Nat) ≤ sizeLine := by decide
  have hjl : (Txt.join sp1 ws).length ≤ 9000 := by
    have h1 := join_len sp1 ws
    have h2 := sum_le (fun y : PySem.Str => y.length) 8 ws fun x hx => (h x hx).l8
    have h3 : sp1.length = 1 := by decide +kernel
    rw [h3] at h1
    omega
  refine ⟨d_names_read, pn, rfl, ?_⟩
  show wB _ _ d_names_read.body _ [some (.str (Txt.join sp1 ws)), none, none] S
  unfold d_names_read
  simp! only []
  refine ⟨⟨_, rfl⟩, by decide +kernel, by omega, ?_⟩
  by_cases hw : ws = []
  · subst hw
    rw [join_nil, split_empty]
    refine ⟨by show 1 ≤ sizeLine; omega, ?_⟩
    rw [eqS_str (by decide +kernel) (by decide +kernel), decide_eq_true rfl, if_pos rfl]
    simp! only [wipeR, List.map_cons, List.map_nil, lcRun]
    refine ⟨by show 0 ≤ sizeLine; omega, by show 0 ≤ sizeLine; omega, [], [], rfl, rfl, _, rfl, ?_⟩
    rw [if_neg (by decide)]
    refine ⟨[], [], .inl rfl, rfl, by show 0 ≤ 4000; omega, ?_⟩
    exact fin_same q
  · have hne := join_ne hw fun a ha => (h a ha).l1
    rw [split_sp hw fun a ha => (h a ha).low]
    have okj : PyData.strOk (Txt.join sp1 ws) = true := join_ok (by decide +kernel) fun a ha => low_ok (h a ha).low
    rw [eqS_str okj (by decide +kernel), decide_eq_false hne, if_neg (by decide)]
    refine ⟨by rw [List.length_map]; omega, ?_⟩
    refine lc_on SV.str (fun _ => some (.bl true)) (by omega) (fun a ha kk kf g1 g2 => ?_) ?_
    · simp! only [wipeR, List.map_cons, List.map_nil]
      refine is_name_ok (k := k) pi gL gW gM (h a ha) ?_
      exact g1 _ rfl
    · rw [List.filterMap_eq_map']
      simp! only [List.length_map, all_bls (fun _ => true)]
      have ea : (ws.all fun _ => true) = true := by simp
      rw [ea]
      simp! only [Bool.not_true]
      refine ⟨by omega, _, ws, .inl rfl, strL_words ws, by omega, ?_⟩
      rw [metS_nodup ws [] (fun x _ hx => by cases hx) hn]
      rw [if_neg (by rw [List.nil_append]; omega)]
      exact fin_same q
theorem idx_r0 {S : Sto} {a b : PySem.Str} {k : SK} : idxS (rS [a, b]) (.int 0) S k = k (.str a) S := by
  show idxS (.tup [.str a, .str b]) (.int 0) S k = _
  simp! only []
theorem idx_r1 {S : Sto} {a b : PySem.Str} {k : SK} : idxS (rS [a, b]) (.int 1) S k = k (.str b) S := by
  show idxS (.tup [.str a, .str b]) (.int 1) S k = _
  simp! only []
theorem in_dTo {S : Sto} {p : Addr} {ks : List (List Key)} {l : List SV} {r : List PySem.Str} {neg b : Bool} {k : SK} (h : S p = some (.dT ks l)) (hl : ks.length = l.length) (hb : b = true ↔ kx r ∈ ks) : inK neg (rS r) (.own p) S k = k (.bl (xor neg b)) S := by
  unfold inK
  simp only [dicS, h, getD, tKey_row, Option.map_some, Option.some.injEq, exists_eq_left']
  have e : (getX ks l (kx r)).isSome = b := by
    have := getX_some (k := kx r) hl
    cases h : (getX ks l (kx r)).isSome <;> cases b <;> simp_all
  rw [e]
/-- what a pair of unlike names is -/
theorem tied_pair {L : List PySem.Str} {T : List (List PySem.Str)} (hU : Up L) (sub : ∀ r ∈ T, r ∈ pairsL L) {a b : PySem.Str} (h : [mnW a b, mxW a b] ∈ T) : mnW a b ≠ mxW a b := fun e => by
  obtain ⟨x, y, _, _, hlt, e2⟩ := hU.pairs.mp (sub _ h)
  have x1 : mnW a b = x := (List.cons.inj e2).1
  have y1 : mxW a b = y := (List.cons.inj (List.cons.inj e2).2).1
  rw [← x1, ← y1, e] at hlt
  exact List.lt_irrefl _ hlt
theorem read_web_ok (pi : Pr "is_name" = some d_is_name) (pn : Pr "names_read" = some d_names_read) (po : Pr "in_order" = some d_in_order) (pr : Pr "read_web" = some d_read_web) (gL : g "LETTERS" = some (.str abc)) (gW : g "WORDS" = some (.tuf (wS_ ownW))) (gM : g "MOST_SIGNS" = some (.int 8)) {k n : Nat} {S : Sto} {L : List PySem.Str} {T : List (List PySem.Str)} {text : PySem.Str} {Q : SK} (W : WebOk L T n) (hn : n ≤ 100) (X : TextOf L T text) (q : Q (webS L T) S) : callS Pr g (k + 3) "read_web" [.str text] S Q := by
  have big : (20000 : Nat) ≤ sizeLine := by decide
  obtain ⟨L', rows, hL', hrows, hT, rfl⟩ := X.ex
  have hU := up_of W.srt W.nd
  have ok : ∀ a ∈ L, PyData.strOk a = true := fun a ha => low_ok (W.ok a ha).low
  have ok' : ∀ a ∈ L', PyData.strOk a = true := fun a ha => ok a (hL'.mem_iff.mp ha)
  have hlen := W.len
  have hl' := hL'.length_eq
  have hpl : (pairsL L).length ≤ 9900 := by
    have h4 := pairs_len L
    have h6 : L.length * (L.length - 1) ≤ 100 * 99 := Nat.mul_le_mul (by omega) (by omega)
    omega
  have hTl : T.length ≤ 9900 := Nat.le_trans (nodup_len W.tnd W.sub) hpl
  have hrl : rows.length ≤ 9900 := by
    have := hT.length_eq
    rw [List.length_map] at this
    omega
  have ndr : (rows.map ordR).Nodup := hT.nodup_iff.mpr W.tnd
  have low2 : ∀ r ∈ L' :: rows, ∀ a ∈ r, lowS a := fun r hr a ha => by
    rcases List.mem_cons.mp hr with e | hr
    · rw [e] at ha
      exact (W.ok a (hL'.mem_iff.mp ha)).low
    · obtain ⟨x, y, rfl, hx, hy⟩ := hrows r hr
      rcases List.mem_cons.mp ha with e | ha
      · rw [e]; exact (W.ok x hx).low
      · rw [List.mem_singleton.mp ha]; exact (W.ok y hy).low
  have len8 : ∀ r ∈ L' :: rows, ∀ a ∈ r, a.length ≤ 8 := fun r hr a ha => by
    rcases List.mem_cons.mp hr with e | hr
    · rw [e] at ha
      exact (W.ok a (hL'.mem_iff.mp ha)).l8
    · obtain ⟨x, y, rfl, hx, hy⟩ := hrows r hr
      rcases List.mem_cons.mp ha with e | ha
      · rw [e]; exact (W.ok x hx).l8
      · rw [List.mem_singleton.mp ha]; exact (W.ok y hy).l8
  have rl : ∀ r ∈ L' :: rows, r.length ≤ 100 := fun r hr => by
    rcases List.mem_cons.mp hr with e | hr
    · rw [e]; omega
    · obtain ⟨x, y, rfl, hx, hy⟩ := hrows r hr
      show 2 ≤ 100
      omega
  have s1 : sp1.length = 1 := by decide +kernel
  have n1 : nl1.length = 1 := by decide +kernel
  have jl : ∀ r ∈ L' :: rows, (Txt.join sp1 r).length ≤ 900 := fun r hr => by
    have h1 := join_len sp1 r
    have h2 := sum_le (fun y : PySem.Str => y.length) 8 r (len8 r hr)
    have h3 := rl r hr
    rw [s1] at h1
    omega
  have tl_ : (Txt.join nl1 ((L' :: rows).map (Txt.join sp1))).length + 2 ≤ sizeLine := by
    have h1 := join_len nl1 ((L' :: rows).map (Txt.join sp1))
    have h2 := sum_le (fun y : PySem.Str => y.length) 900 ((L' :: rows).map (Txt.join sp1)) fun x hx => by
      obtain ⟨r, hr, rfl⟩ := List.mem_map.mp hx
      exact jl r hr
    rw [List.length_map, List.length_cons] at h1 h2
    rw [n1] at h1
    have : (9100000 : Nat) ≤ sizeLine := by decide
    omega
  refine ⟨d_read_web, pr, rfl, ?_⟩
  show wB _ _ d_read_web.body _ [some (.str (Txt.join nl1 ((L' :: rows).map (Txt.join sp1)))), none, none, none, none, none, none] S
  unfold d_read_web
  simp! only []
  refine ⟨⟨_, rfl⟩, by decide +kernel, tl_, ?_⟩
  rw [split_nl (by simp) low2]
  obtain ⟨RR, hRR⟩ : ∃ RR, RR = (L' :: rows).map (Txt.join sp1) := ⟨_, rfl⟩
  have hRl : RR.length = rows.length + 1 := by rw [hRR, List.length_map, List.length_cons]
  rw [← hRR]
  generalize Txt.join nl1 RR = text
  refine ⟨by rw [List.length_map]; omega, ?_⟩
  have e0 : atI (wS_ RR) 0 = some (.str (Txt.join sp1 L')) := by
    rw [hRR]
    show atI (SV.str (Txt.join sp1 L') :: _) 0 = _
    rw [at_0]
  simp! only [e0]
  refine names_read_ok (k := k) pi pn gL gW gM (fun a ha => W.ok a (hL'.mem_iff.mp ha)) (hL'.nodup_iff.mpr W.nd) (by omega) ?_
  intro p hp
  simp! only [List.length_map, hRl]
  refine ⟨⟨by decide, by decide, by omega, by omega⟩, ?_⟩
  have er : (((rows.length + 1 : Nat) : Int) - 1).toNat = rows.length := by omega
  rw [er]
  refine for_inv (fun i ρ S' => ∃ (vs : List SV) (v4 v5 v6 : Option SV), ρ = [some (.str text), some (.lst (wS_ RR)), some (.lst (wS_ L')), some (.own p), v4, v5, v6] ∧ S' p = some (.dT (((rows.take i).map ordR).map kx) vs) ∧ i = vs.length ∧ ∀ a, a ≠ p → S' a = S a)
    ⟨[], none, none, none, rfl, by rw [supd_same]; rfl, rfl, fun a h => supd_ne h⟩ ?_ ?_
  · rintro i x ρ S1 D hx ⟨vs, v4, v5, v6, rfl, hD, hvl, fr⟩ nx _ _ _
    obtain ⟨rfl, hi⟩ := rng_at hx
    obtain ⟨r, hr⟩ : ∃ r, rows[i]? = some r := ⟨_, List.getElem?_eq_getElem hi⟩
    have hrm := List.mem_of_getElem? hr
    obtain ⟨a, b, rfl, ha, hb⟩ := hrows r hrm
    have ei : atI (wS_ RR) (1 + (i : Int)) = some (.str (Txt.join sp1 [a, b])) := by
      have e : (1 : Int) + (i : Int) = ((i + 1 : Nat) : Int) := by omega
      rw [e, hRR]
      refine atI_nat ?_
      rw [List.getElem?_map, List.getElem?_map, List.getElem?_cons_succ, hr]
      rfl
    have ha' : decide (a ∈ L') = true := decide_eq_true (hL'.mem_iff.mpr ha)
    have hb' : decide (b ∈ L') = true := decide_eq_true (hL'.mem_iff.mpr hb)
    simp! only [ei]
    refine ⟨⟨_, rfl⟩, by decide +kernel, by have := jl [a, b] (List.mem_cons_of_mem _ hrm); omega, ?_⟩
    rw [split_sp (by simp) (low2 [a, b] (List.mem_cons_of_mem _ hrm))]
    have hmT : [mnW a b, mxW a b] ∈ T := hT.mem_iff.mp (List.mem_map.mpr ⟨[a, b], hrm, rfl⟩)
    have hne := tied_pair hU W.sub hmT
    have okm : ∀ y ∈ [mnW a b, mxW a b], PyData.strOk y = true := fun y hy => by
      rcases mn_mem a b with ⟨e1, e2⟩ | ⟨e1, e2⟩ <;> rw [e1, e2] at hy <;> rcases List.mem_cons.mp hy with e | hy
      · rw [e]; exact ok a ha
      · rw [List.mem_singleton.mp hy]; exact ok b hb
      · rw [e]; exact ok b hb
      · rw [List.mem_singleton.mp hy]; exact ok a ha
    simp! only [List.map_cons, List.map_nil, List.length_cons, List.length_nil, inK_lst, in_words (ok a ha) ok', in_words (ok b hb) ok', ha', hb', Bool.xor_true, Bool.not_true]
    refine ⟨by omega, ?_⟩
    rw [decide_eq_true (show ((0 + 1 + 1 : Nat) : Int) = 2 by decide)]
    simp! only [Bool.not_true]
    refine in_order_ok (k := k + 1) po ?_
    have hkl : (((rows.take i).map ordR).map kx).length = vs.length := by rw [List.length_map, List.length_map, List.length_take, ← hvl]; omega
    have hnew : kx [mnW a b, mxW a b] ∉ ((rows.take i).map ordR).map kx := fun hm => by
      obtain ⟨z, hz, ez⟩ := List.mem_map.mp hm
      have e := kx_inj ez
      obtain ⟨y, hy, rfl⟩ := List.mem_map.mp hz
      obtain ⟨j, hj⟩ := List.mem_iff_getElem?.mp hy
      rw [List.getElem?_take] at hj
      split at hj
      · rename_i hji
        have h1 : (rows.map ordR)[j]? = some (ordR y) := by rw [List.getElem?_map, hj]; rfl
        have h2 : (rows.map ordR)[i]? = some (ordR y) := by
          rw [List.getElem?_map, hr, e]
          rfl
        have := nodup_ix ndr h1 h2
        omega
      · cases hj
    have hdT : ∀ k : SK, inK false (rS [mnW a b, mxW a b]) (.own p) S1 k = k (.bl false) S1 := fun k => by
      rw [in_dTo (b := false) hD hkl ⟨fun z => (by cases z), fun z => absurd z hnew⟩]
      rfl
    have k1 := okm _ List.mem_cons_self
    have k2 := okm _ (List.mem_cons_of_mem _ List.mem_cons_self)
    simp! only [idx_r0, idx_r1, eqS_str k1 k2, hdT, set_dT hD]
    refine ⟨.str (mnW a b), rfl, .str (mxW a b), rfl, ?_⟩
    rw [eqS_str k1 k2, if_neg (by simpa using hne)]
    refine ⟨by rw [hkl]; omega, nx _ _ ⟨vs ++ [.bl true], _, _, _, rfl, ?_, by rw [List.length_append, hvl]; rfl, fun a h => by rw [supd_ne h]; exact fr a h⟩⟩
    rw [supd_same]
    unfold putX
    rw [if_neg hnew, List.take_add_one, hr, List.map_append, List.map_append]
    rfl
  · rintro ρ S1 ⟨vs, v4, v5, v6, rfl, hD, hvl, fr⟩
    rw [rng_ln] at hD hvl
    rw [List.take_length] at hD
    refine ⟨p, wo S1 p, _, rfl, wo_sub, .dT hD wo_same, ?_⟩
    rw [wo_back hp fr]
    simp! only []
    rw [sorted_words rfl, up_perm hL' hU]
    simp! only [List.length_map]
    refine ⟨by omega, ?_⟩
    have hsrc : srcOf S (.dT ((rows.map ordR).map kx) vs) = some ((rows.map ordR).map rS) := by
      show some (((rows.map ordR).map kx).map fun r => SV.tup (r.map keySV)) = _
      rw [List.map_map]
      congr 1
      refine List.map_congr_left fun r _ => ?_
      show SV.tup ((kx r).map keySV) = _
      rw [keys_row]
    rw [sorted_rows' hsrc (fun r hr => by
      obtain ⟨x, y, e, _⟩ := pairs_of_mem (W.sub r (hT.mem_iff.mp hr))
      rw [e]
      simp), rows_perm hT W.tsrt]
    simp! only [List.length_map, List.length_cons, List.length_nil]
    exact ⟨by omega, by omega, fin_same q⟩
end
end Sy

namespace Sy
open PySem PySem.Spec PyProof.Rows L2
local macro_rules | `(tactic| simp! only [$ls,*]) => `(tactic| try simp only [callX_fold, mnA, mxA, strS, wB, wS, wT, wE, wA, wO, wC, tgS, binS, cmpS, biS, r1, r2, mtS, augS, cstS, splitS, opI_int, add_int, add_str, add_tup, add_ll, newL_f, newL_t, mul_int, ord_int, ord_str, int_int, int_bl, mn_int, mx_int, mn_str, mx_str, tuple_tup, tuple_tuf, tuple_lst, tuple_lstT, sl_lst, sl_tup, sl_scr, sl_str, it_lst, it_str, it_tup, it_tuf, it_enU, it_zU, it_rng1, it_rng2, it_enL, it_enT, it_zL, it_zT, List.set_cons_zero, List.set_cons_succ, List.getElem?_cons_zero, List.getElem?_cons_succ, some_ex, some_ex2, bl_ex, int_ex, eqS_int, idx_lst, idx_tup, idx_tuf, idx_str, len_lst, len_tup, len_tuf, len_scr, at_0, at_1, at_2, true_and, and_true, Int.fmod_eq_emod_of_nonneg, Int.fdiv_eq_ediv_of_nonneg, ne_eq, reduceCtorEq, not_false_eq_true, if_true, if_false, Bool.false_eq_true, decide_eq_true_eq, Int.reduceEq, Int.reduceLE, Int.reduceLT, $ls,*])
theorem perm_two {α : Type} {x y a b : α} (h : [x, y].Perm [a, b]) : (x = a ∧ y = b) ∨ (x = b ∧ y = a) := by
  have hx := h.mem_iff.mp (List.mem_cons_self (a := x) (l := [y]))
  rcases List.mem_cons.mp hx with e | e
  · subst e
    have := (List.perm_cons x).mp h
    exact .inl ⟨rfl, by simpa using this.mem_iff.mp (List.mem_singleton.mpr rfl)⟩
  · have e' := List.mem_singleton.mp e
    subst e'
    have h2 := h.trans (List.Perm.swap x a [])
    have := (List.perm_cons x).mp h2
    exact .inr ⟨rfl, by simpa using this.mem_iff.mp (List.mem_singleton.mpr rfl)⟩
section
variable {Pr : PySem.Str → Option Def} {g : PySem.Str → Option SV}
theorem text_ok (pt : Pr "_law_take" = some d_law_take) (ps : Pr "_law_shuffled" = some d_law_shuffled) (px : Pr "_law_text" = some d_law_text) {k n : Nat} {p c : Addr} {S : Sto} {L : List PySem.Str} {T : List (List PySem.Str)} {Q : SK} (W : WebOk L T n) (hn : n ≤ 40) (h : DkAt p c S)
    (q : ∀ text S', TextOf L T text → Dk p c S S' → Q (.str text) S') : callS Pr g (k + 3) "_law_text" [.own p, webS L T] S Q := by
  have big : (20000 : Nat) ≤ sizeLine := by decide
  have hlen := W.len
  have hpl : (pairsL L).length ≤ 780 := by
    have h4 := pairs_len L
    have h6 : L.length * (L.length - 1) ≤ 40 * 39 := Nat.mul_le_mul (by omega) (by omega)
    omega
  have hTl : T.length ≤ 780 := Nat.le_trans (nodup_len W.tnd W.sub) hpl
  have l8 : ∀ a ∈ L, a.length ≤ 8 := fun a ha => (W.ok a ha).l8
  have s1 : sp1.length = 1 := by decide +kernel
  have n1 : nl1.length = 1 := by decide +kernel
  refine ⟨d_law_text, px, rfl, ?_⟩
  show wB _ _ d_law_text.body _ [some (.own p), some (webS L T), none, none] S
  unfold d_law_text
  simp! only []
  refine ⟨⟨_, rfl⟩, ?_⟩
  refine shuffled_ok (k := k) pt ps h rfl (by rw [List.length_map]; omega) fun l1 S1 hp1 d1 => ?_
  obtain ⟨L', hL', rfl⟩ := perm_map_inv SV.str hp1 L rfl
  have hl' := hL'.length_eq
  have jL : (Txt.join sp1 L').length ≤ 900 := by
    have h1 := join_len sp1 L'
    have h2 := sum_le (fun y : PySem.Str => y.length) 8 L' fun x hx => l8 x (hL'.mem_iff.mp hx)
    rw [s1] at h1
    omega
  refine join_words rfl (by
    have h2 := sum_le (fun y : PySem.Str => y.length) 8 L' fun x hx => l8 x (hL'.mem_iff.mp hx)
    rw [s1]
    omega) ?_
  refine ⟨by show 1 ≤ sizeLine; omega, fun f hf => ?_⟩
  obtain ⟨hfp, hfc⟩ := d1.at.new hf
  simp! only []
  refine shuffled_ok (k := k) pt ps (d1.at.upd hfp hfc) rfl (by rw [List.length_map]; omega) fun l2 S2 hp2 d2 => ?_
  obtain ⟨T', hT', rfl⟩ := perm_map_inv rS hp2 T rfl
  have htl' := hT'.length_eq
  simp! only []
  refine for_inv (fun i ρ S' => ∃ (rows : List (List PySem.Str)) (v3 : Option SV), ρ = [some (.own p), some (webS L T), some (.own f), v3] ∧ S' f = some (.lst (wS_ ((L' :: rows).map (Txt.join sp1)))) ∧ rows.length = i ∧ rows.map ordR = T'.take i ∧ (∀ r ∈ rows, ∃ a b, r = [a, b] ∧ a ∈ L ∧ b ∈ L) ∧ DkAt p c S' ∧ ∀ a, a ≠ p → a ≠ c → a ≠ f → S' a = S1 a)
    ?_ ?_ ?_
  · refine ⟨[], none, rfl, ?_, rfl, rfl, ?_, d2.at, ?_⟩
    · rw [d2.2 f hfp hfc, supd_same]
      rfl
    · intro r hr
      cases hr
    · intro a h1 h2 h3
      rw [d2.2 a h1 h2, supd_ne h3]
  · rintro i x ρ S3 D hx ⟨rows, v3, rfl, hF, hrl, hro, hrm, d3, fr⟩ nx _ _ _
    rw [List.getElem?_map] at hx
    obtain ⟨r, hr, rfl⟩ := Option.map_eq_some_iff.mp hx
    have hi := (List.getElem?_eq_some_iff.mp hr).1
    have hmem : r ∈ T := hT'.mem_iff.mp (List.mem_of_getElem? hr)
    obtain ⟨a, b, rfl, ha, hb⟩ := pairs_of_mem (W.sub r hmem)
    simp! only []
    refine ⟨⟨_, items_own hF⟩, ⟨_, rfl⟩, ?_⟩
    refine shuffled_ok (k := k) pt ps d3 rfl (by show 2 ≤ 1000; omega) fun l3 S4 hp3 d4 => ?_
    obtain ⟨r', hr', rfl⟩ := perm_map_inv SV.str hp3 [a, b] rfl
    have hl2 := hr'.length_eq
    obtain ⟨x, y, rfl⟩ : ∃ x y, r' = [x, y] := by
      match r', hl2 with
      | [x, y], _ => exact ⟨x, y, rfl⟩
    have hx' : x ∈ L := by
      have := hr'.mem_iff.mp (List.mem_cons_self (a := x))
      rcases List.mem_cons.mp this with e | e
      · rw [e]; exact ha
      · rw [List.mem_singleton.mp e]; exact hb
    have hy' : y ∈ L := by
      have := hr'.mem_iff.mp (List.mem_cons_of_mem x (List.mem_cons_self (a := y)))
      rcases List.mem_cons.mp this with e | e
      · rw [e]; exact ha
      · rw [List.mem_singleton.mp e]; exact hb
    have hord : ordR [x, y] = [a, b] := by
      obtain ⟨u, v, hu, hv, hlt, e⟩ := (up_of W.srt W.nd).pairs.mp (W.sub _ hmem)
      cases e
      have h3 := mn_lt hlt
      have hc : (x = a ∧ y = b) ∨ (x = b ∧ y = a) := perm_two hr'
      rcases hc with ⟨rfl, rfl⟩ | ⟨rfl, rfl⟩
      · show [mnW x y, mxW x y] = [x, y]
        rw [h3.1, h3.2.1]
      · show [mnW x y, mxW x y] = [y, x]
        rw [h3.2.2.1, h3.2.2.2]
    have hF4 : S4 f = some (.lst (wS_ ((L' :: rows).map (Txt.join sp1)))) := (d4.2 f hfp hfc).trans hF
    refine join_words (ws := [x, y]) rfl (by
      have h1 := l8 x hx'
      have h2 := l8 y hy'
      rw [s1]
      simp only [List.map_cons, List.map_nil, List.sum_cons, List.sum_nil, List.length_cons, List.length_nil]
      omega) ?_
    rw [append_own hF4]
    refine ⟨by rw [List.length_map, List.length_map, List.length_cons]; omega, nx _ _ ⟨rows ++ [[x, y]], _, rfl, ?_, by rw [List.length_append, hrl]; rfl, ?_, ?_, d4.at.upd hfp hfc, fun z h1 h2 h3 => by rw [supd_ne h3, d4.2 z h1 h2]; exact fr z h1 h2 h3⟩⟩
    · rw [supd_same]
      congr 2
      show wS_ ((L' :: rows).map (Txt.join sp1)) ++ wS_ [Txt.join sp1 [x, y]] = _
      rw [← List.map_append]
      congr 1
      show _ = ((L' :: rows) ++ [[x, y]]).map (Txt.join sp1)
      rw [List.map_append]
      rfl
    · rw [List.map_append, hro, List.take_add_one, hr]
      show T'.take i ++ [ordR [x, y]] = _
      rw [hord]
      rfl
    · intro r hr
      rcases List.mem_append.mp hr with z | z
      · exact hrm r z
      · rw [List.mem_singleton.mp z]
        exact ⟨x, y, rfl, hx', hy'⟩
  · rintro ρ S3 ⟨rows, v3, rfl, hF, hrl, hro, hrm, d3, fr⟩
    rw [List.length_map] at hrl hro
    rw [List.take_length] at hro
    refine ⟨f, wo S3 f, _, rfl, wo_sub, wo_frz hF, ?_⟩
    have dkX : Dk p c S1 (wo S3 f) := Dk.wo hf d3 hfp hfc fr
    simp! only []
    refine ⟨⟨_, rfl⟩, join_words rfl ?_ ?_⟩
    · have h2 := sum_le (fun y : PySem.Str => y.length) 900 ((L' :: rows).map (Txt.join sp1)) fun x hx => by
        obtain ⟨r, hr, rfl⟩ := List.mem_map.mp hx
        rcases List.mem_cons.mp hr with e | hr
        · rw [e]; exact jL
        · obtain ⟨a, b, rfl, ha, hb⟩ := hrm r hr
          have h1 := join_len sp1 [a, b]
          have := l8 a ha
          have := l8 b hb
          rw [s1] at h1
          simp only [List.map_cons, List.map_nil, List.sum_cons, List.sum_nil, List.length_cons, List.length_nil] at h1
          omega
      rw [n1]
      rw [List.length_map, List.length_cons] at h2 ⊢
      omega
    · refine fin_same (q _ _ ⟨L', rows, hL', hrm, ?_, rfl⟩ (d1.trans dkX))
      rw [hro]
      exact hT'
end
end Sy

namespace Sy
def d_law : Def := ⟨["script"], ["script", "deck", "turn", "web", "again", "text"],
 (.cons (.asg (.one 1 "deck") (.call "_law_deck" (.cons (.var 0 "script") .nil)))
 (.cons (.for_ (.one 2 "turn") .rng1 (.cons (.cst (.int 8)) .nil) (.cons (.asg (.one 3 "web") (.call "_law_web" (.cons (.var 1 "deck") (.cons (.cst (.int 14)) .nil))))
 (.cons (.for_ (.one 4 "again") .rng1 (.cons (.cst (.int 2)) .nil) (.cons (.asg (.one 5 "text") (.call "_law_text" (.cons (.var 1 "deck") (.cons (.var 3 "web") .nil))))
 (.cons (.ifs (.or (.not (.call "_law_same" (.cons (.call "read_web" (.cons (.var 5 "text") .nil)) (.cons (.var 3 "web") .nil)))) (.not (.call "_law_same" (.cons (.call "read_web" (.cons (.var 5 "text") .nil)) (.cons (.var 3 "web") .nil))))) (.cons (.ret (.cst (.bool false)))
 .nil) .nil)
 .nil)))
 .nil)))
 (.cons (.ret (.and (.cmp .Eq (.call "read_web" (.cons (.cst (.str "")) .nil)) (.tup (.cons (.tup .nil) (.cons (.tup .nil) .nil)))) (.cmp .Eq (.call "read_web" (.cons (.cst (.str "b a\nb a")) .nil)) (.tup (.cons (.tup (.cons (.cst (.str "a")) (.cons (.cst (.str "b")) .nil))) (.cons (.tup (.cons (.tup (.cons (.cst (.str "a")) (.cons (.cst (.str "b")) .nil))) .nil)) .nil))))))
 .nil)))⟩

def tabs : List (PySem.Str × Def) := [("is_name", d_is_name), ("in_order", d_in_order), ("names_read", d_names_read), ("read_web", d_read_web), ("_law_deck", d_law_deck), ("_law_take", d_law_take), ("_law_names", d_law_names), ("_law_size", d_law_size), ("_law_web", d_law_web), ("_law_same", d_law_same), ("_law_shuffled", d_law_shuffled), ("_law_text", d_law_text), ("law", d_law)]
def Pr (f : PySem.Str) : Option Def := tabs.lookup f
def gl0 : PySem.Str → Option SV := fun x => if x = "LETTERS" then some (.str abc) else if x = "WORDS" then some (.tuf (wS_ ownW)) else if x = "MOST_SIGNS" then some (.int 8) else none
theorem gL : gl0 "LETTERS" = some (.str abc) := by rfl
theorem gW : gl0 "WORDS" = some (.tuf (wS_ ownW)) := by rfl
theorem gM : gl0 "MOST_SIGNS" = some (.int 8) := by rfl
theorem p_is_name : Pr "is_name" = some d_is_name := by rfl
theorem p_in_order : Pr "in_order" = some d_in_order := by rfl
theorem p_names_read : Pr "names_read" = some d_names_read := by rfl
theorem p_read_web : Pr "read_web" = some d_read_web := by rfl
theorem p_deck : Pr "_law_deck" = some d_law_deck := by rfl
theorem p_take : Pr "_law_take" = some d_law_take := by rfl
theorem p_names : Pr "_law_names" = some d_law_names := by rfl
theorem p_size : Pr "_law_size" = some d_law_size := by rfl
theorem p_web : Pr "_law_web" = some d_law_web := by rfl
theorem p_same : Pr "_law_same" = some d_law_same := by rfl
theorem p_shuffled : Pr "_law_shuffled" = some d_law_shuffled := by rfl
theorem p_text : Pr "_law_text" = some d_law_text := by rfl
theorem p_law : Pr "law" = some d_law := by rfl
end Sy

namespace Sy
open PySem PySem.Spec PyProof.Rows L2
local macro_rules | `(tactic| simp! only [$ls,*]) => `(tactic| try simp only [callX_fold, mnA, mxA, strS, wB, wS, wT, wE, wA, wO, wC, tgS, binS, cmpS, biS, r1, r2, mtS, augS, cstS, splitS, opI_int, add_int, add_str, add_tup, add_ll, newL_f, newL_t, mul_int, ord_int, ord_str, int_int, int_bl, mn_int, mx_int, mn_str, mx_str, tuple_tup, tuple_tuf, tuple_lst, tuple_lstT, sl_lst, sl_tup, sl_scr, sl_str, it_lst, it_str, it_tup, it_tuf, it_enU, it_zU, it_rng1, it_rng2, it_enL, it_enT, it_zL, it_zT, List.set_cons_zero, List.set_cons_succ, List.getElem?_cons_zero, List.getElem?_cons_succ, some_ex, some_ex2, bl_ex, int_ex, eqS_int, idx_lst, idx_tup, idx_tuf, idx_str, len_lst, len_tup, len_tuf, len_scr, at_0, at_1, at_2, true_and, and_true, Int.fmod_eq_emod_of_nonneg, Int.fdiv_eq_ediv_of_nonneg, ne_eq, reduceCtorEq, not_false_eq_true, if_true, if_false, Bool.false_eq_true, decide_eq_true_eq, Int.reduceEq, Int.reduceLE, Int.reduceLT, $ls,*])
theorem web_fl {L : List PySem.Str} {T : List (List PySem.Str)} {n : Nat} (W : WebOk L T n) (hn : n ≤ 40) : Fl 4 (webS L T) := by
  have hlen := W.len
  have hpl : (pairsL L).length ≤ 780 := by
    have h4 := pairs_len L
    have h6 : L.length * (L.length - 1) ≤ 40 * 39 := Nat.mul_le_mul (by omega) (by omega)
    omega
  have hTl : T.length ≤ 780 := Nat.le_trans (nodup_len W.tnd W.sub) hpl
  have ok : ∀ a ∈ L, PyData.strOk a = true := fun a ha => low_ok (W.ok a ha).low
  refine .tup 3 (by show 2 ≤ 20000; decide) fun x hx => ?_
  rcases List.mem_cons.mp hx with e | hx
  · rw [e]
    refine .tuf 2 (by rw [List.length_map]; omega) fun y hy => ?_
    obtain ⟨a, ha, rfl⟩ := List.mem_map.mp hy
    exact .str 1 (ok a ha)
  · rw [List.mem_singleton.mp hx]
    refine .tuf 2 (by rw [List.length_map]; omega) fun y hy => ?_
    obtain ⟨r, hr, rfl⟩ := List.mem_map.mp hy
    obtain ⟨a, b, rfl, ha, hb⟩ := pairs_of_mem (W.sub r hr)
    refine .tup 1 (by show 2 ≤ 20000; decide) fun z hz => ?_
    obtain ⟨u, hu, rfl⟩ := List.mem_map.mp hz
    refine .str 0 ?_
    rcases List.mem_cons.mp hu with e | hu
    · rw [e]; exact ok a ha
    · rw [List.mem_singleton.mp hu]; exact ok b hb
theorem web0 : WebOk [] [] 0 := ⟨List.nodup_nil, .nil, fun a h => by (cases h), Nat.le_refl _, fun r h => by (cases h), List.nodup_nil, .nil⟩
theorem text0 : TextOf [] [] "" := ⟨[], [], .nil, fun r h => by (cases h), .nil, by decide +kernel⟩
theorem web2 : WebOk ["a", "b"] [["a", "b"]] 2 := by
  refine ⟨by decide +kernel, ?_, fun a h => ?_, by decide, fun r h => ?_, by simp, by simp⟩
  · exact .cons (fun b hb => by rw [List.mem_singleton.mp hb]; decide +kernel) (.cons (fun b hb => by cases hb) .nil)
  · have one : ∀ a : PySem.Str, ((wk a).all fun c => decide (97 ≤ c) && decide (c ≤ 122)) = true → a.length = 1 → decide (a ∈ ownW) = false → WOk a := fun a h1 h2 h3 =>
      ⟨fun c hc => by
        have := List.all_eq_true.mp h1 c hc
        simpa using this, by omega, by omega, of_decide_eq_false h3⟩
    rcases List.mem_cons.mp h with e | h
    · rw [e]; exact one _ (by decide +kernel) (by decide +kernel) (by decide +kernel)
    · rw [List.mem_singleton.mp h]; exact one _ (by decide +kernel) (by decide +kernel) (by decide +kernel)
  · rw [List.mem_singleton.mp h]
    exact List.mem_cons_self
theorem text2 : TextOf ["a", "b"] [["a", "b"]] "b a\nb a" := by
  refine ⟨["b", "a"], [["b", "a"]], List.Perm.swap _ _ _, fun r h => ?_, ?_, by decide +kernel⟩
  · rw [List.mem_singleton.mp h]
    exact ⟨"b", "a", rfl, by simp, by simp⟩
  · have e : ([[("b" : PySem.Str), "a"]]).map ordR = [[("a" : PySem.Str), "b"]] := by decide +kernel
    rw [e]
theorem law_gives : Gives Pr gl0 40 := by
  intro ns hl
  have big : (20000 : Nat) ≤ sizeLine := by decide
  refine ⟨d_law, p_law, rfl, ?_⟩
  show wB _ _ d_law.body _ [some (.scr (ns.map SV.int)), none, none, none, none, none] (fun _ => none)
  unfold d_law
  simp! only []
  refine deck_ok p_deck hl fun p c S1 hp hc d1 => ?_
  refine ⟨by decide, by decide, for_inv (fun _ ρ S' => ∃ v2 v3 v4 v5 : Option SV, ρ = [some (.scr (ns.map SV.int)), some (.own p), v2, v3, v4, v5] ∧ DkAt p c S')
    ⟨none, none, none, none, rfl, d1.at⟩ ?_ ?_⟩
  · rintro i x ρ S2 D hx ⟨v2, v3, v4, v5, rfl, dk⟩ nx _ rt _
    simp! only []
    refine web_ok p_take p_names p_size p_web dk (by decide) (by decide) fun L T S3 W d3 => ?_
    have hfl := web_fl W (by omega)
    refine ⟨by decide, by decide, for_inv (fun _ ρ S' => ∃ v4 v5 : Option SV, ρ = [some (.scr (ns.map SV.int)), some (.own p), some x, some (webS L T), v4, v5] ∧ DkAt p c S')
      ⟨_, _, rfl, d3.at⟩ ?_ ?_⟩
    · rintro i1 y ρ S4 D1 hy ⟨v4, v5, rfl, dk4⟩ nx1 _ rt1 _
      simp! only []
      refine text_ok (k := 36) p_take p_shuffled p_text W (by omega) dk4 fun text S5 X d5 => ?_
      refine read_web_ok (k := 36) p_is_name p_names_read p_in_order p_read_web gL gW gM W (by omega) X ?_
      refine same_ok p_same hfl (by omega) ?_
      simp! only [Bool.not_true]
      refine read_web_ok (k := 36) p_is_name p_names_read p_in_order p_read_web gL gW gM W (by omega) X ?_
      refine same_ok p_same hfl (by omega) ?_
      simp! only [Bool.not_true]
      exact nx1 _ _ ⟨_, _, rfl, d5.at⟩
    · rintro ρ S4 ⟨v4, v5, rfl, dk4⟩
      exact nx _ _ ⟨_, _, _, _, rfl, dk4⟩
  · rintro ρ S2 ⟨v2, v3, v4, v5, rfl, dk⟩
    simp! only []
    refine read_web_ok (k := 36) p_is_name p_names_read p_in_order p_read_web gL gW gM web0 (by omega) text0 ?_
    refine ⟨by show 0 ≤ sizeLine; omega, by show 0 ≤ sizeLine; omega, by show 2 ≤ sizeLine; omega, ?_⟩
    rw [eqS_of (d := .tuple [.tuple [], .tuple []]) (e := .tuple [.tuple [], .tuple []]) rfl rfl (by decide +kernel) (by decide +kernel)]
    rw [if_pos (by decide +kernel)]
    refine read_web_ok (k := 36) p_is_name p_names_read p_in_order p_read_web gL gW gM web2 (by omega) text2 ?_
    refine ⟨by show 2 ≤ sizeLine; omega, by show 2 ≤ sizeLine; omega, by show 1 ≤ sizeLine; omega, by show 2 ≤ sizeLine; omega, ?_⟩
    rw [eqS_of (d := .tuple [.tuple [.str "a", .str "b"], .tuple [.tuple [.str "a", .str "b"]]]) (e := .tuple [.tuple [.str "a", .str "b"], .tuple [.tuple [.str "a", .str "b"]]]) rfl rfl (by decide +kernel) (by decide +kernel)]
    refine fin_same ?_
    have e : PyData.eqv (.tuple [.tuple [.str "a", .str "b"], .tuple [.tuple [.str "a", .str "b"]]]) (.tuple [.tuple [.str "a", .str "b"], .tuple [.tuple [.str "a", .str "b"]]]) = true := by decide +kernel
    rw [e]
end Sy

namespace Lk
open PySem PySem.Spec PyProof.Rows L2 Sy
def top (i : Nat) : Stmt := PySem.Challenge.pw_eachgreatest_k01_webs_read.main.body.getD i (.Pass ⟨0, 0, 0, 0⟩)
abbrev s_is_name : Stmt := top 7
abbrev s_in_order : Stmt := top 8
abbrev s_names_read : Stmt := top 9
abbrev s_read_web : Stmt := top 10
abbrev s_law_deck : Stmt := top 12
abbrev s_law_take : Stmt := top 13
abbrev s_law_names : Stmt := top 14
abbrev s_law_size : Stmt := top 15
abbrev s_law_web : Stmt := top 16
abbrev s_law_same : Stmt := top 18
abbrev s_law_shuffled : Stmt := top 19
abbrev s_law_text : Stmt := top 20
abbrev s_law : Stmt := top 21
abbrev names : List PySem.Str := "is_name" :: "in_order" :: "names_read" :: "read_web" :: "_law_deck" :: "_law_take" :: "_law_names" :: "_law_size" :: "_law_web" :: "_law_same" :: "_law_shuffled" :: "_law_text" :: "law" :: []
abbrev excs : List PySem.Str := []
abbrev mths : List (PySem.Str × PySem.Str × PySem.Str) := []
abbrev mnames : List PySem.Str := []
theorem sc_is_name : FnScope d_is_name.N d_is_name.ps (defScope s_is_name) := ⟨rfl, rfl, rfl, by decide +kernel, rfl, by decide +kernel, by decide +kernel⟩
theorem cb_is_name : cB ⟨d_is_name.N, names, excs, false, mths⟩ (defScope s_is_name) d_is_name.body (defBody s_is_name) = true := by decide +kernel
theorem sc_in_order : FnScope d_in_order.N d_in_order.ps (defScope s_in_order) := ⟨rfl, rfl, rfl, by decide +kernel, rfl, by decide +kernel, by decide +kernel⟩
theorem cb_in_order : cB ⟨d_in_order.N, names, excs, false, mths⟩ (defScope s_in_order) d_in_order.body (defBody s_in_order) = true := by decide +kernel
theorem sc_names_read : FnScope d_names_read.N d_names_read.ps (defScope s_names_read) := ⟨rfl, rfl, rfl, by decide +kernel, rfl, by decide +kernel, by decide +kernel⟩
theorem cb_names_read : cB ⟨d_names_read.N, names, excs, false, mths⟩ (defScope s_names_read) d_names_read.body (defBody s_names_read) = true := by decide +kernel
theorem sc_read_web : FnScope d_read_web.N d_read_web.ps (defScope s_read_web) := ⟨rfl, rfl, rfl, by decide +kernel, rfl, by decide +kernel, by decide +kernel⟩
theorem cb_read_web : cB ⟨d_read_web.N, names, excs, false, mths⟩ (defScope s_read_web) d_read_web.body (defBody s_read_web) = true := by decide +kernel
theorem sc_law_deck : FnScope d_law_deck.N d_law_deck.ps (defScope s_law_deck) := ⟨rfl, rfl, rfl, by decide +kernel, rfl, by decide +kernel, by decide +kernel⟩
theorem cb_law_deck : cB ⟨d_law_deck.N, names, excs, false, mths⟩ (defScope s_law_deck) d_law_deck.body (defBody s_law_deck) = true := by decide +kernel
theorem sc_law_take : FnScope d_law_take.N d_law_take.ps (defScope s_law_take) := ⟨rfl, rfl, rfl, by decide +kernel, rfl, by decide +kernel, by decide +kernel⟩
theorem cb_law_take : cB ⟨d_law_take.N, names, excs, false, mths⟩ (defScope s_law_take) d_law_take.body (defBody s_law_take) = true := by decide +kernel
theorem sc_law_names : FnScope d_law_names.N d_law_names.ps (defScope s_law_names) := ⟨rfl, rfl, rfl, by decide +kernel, rfl, by decide +kernel, by decide +kernel⟩
theorem cb_law_names : cB ⟨d_law_names.N, names, excs, false, mths⟩ (defScope s_law_names) d_law_names.body (defBody s_law_names) = true := by decide +kernel
theorem sc_law_size : FnScope d_law_size.N d_law_size.ps (defScope s_law_size) := ⟨rfl, rfl, rfl, by decide +kernel, rfl, by decide +kernel, by decide +kernel⟩
theorem cb_law_size : cB ⟨d_law_size.N, names, excs, false, mths⟩ (defScope s_law_size) d_law_size.body (defBody s_law_size) = true := by decide +kernel
theorem sc_law_web : FnScope d_law_web.N d_law_web.ps (defScope s_law_web) := ⟨rfl, rfl, rfl, by decide +kernel, rfl, by decide +kernel, by decide +kernel⟩
theorem cb_law_web : cB ⟨d_law_web.N, names, excs, false, mths⟩ (defScope s_law_web) d_law_web.body (defBody s_law_web) = true := by decide +kernel
theorem sc_law_same : FnScope d_law_same.N d_law_same.ps (defScope s_law_same) := ⟨rfl, rfl, rfl, by decide +kernel, rfl, by decide +kernel, by decide +kernel⟩
theorem cb_law_same : cB ⟨d_law_same.N, names, excs, false, mths⟩ (defScope s_law_same) d_law_same.body (defBody s_law_same) = true := by decide +kernel
theorem sc_law_shuffled : FnScope d_law_shuffled.N d_law_shuffled.ps (defScope s_law_shuffled) := ⟨rfl, rfl, rfl, by decide +kernel, rfl, by decide +kernel, by decide +kernel⟩
theorem cb_law_shuffled : cB ⟨d_law_shuffled.N, names, excs, false, mths⟩ (defScope s_law_shuffled) d_law_shuffled.body (defBody s_law_shuffled) = true := by decide +kernel
theorem sc_law_text : FnScope d_law_text.N d_law_text.ps (defScope s_law_text) := ⟨rfl, rfl, rfl, by decide +kernel, rfl, by decide +kernel, by decide +kernel⟩
theorem cb_law_text : cB ⟨d_law_text.N, names, excs, false, mths⟩ (defScope s_law_text) d_law_text.body (defBody s_law_text) = true := by decide +kernel
theorem sc_law : FnScope d_law.N d_law.ps (defScope s_law) := ⟨rfl, rfl, rfl, by decide +kernel, rfl, by decide +kernel, by decide +kernel⟩
theorem cb_law : cB ⟨d_law.N, names, excs, false, mths⟩ (defScope s_law) d_law.body (defBody s_law) = true := by decide +kernel
theorem all_mk {l : PySem.W.OpenLaw} {w : World} {K : PySem.W.Frag} {h : Heap} {mg : PySem.Str → Option Value} {fa : Addr} (X : K.In h) (G : h.Ns mainGlobals mg) (hfa : mg "law" = some (.ref fa))
    {f1 f2 f3 f4 f5 f6 f7 f8 f9 f10 f11 f12 f13 : Addr} {od1 an1 od2 an2 od3 an3 od4 an4 od5 an5 od6 an6 od7 an7 od8 an8 od9 an9 od10 an10 od11 an11 od12 an12 od13 an13 : Option Addr} {sl1 sl2 sl3 sl4 sl5 sl6 sl7 sl8 sl9 sl10 sl11 sl12 sl13 : Array (Option Value)} {oc1 kV1 dc1 pm1 cd1 ct1 oc2 kV2 dc2 pm2 cd2 ct2 oc3 kV3 dc3 pm3 cd3 ct3 oc4 kV4 dc4 pm4 cd4 ct4 oc5 kV5 dc5 pm5 cd5 ct5 oc6 kV6 dc6 pm6 cd6 ct6 oc7 kV7 dc7 pm7 cd7 ct7 oc8 kV8 dc8 pm8 cd8 ct8 oc9 kV9 dc9 pm9 cd9 ct9 oc10 kV10 dc10 pm10 cd10 ct10 oc11 kV11 dc11 pm11 cd11 ct11 oc12 kV12 dc12 pm12 cd12 ct12 oc13 kV13 dc13 pm13 cd13 ct13 : Value}
    (a1 : PySem.W.nsIn K mainGlobals "is_name" = some (some (.ref f1))) (l1 : K.lookup f1 = some ⟨oc1, od1, .func (PySem.W.fnOf "is_name" "is_name" (defArgs s_is_name) (defBody s_is_name) (defScope s_is_name) .none kV1 dc1 pm1 an1 cd1 ct1), sl1⟩) (c1 : PySem.W.codeIn K cd1 "is_name" = true) (k1 : PySem.W.keepIn K (.ref f1) = true)
    (a2 : PySem.W.nsIn K mainGlobals "in_order" = some (some (.ref f2))) (l2 : K.lookup f2 = some ⟨oc2, od2, .func (PySem.W.fnOf "in_order" "in_order" (defArgs s_in_order) (defBody s_in_order) (defScope s_in_order) .none kV2 dc2 pm2 an2 cd2 ct2), sl2⟩) (c2 : PySem.W.codeIn K cd2 "in_order" = true) (k2 : PySem.W.keepIn K (.ref f2) = true)
    (a3 : PySem.W.nsIn K mainGlobals "names_read" = some (some (.ref f3))) (l3 : K.lookup f3 = some ⟨oc3, od3, .func (PySem.W.fnOf "names_read" "names_read" (defArgs s_names_read) (defBody s_names_read) (defScope s_names_read) .none kV3 dc3 pm3 an3 cd3 ct3), sl3⟩) (c3 : PySem.W.codeIn K cd3 "names_read" = true) (k3 : PySem.W.keepIn K (.ref f3) = true)
    (a4 : PySem.W.nsIn K mainGlobals "read_web" = some (some (.ref f4))) (l4 : K.lookup f4 = some ⟨oc4, od4, .func (PySem.W.fnOf "read_web" "read_web" (defArgs s_read_web) (defBody s_read_web) (defScope s_read_web) .none kV4 dc4 pm4 an4 cd4 ct4), sl4⟩) (c4 : PySem.W.codeIn K cd4 "read_web" = true) (k4 : PySem.W.keepIn K (.ref f4) = true)
    (a5 : PySem.W.nsIn K mainGlobals "_law_deck" = some (some (.ref f5))) (l5 : K.lookup f5 = some ⟨oc5, od5, .func (PySem.W.fnOf "_law_deck" "_law_deck" (defArgs s_law_deck) (defBody s_law_deck) (defScope s_law_deck) .none kV5 dc5 pm5 an5 cd5 ct5), sl5⟩) (c5 : PySem.W.codeIn K cd5 "_law_deck" = true) (k5 : PySem.W.keepIn K (.ref f5) = true)
    (a6 : PySem.W.nsIn K mainGlobals "_law_take" = some (some (.ref f6))) (l6 : K.lookup f6 = some ⟨oc6, od6, .func (PySem.W.fnOf "_law_take" "_law_take" (defArgs s_law_take) (defBody s_law_take) (defScope s_law_take) .none kV6 dc6 pm6 an6 cd6 ct6), sl6⟩) (c6 : PySem.W.codeIn K cd6 "_law_take" = true) (k6 : PySem.W.keepIn K (.ref f6) = true)
    (a7 : PySem.W.nsIn K mainGlobals "_law_names" = some (some (.ref f7))) (l7 : K.lookup f7 = some ⟨oc7, od7, .func (PySem.W.fnOf "_law_names" "_law_names" (defArgs s_law_names) (defBody s_law_names) (defScope s_law_names) .none kV7 dc7 pm7 an7 cd7 ct7), sl7⟩) (c7 : PySem.W.codeIn K cd7 "_law_names" = true) (k7 : PySem.W.keepIn K (.ref f7) = true)
    (a8 : PySem.W.nsIn K mainGlobals "_law_size" = some (some (.ref f8))) (l8 : K.lookup f8 = some ⟨oc8, od8, .func (PySem.W.fnOf "_law_size" "_law_size" (defArgs s_law_size) (defBody s_law_size) (defScope s_law_size) .none kV8 dc8 pm8 an8 cd8 ct8), sl8⟩) (c8 : PySem.W.codeIn K cd8 "_law_size" = true) (k8 : PySem.W.keepIn K (.ref f8) = true)
    (a9 : PySem.W.nsIn K mainGlobals "_law_web" = some (some (.ref f9))) (l9 : K.lookup f9 = some ⟨oc9, od9, .func (PySem.W.fnOf "_law_web" "_law_web" (defArgs s_law_web) (defBody s_law_web) (defScope s_law_web) .none kV9 dc9 pm9 an9 cd9 ct9), sl9⟩) (c9 : PySem.W.codeIn K cd9 "_law_web" = true) (k9 : PySem.W.keepIn K (.ref f9) = true)
    (a10 : PySem.W.nsIn K mainGlobals "_law_same" = some (some (.ref f10))) (l10 : K.lookup f10 = some ⟨oc10, od10, .func (PySem.W.fnOf "_law_same" "_law_same" (defArgs s_law_same) (defBody s_law_same) (defScope s_law_same) .none kV10 dc10 pm10 an10 cd10 ct10), sl10⟩) (c10 : PySem.W.codeIn K cd10 "_law_same" = true) (k10 : PySem.W.keepIn K (.ref f10) = true)
    (a11 : PySem.W.nsIn K mainGlobals "_law_shuffled" = some (some (.ref f11))) (l11 : K.lookup f11 = some ⟨oc11, od11, .func (PySem.W.fnOf "_law_shuffled" "_law_shuffled" (defArgs s_law_shuffled) (defBody s_law_shuffled) (defScope s_law_shuffled) .none kV11 dc11 pm11 an11 cd11 ct11), sl11⟩) (c11 : PySem.W.codeIn K cd11 "_law_shuffled" = true) (k11 : PySem.W.keepIn K (.ref f11) = true)
    (a12 : PySem.W.nsIn K mainGlobals "_law_text" = some (some (.ref f12))) (l12 : K.lookup f12 = some ⟨oc12, od12, .func (PySem.W.fnOf "_law_text" "_law_text" (defArgs s_law_text) (defBody s_law_text) (defScope s_law_text) .none kV12 dc12 pm12 an12 cd12 ct12), sl12⟩) (c12 : PySem.W.codeIn K cd12 "_law_text" = true) (k12 : PySem.W.keepIn K (.ref f12) = true)
    (a13 : PySem.W.nsIn K mainGlobals "law" = some (some (.ref f13))) (l13 : K.lookup f13 = some ⟨oc13, od13, .func (PySem.W.fnOf "law" "law" (defArgs s_law) (defBody s_law) (defScope s_law) .none kV13 dc13 pm13 an13 cd13 ct13), sl13⟩) (c13 : PySem.W.codeIn K cd13 "law" = true) (k13 : PySem.W.keepIn K (.ref f13) = true)
    (z_allrows : PySem.W.nsIn K mainGlobals "all_rows" = some none)
    (z_len : PySem.W.nsIn K mainGlobals "len" = some none)
    (z_sorted : PySem.W.nsIn K mainGlobals "sorted" = some none)
    (z_tuple : PySem.W.nsIn K mainGlobals "tuple" = some none)
    (z_list : PySem.W.nsIn K mainGlobals "list" = some none)
    (z_min : PySem.W.nsIn K mainGlobals "min" = some none)
    (z_max : PySem.W.nsIn K mainGlobals "max" = some none)
    (z_sum : PySem.W.nsIn K mainGlobals "sum" = some none)
    (z_all : PySem.W.nsIn K mainGlobals "all" = some none)
    (z_any : PySem.W.nsIn K mainGlobals "any" = some none)
    (z_abs : PySem.W.nsIn K mainGlobals "abs" = some none)
    (z_int : PySem.W.nsIn K mainGlobals "int" = some none)
    (z_str : PySem.W.nsIn K mainGlobals "str" = some none)
    (z_dict : PySem.W.nsIn K mainGlobals "dict" = some none)
    (z_isinstance : PySem.W.nsIn K mainGlobals "isinstance" = some none)
    (z_bool : PySem.W.nsIn K mainGlobals "bool" = some none)
    (z_range : PySem.W.nsIn K mainGlobals "range" = some none)
    (z_enumerate : PySem.W.nsIn K mainGlobals "enumerate" = some none)
    (z_zip : PySem.W.nsIn K mainGlobals "zip" = some none)
    (z_set : PySem.W.nsIn K mainGlobals "set" = some none)
    (z_ValueError : PySem.W.nsIn K mainGlobals "ValueError" = some none)
    {tL : Tok} (g_LETTERS : PySem.W.nsIn K mainGlobals "LETTERS" = some (some (.str abc tL)))
    {tM : Tok} (g_MOST_SIGNS : PySem.W.nsIn K mainGlobals "MOST_SIGNS" = some (some (.int 8 tM)))
    {wA : Addr} {tw0 tw1 tw2 tw3 tw4 tw5 tw6 tw7 tw8 tw9 tw10 tw11 tw12 tw13 tw14 tw15 : Tok} {wn : Nat} {wsl : Array (Option Value)} (g_WORDS : PySem.W.nsIn K mainGlobals "WORDS" = some (some (.ref wA)))
    (l_WORDS : K.lookup wA = some ⟨.type "tuple", none, .seq #[.str "web" tw0, .str "put" tw1, .str "take" tw2, .str "tie" tw3, .str "untie" tw4, .str "show" tw5, .str "first" tw6, .str "next" tw7, .str "all" tw8, .str "count" tw9, .str "sizes" tw10, .str "biggest" tw11, .str "fill" tw12, .str "tied" tw13, .str "apart" tw14, .str "cover" tw15] wn, wsl⟩)
    : PySem.W.nsIn K mainGlobals "all_rows" = some none ∧ ∃ fd : FuncData, (∀ (s : Shared) (v : Value), BindsTo s fd ⟨[v], []⟩ [("script", v)]) ∧ ∀ base : Heap, K.In base → base.Ns mainGlobals mg → TabH K mg base → FnOk l.prog w K mg base CX0 80 fa fd ["script"] (spLaw K) := by
  have e := hfa.symm.trans (PySem.W.mg_of X G a13)
  cases e
  have O : ModOk K mg names excs mths Pr gl0 := by
    refine ⟨by decide +kernel, fun f => ?_, fun t => ?_, PySem.W.mg_none_of X G z_range, PySem.W.mg_none_of X G z_enumerate, PySem.W.mg_none_of X G z_zip, PySem.W.mg_none_of X G z_set, fun f hf => ?_, fun f h hd => (List.mem_append.mp (show f ∈ names ++ mnames from lookup_mem (l := tabs) h)).resolve_right (fun z => by rw [(show ∀ x ∈ mnames, noDot x = false by decide +kernel) f z] at hd; cases hd), fun f c m hf => (by cases hf), fun c fld hc h1 B hB => (by cases hc), fun x v e => ?_, fun f hf => ?_, PySem.W.mg_none_of X G z_ValueError, fun c hc => (by cases hc), fun c hc h0 => (by cases hc)⟩
    · cases f with
      | len => exact PySem.W.mg_none_of X G z_len
      | sorted => exact PySem.W.mg_none_of X G z_sorted
      | tuple => exact PySem.W.mg_none_of X G z_tuple
      | list => exact PySem.W.mg_none_of X G z_list
      | mn => exact PySem.W.mg_none_of X G z_min
      | mx => exact PySem.W.mg_none_of X G z_max
      | sum => exact PySem.W.mg_none_of X G z_sum
      | all => exact PySem.W.mg_none_of X G z_all
      | any => exact PySem.W.mg_none_of X G z_any
      | abs => exact PySem.W.mg_none_of X G z_abs
      | int => exact PySem.W.mg_none_of X G z_int
      | str => exact PySem.W.mg_none_of X G z_str
      | dict => exact PySem.W.mg_none_of X G z_dict
      | isinst => exact PySem.W.mg_none_of X G z_isinstance
    · cases t with
      | tuple => exact PySem.W.mg_none_of X G z_tuple
      | list => exact PySem.W.mg_none_of X G z_list
      | str => exact PySem.W.mg_none_of X G z_str
      | int => exact PySem.W.mg_none_of X G z_int
      | bool => exact PySem.W.mg_none_of X G z_bool
    · rcases List.mem_cons.mp hf with e | hf
      · rw [e]
        exact ⟨_, PySem.W.mg_of X G a1, a1⟩
      rcases List.mem_cons.mp hf with e | hf
      · rw [e]
        exact ⟨_, PySem.W.mg_of X G a2, a2⟩
      rcases List.mem_cons.mp hf with e | hf
      · rw [e]
        exact ⟨_, PySem.W.mg_of X G a3, a3⟩
      rcases List.mem_cons.mp hf with e | hf
      · rw [e]
        exact ⟨_, PySem.W.mg_of X G a4, a4⟩
      rcases List.mem_cons.mp hf with e | hf
      · rw [e]
        exact ⟨_, PySem.W.mg_of X G a5, a5⟩
      rcases List.mem_cons.mp hf with e | hf
      · rw [e]
        exact ⟨_, PySem.W.mg_of X G a6, a6⟩
      rcases List.mem_cons.mp hf with e | hf
      · rw [e]
        exact ⟨_, PySem.W.mg_of X G a7, a7⟩
      rcases List.mem_cons.mp hf with e | hf
      · rw [e]
        exact ⟨_, PySem.W.mg_of X G a8, a8⟩
      rcases List.mem_cons.mp hf with e | hf
      · rw [e]
        exact ⟨_, PySem.W.mg_of X G a9, a9⟩
      rcases List.mem_cons.mp hf with e | hf
      · rw [e]
        exact ⟨_, PySem.W.mg_of X G a10, a10⟩
      rcases List.mem_cons.mp hf with e | hf
      · rw [e]
        exact ⟨_, PySem.W.mg_of X G a11, a11⟩
      rcases List.mem_cons.mp hf with e | hf
      · rw [e]
        exact ⟨_, PySem.W.mg_of X G a12, a12⟩
      rcases List.mem_cons.mp hf with e | hf
      · rw [e]
        exact ⟨_, PySem.W.mg_of X G a13, a13⟩
      · cases hf
    · unfold gl0 at e
      split at e
      · rename_i hx
        cases e
        rw [hx]
        exact ⟨.str abc, _, PySem.W.mg_of X G g_LETTERS, ⟨tL, rfl⟩, rfl⟩
      · skip
        split at e
        · rename_i hx
          cases e
          rw [hx]
          refine ⟨.ref wA, _, PySem.W.mg_of X G g_WORDS, rfl, ⟨wA, ownW.map V.str, rfl, .inr ⟨_, _, _, l_WORDS, rfl, rfl, rfl, (show 16 ≤ sizeLine by decide), ?_⟩, rep_of_strs ownW⟩⟩
          show Vals [V.str "web", V.str "put", V.str "take", V.str "tie", V.str "untie", V.str "show", V.str "first", V.str "next", V.str "all", V.str "count", V.str "sizes", V.str "biggest", V.str "fill", V.str "tied", V.str "apart", V.str "cover"] [Value.str "web" tw0, Value.str "put" tw1, Value.str "take" tw2, Value.str "tie" tw3, Value.str "untie" tw4, Value.str "show" tw5, Value.str "first" tw6, Value.str "next" tw7, Value.str "all" tw8, Value.str "count" tw9, Value.str "sizes" tw10, Value.str "biggest" tw11, Value.str "fill" tw12, Value.str "tied" tw13, Value.str "apart" tw14, Value.str "cover" tw15]
          exact .cons ⟨tw0, rfl⟩ (.cons ⟨tw1, rfl⟩ (.cons ⟨tw2, rfl⟩ (.cons ⟨tw3, rfl⟩ (.cons ⟨tw4, rfl⟩ (.cons ⟨tw5, rfl⟩ (.cons ⟨tw6, rfl⟩ (.cons ⟨tw7, rfl⟩ (.cons ⟨tw8, rfl⟩ (.cons ⟨tw9, rfl⟩ (.cons ⟨tw10, rfl⟩ (.cons ⟨tw11, rfl⟩ (.cons ⟨tw12, rfl⟩ (.cons ⟨tw13, rfl⟩ (.cons ⟨tw14, rfl⟩ (.cons ⟨tw15, rfl⟩ (.nil))))))))))))))))
        · skip
          split at e
          · rename_i hx
            cases e
            rw [hx]
            exact ⟨.int 8, _, PySem.W.mg_of X G g_MOST_SIGNS, ⟨tM, rfl⟩, rfl⟩
          · skip
            cases e
    rcases List.mem_cons.mp hf with e | hf
    · rw [e]
      exact ⟨d_is_name, by rfl, ⟨s_is_name, _, _, PySem.W.mg_of X G a1, fun_mk (st := s_is_name) l1 c1 k1, sc_is_name, cb_is_name, (fun_mk (st := s_is_name) l1 c1 k1).binds (ps := d_is_name.ps) fun _ _ _ _ _ _ us hl => match us, hl with | [_], _ => rfl⟩⟩
    rcases List.mem_cons.mp hf with e | hf
    · rw [e]
      exact ⟨d_in_order, by rfl, ⟨s_in_order, _, _, PySem.W.mg_of X G a2, fun_mk (st := s_in_order) l2 c2 k2, sc_in_order, cb_in_order, (fun_mk (st := s_in_order) l2 c2 k2).binds (ps := d_in_order.ps) fun _ _ _ _ _ _ us hl => match us, hl with | [_, _], _ => rfl⟩⟩
    rcases List.mem_cons.mp hf with e | hf
    · rw [e]
      exact ⟨d_names_read, by rfl, ⟨s_names_read, _, _, PySem.W.mg_of X G a3, fun_mk (st := s_names_read) l3 c3 k3, sc_names_read, cb_names_read, (fun_mk (st := s_names_read) l3 c3 k3).binds (ps := d_names_read.ps) fun _ _ _ _ _ _ us hl => match us, hl with | [_], _ => rfl⟩⟩
    rcases List.mem_cons.mp hf with e | hf
    · rw [e]
      exact ⟨d_read_web, by rfl, ⟨s_read_web, _, _, PySem.W.mg_of X G a4, fun_mk (st := s_read_web) l4 c4 k4, sc_read_web, cb_read_web, (fun_mk (st := s_read_web) l4 c4 k4).binds (ps := d_read_web.ps) fun _ _ _ _ _ _ us hl => match us, hl with | [_], _ => rfl⟩⟩
    rcases List.mem_cons.mp hf with e | hf
    · rw [e]
      exact ⟨d_law_deck, by rfl, ⟨s_law_deck, _, _, PySem.W.mg_of X G a5, fun_mk (st := s_law_deck) l5 c5 k5, sc_law_deck, cb_law_deck, (fun_mk (st := s_law_deck) l5 c5 k5).binds (ps := d_law_deck.ps) fun _ _ _ _ _ _ us hl => match us, hl with | [_], _ => rfl⟩⟩
    rcases List.mem_cons.mp hf with e | hf
    · rw [e]
      exact ⟨d_law_take, by rfl, ⟨s_law_take, _, _, PySem.W.mg_of X G a6, fun_mk (st := s_law_take) l6 c6 k6, sc_law_take, cb_law_take, (fun_mk (st := s_law_take) l6 c6 k6).binds (ps := d_law_take.ps) fun _ _ _ _ _ _ us hl => match us, hl with | [_, _], _ => rfl⟩⟩
    rcases List.mem_cons.mp hf with e | hf
    · rw [e]
      exact ⟨d_law_names, by rfl, ⟨s_law_names, _, _, PySem.W.mg_of X G a7, fun_mk (st := s_law_names) l7 c7 k7, sc_law_names, cb_law_names, (fun_mk (st := s_law_names) l7 c7 k7).binds (ps := d_law_names.ps) fun _ _ _ _ _ _ us hl => match us, hl with | [_, _], _ => rfl⟩⟩
    rcases List.mem_cons.mp hf with e | hf
    · rw [e]
      exact ⟨d_law_size, by rfl, ⟨s_law_size, _, _, PySem.W.mg_of X G a8, fun_mk (st := s_law_size) l8 c8 k8, sc_law_size, cb_law_size, (fun_mk (st := s_law_size) l8 c8 k8).binds (ps := d_law_size.ps) fun _ _ _ _ _ _ us hl => match us, hl with | [_, _], _ => rfl⟩⟩
    rcases List.mem_cons.mp hf with e | hf
    · rw [e]
      exact ⟨d_law_web, by rfl, ⟨s_law_web, _, _, PySem.W.mg_of X G a9, fun_mk (st := s_law_web) l9 c9 k9, sc_law_web, cb_law_web, (fun_mk (st := s_law_web) l9 c9 k9).binds (ps := d_law_web.ps) fun _ _ _ _ _ _ us hl => match us, hl with | [_, _], _ => rfl⟩⟩
    rcases List.mem_cons.mp hf with e | hf
    · rw [e]
      exact ⟨d_law_same, by rfl, ⟨s_law_same, _, _, PySem.W.mg_of X G a10, fun_mk (st := s_law_same) l10 c10 k10, sc_law_same, cb_law_same, (fun_mk (st := s_law_same) l10 c10 k10).binds (ps := d_law_same.ps) fun _ _ _ _ _ _ us hl => match us, hl with | [_, _], _ => rfl⟩⟩
    rcases List.mem_cons.mp hf with e | hf
    · rw [e]
      exact ⟨d_law_shuffled, by rfl, ⟨s_law_shuffled, _, _, PySem.W.mg_of X G a11, fun_mk (st := s_law_shuffled) l11 c11 k11, sc_law_shuffled, cb_law_shuffled, (fun_mk (st := s_law_shuffled) l11 c11 k11).binds (ps := d_law_shuffled.ps) fun _ _ _ _ _ _ us hl => match us, hl with | [_, _], _ => rfl⟩⟩
    rcases List.mem_cons.mp hf with e | hf
    · rw [e]
      exact ⟨d_law_text, by rfl, ⟨s_law_text, _, _, PySem.W.mg_of X G a12, fun_mk (st := s_law_text) l12 c12 k12, sc_law_text, cb_law_text, (fun_mk (st := s_law_text) l12 c12 k12).binds (ps := d_law_text.ps) fun _ _ _ _ _ _ us hl => match us, hl with | [_, _], _ => rfl⟩⟩
    rcases List.mem_cons.mp hf with e | hf
    · rw [e]
      exact ⟨d_law, by rfl, ⟨s_law, _, _, PySem.W.mg_of X G a13, fun_mk (st := s_law) l13 c13 k13, sc_law, cb_law, (fun_mk (st := s_law) l13 c13 k13).binds (ps := d_law.ps) fun _ _ _ _ _ _ us hl => match us, hl with | [_], _ => rfl⟩⟩
    · cases hf
  refine ⟨z_allrows, ?_⟩
  exact ⟨PySem.W.fnOf "law" "law" (defArgs s_law) (defBody s_law) (defScope s_law) .none kV13 dc13 pm13 an13 cd13 ct13, fun s v => .of_eq rfl, fun base _ _ HT =>
    FnOk.imp (fn_law (k := 39) O HT p_law (by decide +kernel) (PySem.W.mg_of X G a13) (fun_mk (st := s_law) l13 c13 k13) sc_law cb_law) fun vs H Q E z => law_imp law_gives vs H Q E z⟩
end Lk
open PySem PySem.W PyProof.Rows in
set_option maxRecDepth 100000 in
set_option maxHeartbeats 0 in
theorem PySem.Challenge.cw_eachgreatest_k01_webs_read_holds : PySem.Challenge.rw_eachgreatest_k01_webs_read.Holds := by
  w_on; o_law; k_head; (case hw => w_witness2)
  k_fill
  refine Sy.walk_plain (l := PySem.Challenge.rw_eachgreatest_k01_webs_read) rfl rfl (fun w h Y => PySem.W.kIn_of Y) ?F
  case F =>
    intro w mg fa h KX G hmg
    refine' Lk.all_mk KX G hmg ?a1 ?l1 ?c1 ?k1 ?a2 ?l2 ?c2 ?k2 ?a3 ?l3 ?c3 ?k3 ?a4 ?l4 ?c4 ?k4 ?a5 ?l5 ?c5 ?k5 ?a6 ?l6 ?c6 ?k6 ?a7 ?l7 ?c7 ?k7 ?a8 ?l8 ?c8 ?k8 ?a9 ?l9 ?c9 ?k9 ?a10 ?l10 ?c10 ?k10 ?a11 ?l11 ?c11 ?k11 ?a12 ?l12 ?c12 ?k12 ?a13 ?l13 ?c13 ?k13 ?z_allrows ?z_len ?z_sorted ?z_tuple ?z_list ?z_min ?z_max ?z_sum ?z_all ?z_any ?z_abs ?z_int ?z_str ?z_dict ?z_isinstance ?z_bool ?z_range ?z_enumerate ?z_zip ?z_set ?z_ValueError ?g_LETTERS ?g_MOST_SIGNS ?g_WORDS ?l_WORDS
    (case a1 => k_is)
    (case l1 => k_is)
    (case c1 => k_is)
    (case k1 => k_is)
    (case a2 => k_is)
    (case l2 => k_is)
    (case c2 => k_is)
    (case k2 => k_is)
    (case a3 => k_is)
    (case l3 => k_is)
    (case c3 => k_is)
    (case k3 => k_is)
    (case a4 => k_is)
    (case l4 => k_is)
    (case c4 => k_is)
    (case k4 => k_is)
    (case a5 => k_is)
    (case l5 => k_is)
    (case c5 => k_is)
    (case k5 => k_is)
    (case a6 => k_is)
    (case l6 => k_is)
    (case c6 => k_is)
    (case k6 => k_is)
    (case a7 => k_is)
    (case l7 => k_is)
    (case c7 => k_is)
    (case k7 => k_is)
    (case a8 => k_is)
    (case l8 => k_is)
    (case c8 => k_is)
    (case k8 => k_is)
    (case a9 => k_is)
    (case l9 => k_is)
    (case c9 => k_is)
    (case k9 => k_is)
    (case a10 => k_is)
    (case l10 => k_is)
    (case c10 => k_is)
    (case k10 => k_is)
    (case a11 => k_is)
    (case l11 => k_is)
    (case c11 => k_is)
    (case k11 => k_is)
    (case a12 => k_is)
    (case l12 => k_is)
    (case c12 => k_is)
    (case k12 => k_is)
    (case a13 => k_is)
    (case l13 => k_is)
    (case c13 => k_is)
    (case k13 => k_is)
    (case z_allrows => k_is)
    (case z_len => k_is)
    (case z_sorted => k_is)
    (case z_tuple => k_is)
    (case z_list => k_is)
    (case z_min => k_is)
    (case z_max => k_is)
    (case z_sum => k_is)
    (case z_all => k_is)
    (case z_any => k_is)
    (case z_abs => k_is)
    (case z_int => k_is)
    (case z_str => k_is)
    (case z_dict => k_is)
    (case z_isinstance => k_is)
    (case z_bool => k_is)
    (case z_range => k_is)
    (case z_enumerate => k_is)
    (case z_zip => k_is)
    (case z_set => k_is)
    (case z_ValueError => k_is)
    (case g_LETTERS => k_is)
    (case g_MOST_SIGNS => k_is)
    (case g_WORDS => k_is)
    (case l_WORDS => k_is)
#print axioms PySem.Challenge.cw_eachgreatest_k01_webs_read_holds
